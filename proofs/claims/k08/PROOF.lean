import PyProof.Rows.All
import Wide.All
import OpenK.AllK
import Wide.FinOn
import HandS.ForMost
import HandS.ForExc
import HandS.Defaults
import HandS.IsInst
import KE.KEqNest
import HandS.Conv
import HandS.SortInts
import HandS.Style
import HandS.Flow
import HandS.DictComp
import HandS.TryOnly
import HandS.ExcOwn
import HandS.Set
import HandS.CallSlots
import HandS.MakeKwOnly
import HandS.FStr
import HandS.Finally
import HandS.SortOrd
import HandS.Sort
import HandS.SetBool
import HandS.Ends
import HandS.HeadEnd
import PyProof.ReprRoads
import KE.KStateDown
import Lean
import HandS.Words
import HandS.WordsExc
import HandS.Head0
import HandS.Head1
import HandS.Head2
import HandS.HeadHook1
import HandS.HeadHook2
import PySem.Challenge.RW_wishedland_k08_whole_anew
set_option Elab.async false
set_option linter.all false
set_option maxRecDepth 100000
set_option maxHeartbeats 4000000
/-! M3A: a small machine of trees and cells over the abstract heap: data, worlds, what represents what. -/
namespace M3
open PySem L2

/-! ### data -/
inductive D where
  | non | bl (b : Bool) | int (i : Int) | str (s : Str) | cell (n : Nat) | scr (xs : List D)
  | lst (xs : List D) | tup (xs : List D) | dic (ks : List (Key × D)) | ins (c : Nat) (fs : List (Str × D)) | sym (k : Nat) | txt (ks : List (Key × D))
  deriving Inhabited
inductive Ob where
  | lst (xs : List D) | dic (ks : List (Key × D)) | ins (c : Nat) (fs : List (Str × D))
/-- the machine's store: cells, the next free one, the locked ones -/
structure S3 where
  cs : Nat → Option Ob
  nx : Nat
  lk : List Nat
structure Exn where
  c : Nat
  fs : List (Str × D)
inductive R (α : Type) where
  | ok (a : α) (s : S3)
  | ex (e : Exn) (s : S3)
  | bad
def R.bind {α β : Type} (r : R α) (f : α → S3 → R β) : R β := match r with
  | .ok a s => f a s
  | .ex e s => .ex e s
  | .bad => .bad
abbrev Ev := List (Option D)
abbrev CE := Ev → S3 → R D
inductive SR where
  | nx (v : Ev) (s : S3)
  | rt (d : D) (s : S3)
  | bk (v : Ev) (s : S3)
  | ct (v : Ev) (s : S3)
  | ex (e : Exn) (v : Ev) (s : S3)
  | bad
abbrev SC := Ev → S3 → SR
abbrev Fn := List D → S3 → R D

def S3.set (S : S3) (n : Nat) (o : Ob) : S3 := { S with cs := fun m => cond (Nat.beq m n) (some o) (S.cs m) }
def S3.new (S : S3) (o : Ob) : S3 := { S with cs := fun m => cond (Nat.beq m S.nx) (some o) (S.cs m), nx := Nat.succ S.nx }
def S3.kill (S : S3) (n : Nat) : S3 := { S with cs := fun m => cond (Nat.beq m n) none (S.cs m) }
theorem condN {α : Type} (m n : Nat) (x y : α) : cond (Nat.beq m n) x y = if m = n then x else y := by
  by_cases h : m = n
  · rw [if_pos h, Nat.beq_eq.mpr h]; rfl
  · rw [if_neg h, Bool.eq_false_iff.mpr (fun z => h (Nat.beq_eq.mp z))]; rfl

/-! ### tables -/
section
variable {κ : Type} [DecidableEq κ] {α : Type}
def getA : List (κ × α) → κ → Option α
  | [], _ => none
  | (k, v) :: r, j => if k = j then some v else getA r j
def putA : List (κ × α) → κ → α → List (κ × α)
  | [], j, x => [(j, x)]
  | (k, v) :: r, j, x => if k = j then (k, x) :: r else (k, v) :: putA r j x
def dropA (l : List (κ × α)) (j : κ) : List (κ × α) := l.filter fun p => decide (p.1 ≠ j)
end

/-! ### worlds -/
structure Wld where
  ph : List Addr
  F : Hp
structure Wld.Le (g g' : Wld) : Prop where
  ph : ∀ (n : Nat) (a : Addr), g.ph[n]? = some a → g'.ph[n]? = some a
  fr : ∀ a u, g.F a = some u → g'.F a = some u
theorem Wld.Le.refl (g : Wld) : g.Le g := ⟨fun _ _ h => h, fun _ _ h => h⟩
theorem Wld.Le.trans {g g1 g2 : Wld} (a : g.Le g1) (b : g1.Le g2) : g.Le g2 := ⟨fun n x h => b.ph n x (a.ph n x h), fun x u h => b.fr x u (a.fr x u h)⟩

/-- where the classes stand, what the head saw -/
structure CAK where
  f : Nat → Addr
  K : PySem.W.Frag
  /-- what the symbolic numbers stand for -/
  sy : Nat → Int := fun _ => 0
  syB : ∀ k, 0 ≤ sy k ∧ sy k < 10 ^ 10 := by intro k; exact ⟨by show (0 : Int) ≤ 0; decide, by show (0 : Int) < _; decide⟩
instance : CoeFun CAK (fun _ => Nat → Addr) := ⟨CAK.f⟩
/-- flat data as it is read, the symbolic numbers put in -/
def pdFlatY (y : Nat → Int) : D → Option PyData
  | .non => some .none
  | .bl b => some (.bool b)
  | .int i => if i.natAbs.log2 < 1920 then some (.int i) else none
  | .str z => some (.str z)
  | .sym k => some (.int (y k))
  | _ => none
def keyP : Key → Option PyData
  | .inl i => if i.natAbs.log2 < 1920 then some (.int i) else none
  | .inr s => some (.str s)
def pdKvY (y : Nat → Int) : List (Key × D) → Option (List (PyData × PyData))
  | [] => some []
  | (k, d) :: r => match keyP k, pdFlatY y d, pdKvY y r with
    | some a, some b, some c => some ((a, b) :: c)
    | _, _, _ => none
/-- a list among the head's objects -/
def KLst (K : PySem.W.Frag) (a : Addr) (xs : List V) : Prop := ∃ (o : Obj) (its : Array Value) (n : Nat), K.lookup a = some o ∧ o.cls = .type "list" ∧ o.dict = none ∧ o.data = .seq its n ∧ its.size ≤ sizeLine ∧ Vals xs its.toList
variable (ca : CAK)
mutual
inductive Rep (g : Wld) : V → D → Prop
  | non : Rep g .non .non
  | bl (b : Bool) : Rep g (.bl b) (.bl b)
  | int (i : Int) : Rep g (.int i) (.int i)
  | sym (k : Nat) : Rep g (.int (ca.sy k)) (.sym k)
  | txt {ks : List (Key × D)} {ps : List (PyData × PyData)} : pdKvY ca.sy ks = some ps → Rep g (.str (PyData.dict ps).shown) (.txt ks)
  | str (s : Str) : Rep g (.str s) (.str s)
  | cell {n : Nat} {a : Addr} : g.ph[n]? = some a → Rep g (.ref a) (.cell n)
  | lst {a : Addr} {vs : List V} {ds : List D} : g.F a = some (.lst vs) → RepL g vs ds → Rep g (.ref a) (.lst ds)
  | scrK {a : Addr} {vs : List V} {ds : List D} : KLst ca.K a vs → RepL g vs ds → Rep g (.ref a) (.scr ds)
  | scrF {a : Addr} {vs : List V} {ds : List D} : g.F a = some (.lst vs) → RepL g vs ds → Rep g (.ref a) (.scr ds)
  | tup {a : Addr} {vs : List V} {ds : List D} : g.F a = some (.tup vs) → RepL g vs ds → Rep g (.ref a) (.tup ds)
  | dic {a : Addr} {vs : List (Key × V)} {ds : List (Key × D)} : g.F a = some (.dK vs) → RepK g vs ds → Rep g (.ref a) (.dic ds)
  | ins {a dx : Addr} {c : Nat} {vs : List (Str × V)} {ds : List (Str × D)} : g.F a = some (.ins (ca c) dx vs) → RepF g vs ds → Rep g (.ref a) (.ins c ds)
inductive RepL (g : Wld) : List V → List D → Prop
  | nil : RepL g [] []
  | cons {v : V} {d : D} {vs : List V} {ds : List D} : Rep g v d → RepL g vs ds → RepL g (v :: vs) (d :: ds)
inductive RepK (g : Wld) : List (Key × V) → List (Key × D) → Prop
  | nil : RepK g [] []
  | cons {k : Key} {v : V} {d : D} {vs : List (Key × V)} {ds : List (Key × D)} : Rep g v d → RepK g vs ds → RepK g ((k, v) :: vs) ((k, d) :: ds)
inductive RepF (g : Wld) : List (Str × V) → List (Str × D) → Prop
  | nil : RepF g [] []
  | cons {k : Str} {v : V} {d : D} {vs : List (Str × V)} {ds : List (Str × D)} : Rep g v d → RepF g vs ds → RepF g ((k, v) :: vs) ((k, d) :: ds)
end
inductive RepO (g : Wld) : Ob → HO → Prop
  | lst {vs : List V} {ds : List D} : RepL ca g vs ds → RepO g (.lst ds) (.lst vs)
  | dic {vs : List (Key × V)} {ds : List (Key × D)} : RepK ca g vs ds → RepO g (.dic ds) (.dK vs)
  | ins {dx : Addr} {c : Nat} {vs : List (Str × V)} {ds : List (Str × D)} : RepF ca g vs ds → RepO g (.ins c ds) (.ins (ca c) dx vs)

variable {ca}
mutual
theorem Rep.mono {g g' : Wld} (h : g.Le g') : ∀ {v : V} {d : D}, Rep ca g v d → Rep ca g' v d
  | _, _, .non => .non
  | _, _, .bl b => .bl b
  | _, _, .int i => .int i
  | _, _, .sym k => .sym k
  | _, _, .txt e => .txt e
  | _, _, .str s => .str s
  | _, _, .cell e => .cell (h.ph _ _ e)
  | _, _, .lst e r => .lst (h.fr _ _ e) (RepL.mono h r)
  | _, _, .scrK e r => .scrK e (RepL.mono h r)
  | _, _, .scrF e r => .scrF (h.fr _ _ e) (RepL.mono h r)
  | _, _, .tup e r => .tup (h.fr _ _ e) (RepL.mono h r)
  | _, _, .dic e r => .dic (h.fr _ _ e) (RepK.mono h r)
  | _, _, .ins e r => .ins (h.fr _ _ e) (RepF.mono h r)
theorem RepL.mono {g g' : Wld} (h : g.Le g') : ∀ {v : List V} {d : List D}, RepL ca g v d → RepL ca g' v d
  | _, _, .nil => .nil
  | _, _, .cons r t => .cons (Rep.mono h r) (RepL.mono h t)
theorem RepK.mono {g g' : Wld} (h : g.Le g') : ∀ {v : List (Key × V)} {d : List (Key × D)}, RepK ca g v d → RepK ca g' v d
  | _, _, .nil => .nil
  | _, _, .cons r t => .cons (Rep.mono h r) (RepK.mono h t)
theorem RepF.mono {g g' : Wld} (h : g.Le g') : ∀ {v : List (Str × V)} {d : List (Str × D)}, RepF ca g v d → RepF ca g' v d
  | _, _, .nil => .nil
  | _, _, .cons r t => .cons (Rep.mono h r) (RepF.mono h t)
end
theorem RepO.mono {g g' : Wld} (h : g.Le g') {o : Ob} {u : HO} : RepO ca g o u → RepO ca g' o u
  | .lst r => .lst (r.mono h)
  | .dic r => .dic (r.mono h)
  | .ins r => .ins (r.mono h)

/-- how a frozen thing stands: a list, a dict may be locked -/
def FrzAs (H : Hp) (a : Addr) : HO → Prop
  | .lst xs => Rd H a (.lst xs)
  | .dK ks => Rd H a (.dK ks)
  | .tup xs => H a = some (.tup xs)
  | .ins C dx fs => H a = some (.ins C dx fs)
  | _ => False
/-- how a cell stands -/
def CelAs (lk : List Nat) (H : Hp) (n : Nat) (a : Addr) (u : HO) : Prop := (n ∈ lk → ∃ o, H a = some (.frz o u)) ∧ (n ∉ lk → H a = some u)
/-- what may be locked -/
def Lkb : Ob → Prop
  | .ins _ _ => False
  | _ => True
variable (ca)
structure Sim (g : Wld) (S : S3) (H : Hp) : Prop where
  len : g.ph.length = S.nx
  inj : g.ph.Nodup
  frz : ∀ a u, g.F a = some u → FrzAs H a u
  cel : ∀ (n : Nat) (ob : Ob), S.cs n = some ob → ∃ a u, g.ph[n]? = some a ∧ g.F a = none ∧ RepO ca g ob u ∧ CelAs S.lk H n a u
  old : ∀ (n : Nat) (a : Addr), g.ph[n]? = some a → H a ≠ none
  lkd : ∀ (n : Nat), n ∈ S.lk → ∃ ob, S.cs n = some ob ∧ Lkb ob
/-- a thing of H that the world doesn't speak of -/
def Out (g : Wld) (a : Addr) : Prop := (∀ n : Nat, g.ph[n]? ≠ some a) ∧ g.F a = none
/-- later worlds -/
structure Ext (g : Wld) (H : Hp) (g' : Wld) (H' : Hp) : Prop where
  le : g.Le g'
  fz : ∀ a o u, H a = some (.frz o u) → H' a = some (.frz o u)
  old : ∀ a, H a ≠ none → H' a ≠ none
  nph : ∀ (n : Nat) (a : Addr), g'.ph[n]? = some a → g.ph[n]? = some a ∨ H a = none
  nfr : ∀ a u, g'.F a = some u → g.F a = some u ∨ H a = none ∨ ∃ n : Nat, g.ph[n]? = some a
  rest : ∀ a o, H a = some o → Out g a → H' a = some o
variable {ca}
theorem Ext.refl (g : Wld) (H : Hp) : Ext g H g H := ⟨.refl g, fun _ _ _ h => h, fun _ h => h, fun _ _ h => .inl h, fun _ _ h => .inl h, fun _ _ h _ => h⟩
theorem Ext.out {g g' : Wld} {H H' : Hp} (x : Ext g H g' H') {a : Addr} (h : Out g a) (e : H a ≠ none) : Out g' a := by
  refine ⟨fun n q => ?_, ?_⟩
  · rcases x.nph n a q with z | z
    · exact h.1 n z
    · exact e z
  · cases q : g'.F a with
    | none => rfl
    | some u =>
      rcases x.nfr a u q with z | z | ⟨n, z⟩
      · rw [h.2] at z; cases z
      · exact absurd z e
      · exact absurd z (h.1 n)
theorem Ext.trans {g g1 g2 : Wld} {H H1 H2 : Hp} (a : Ext g H g1 H1) (b : Ext g1 H1 g2 H2) : Ext g H g2 H2 where
  le := a.le.trans b.le
  fz := fun x o u h => b.fz x o u (a.fz x o u h)
  old := fun x h => b.old x (a.old x h)
  nph := fun n x h => by
    rcases b.nph n x h with z | z
    · exact a.nph n x z
    · by_cases e : H x = none
      · exact .inr e
      · exact absurd z (a.old x e)
  nfr := fun x u h => by
    rcases b.nfr x u h with z | z | ⟨n, z⟩
    · exact a.nfr x u z
    · by_cases e : H x = none
      · exact .inr (.inl e)
      · exact absurd z (a.old x e)
    · rcases a.nph n x z with q | q
      · exact .inr (.inr ⟨n, q⟩)
      · exact .inr (.inl q)
  rest := fun x o h q => b.rest x o (a.rest x o h q) (a.out q (by rw [h]; exact fun z => nomatch z))
/-- a thing that was not there ahead is written -/
theorem Ext.upd {g g' : Wld} {H H' : Hp} (x : Ext g H g' H') {p : Addr} (hp : H p = none) (o : HO) : Ext g H g' (L2.upd H' p o) where
  le := x.le
  fz := fun a q u h => by rw [upd_ne (ne_of_none h hp)]; exact x.fz a q u h
  old := fun a h => by
    by_cases e : a = p
    · rw [e, upd_same]; exact fun z => nomatch z
    · rw [upd_ne e]; exact x.old a h
  nph := x.nph
  nfr := x.nfr
  rest := fun a q h z => by rw [upd_ne (ne_of_none h hp)]; exact x.rest a q h z

/-! ### slots -/
variable (ca)
structure EnvR (g : Wld) (v : Ev) (σ : St) : Prop where
  len : v.length = σ.length
  at_ : ∀ (i : Nat) (d : D), v[i]? = some (some d) → ∃ x, σ[i]? = some (some x) ∧ Rep ca g x d
variable {ca}
theorem EnvR.mono {g g' : Wld} (h : g.Le g') {v : Ev} {σ : St} (e : EnvR ca g v σ) : EnvR ca g' v σ := ⟨e.len, fun i d q => let ⟨x, a, b⟩ := e.at_ i d q; ⟨x, a, b.mono h⟩⟩
theorem EnvR.set {g : Wld} {v : Ev} {σ : St} (e : EnvR ca g v σ) (i : Nat) {x : V} {d : D} (r : Rep ca g x d) : EnvR ca g (v.set i (some d)) (σ.set i (some x)) := by
  refine ⟨by rw [List.length_set, List.length_set, e.len], fun j d' q => ?_⟩
  by_cases hj : i = j
  · subst hj
    by_cases hi : i < v.length
    · rw [List.getElem?_set_self hi] at q
      cases q
      exact ⟨x, List.getElem?_set_self (by rw [← e.len]; exact hi), r⟩
    · rw [List.getElem?_eq_none (by rw [List.length_set]; omega)] at q
      cases q
  · rw [List.getElem?_set_ne hj] at q
    rw [List.getElem?_set_ne hj]
    exact e.at_ j d' q
theorem EnvR.unset {g : Wld} {v : Ev} {σ : St} (e : EnvR ca g v σ) (i : Nat) : EnvR ca g (v.set i none) (σ.set i none) := by
  refine ⟨by rw [List.length_set, List.length_set, e.len], fun j d' q => ?_⟩
  by_cases hj : i = j
  · subst hj
    by_cases hi : i < v.length
    · rw [List.getElem?_set_self hi] at q; cases q
    · rw [List.getElem?_eq_none (by rw [List.length_set]; omega)] at q; cases q
  · rw [List.getElem?_set_ne hj] at q
    rw [List.getElem?_set_ne hj]
    exact e.at_ j d' q

/-! ### what follows a run -/
variable (ca)
def Fin {α : Type} (g : Wld) (H : Hp) (r : R α) (QO : α → Wld → Hp → Prop) (QE : Exn → Wld → Hp → Prop) : Prop := match r with
  | .ok a S' => ∀ g' H', Ext g H g' H' → Sim ca g' S' H' → QO a g' H'
  | .ex e S' => ∀ g' H', Ext g H g' H' → Sim ca g' S' H' → QE e g' H'
  | .bad => False
/-- an exception and its words -/
def RepX (g : Wld) (H : Hp) (cls : Value) (od : Option Addr) (e : Exn) : Prop :=
  cls = .ref (ca e.c) ∧ match e.fs with
    | [] => od = none
    | f :: r => ∃ dx vs, od = some dx ∧ H dx = some (.xd vs) ∧ RepF ca g vs (f :: r)
def rdE (W : WX) (m : CE) : TE := fun σ H Q => ∃ v S g, Sim ca g S H ∧ EnvR ca g v σ ∧
  Fin ca g H (m v S) (fun d g' H' => ∀ x, Rep ca g' x d → Q x H') (fun e g' H' => ∀ cls od, RepX ca g' H' cls od e → W cls od σ H')
variable {ca}
theorem Fin.imp {α : Type} {g : Wld} {H : Hp} {r : R α} {QO QO' : α → Wld → Hp → Prop} {QE QE' : Exn → Wld → Hp → Prop} (h : Fin ca g H r QO QE)
    (ho : ∀ a g' H', Ext g H g' H' → QO a g' H' → QO' a g' H') (he : ∀ e g' H', Ext g H g' H' → QE e g' H' → QE' e g' H') : Fin ca g H r QO' QE' := by
  cases r with
  | ok a S => exact fun g' H' x s => ho a g' H' x (h g' H' x s)
  | ex e S => exact fun g' H' x s => he e g' H' x (h g' H' x s)
  | bad => exact h
theorem Fin.bind {α β : Type} {g : Wld} {H : Hp} {r : R α} {f : α → S3 → R β} {QO : β → Wld → Hp → Prop} {QE : Exn → Wld → Hp → Prop} (h : Fin ca g H (r.bind f) QO QE) :
    Fin ca g H r (fun _ _ _ => True) QE ∧ ∀ a S', r = .ok a S' → ∀ g' H', Ext g H g' H' → Sim ca g' S' H' → Fin ca g' H' (f a S') QO QE := by
  cases r with
  | ok a S =>
    refine ⟨fun _ _ _ _ => True.intro, fun a' S' e g' H' x s => ?_⟩
    cases e
    have h' : Fin ca g H (f a S) QO QE := h
    generalize f a S = q at h' ⊢
    cases q with
    | ok b S2 => exact fun g2 H2 x2 s2 => h' g2 H2 (x.trans x2) s2
    | ex b S2 => exact fun g2 H2 x2 s2 => h' g2 H2 (x.trans x2) s2
    | bad => exact h'
  | ex e S => exact ⟨h, fun _ _ e => nomatch e⟩
  | bad => exact h.elim
/-- the first part run: what is asked of the rest -/
theorem Fin.seq {α β : Type} {g : Wld} {H : Hp} {r : R α} {f : α → S3 → R β} {QO : β → Wld → Hp → Prop} {QE : Exn → Wld → Hp → Prop} (h : Fin ca g H (r.bind f) QO QE) :
    Fin ca g H r (fun a g' H' => ∃ S', Sim ca g' S' H' ∧ Fin ca g' H' (f a S') QO QE) QE := by
  obtain ⟨h1, h2⟩ := h.bind
  cases r with
  | ok a S => exact fun g' H' x s => ⟨S, s, h2 a S rfl g' H' x s⟩
  | ex e S => exact h1
  | bad => exact h1

/-! ### judgements weakened -/
theorem PE_imp {X : Cx} {e : Expr} {t t' : TE} (h : PE X e t) (i : ∀ σ H Q, t' σ H Q → t σ H Q) : PE X e t' := ⟨fun pins s σ H Q I q => h.run pins s σ H Q I (i σ H Q q)⟩
theorem PT_imp {X : Cx} {e : Expr} {t t' : TT} (h : PT X e t) (i : ∀ σ H Q, t' σ H Q → t σ H Q) : PT X e t' := ⟨fun pins s σ H Q I q => h.run pins s σ H Q I (i σ H Q q)⟩
theorem PA_imp {X : Cx} {e : List Expr} {t t' : TA} (h : PA X e t) (i : ∀ σ H Q, t' σ H Q → t σ H Q) : PA X e t' := ⟨fun pos pins s σ H Q I q => h.run pos pins s σ H Q I (i σ H Q q)⟩
theorem PS_imp {X : Cx} {e : Stmt} {t t' : TS} (h : PS X e t) (i : ∀ D σ H, t' D σ H → t D σ H) : PS X e t' := ⟨fun pins s σ H D I q => h.run pins s σ H D I (i D σ H q)⟩
theorem PSs_imp {X : Cx} {e : List Stmt} {t t' : TS} (h : PSs X e t) (i : ∀ D σ H, t' D σ H → t D σ H) : PSs X e t' := ⟨fun pins s σ H D I q => h.run pins s σ H D I (i D σ H q)⟩

/-! ### the store: new trees, new cells, written cells -/
theorem FrzAs.there {H : Hp} {a : Addr} {u : HO} (h : FrzAs H a u) : H a ≠ none := by
  intro e
  cases u with
  | lst xs => rcases h with h | ⟨o, h⟩ <;> (rw [e] at h; cases h)
  | dK xs => rcases h with h | ⟨o, h⟩ <;> (rw [e] at h; cases h)
  | tup xs =>
    have h : H a = some (.tup xs) := h
    rw [e] at h; cases h
  | ins C dx fs =>
    have h : H a = some (.ins C dx fs) := h
    rw [e] at h; cases h
  | _ => exact h
theorem CelAs.there {lk : List Nat} {H : Hp} {n : Nat} {a : Addr} {u : HO} (h : CelAs lk H n a u) : H a ≠ none := by
  intro e
  by_cases m : n ∈ lk
  · obtain ⟨o, q⟩ := h.1 m
    rw [e] at q; cases q
  · have q := h.2 m
    rw [e] at q; cases q
/-- the heap at other places -/
theorem FrzAs.of_eq {H H' : Hp} {a : Addr} {u : HO} (h : FrzAs H a u) (e : H' a = H a) : FrzAs H' a u := by
  cases u with
  | lst xs =>
    rcases h with h | ⟨o, h⟩
    · exact .inl (e.trans h)
    · exact .inr ⟨o, e.trans h⟩
  | dK xs =>
    rcases h with h | ⟨o, h⟩
    · exact .inl (e.trans h)
    · exact .inr ⟨o, e.trans h⟩
  | tup xs => exact e.trans h
  | ins C dx fs => exact e.trans h
  | _ => exact h
theorem CelAs.of_eq {lk : List Nat} {H H' : Hp} {n : Nat} {a : Addr} {u : HO} (h : CelAs lk H n a u) (e : H' a = H a) : CelAs lk H' n a u :=
  ⟨fun m => let ⟨o, q⟩ := h.1 m; ⟨o, e.trans q⟩, fun m => e.trans (h.2 m)⟩
def Wld.tree (g : Wld) (p : Addr) (u : HO) : Wld := ⟨g.ph, upd g.F p u⟩
def Wld.cell (g : Wld) (p : Addr) : Wld := ⟨g.ph ++ [p], g.F⟩
/-- a thing that may be frozen -/
def Frzn : HO → Prop
  | .lst _ => True
  | .dK _ => True
  | .tup _ => True
  | .ins _ _ _ => True
  | _ => False
section
variable {g : Wld} {S : S3} {H : Hp} {p : Addr} {u : HO}
theorem Sim.fresh (s : Sim ca g S H) (hp : H p = none) : g.F p = none ∧ ∀ (n : Nat), g.ph[n]? ≠ some p := by
  refine ⟨?_, fun n e => s.old n p e hp⟩
  cases e : g.F p with
  | none => rfl
  | some u => exact ((s.frz p u e).there hp).elim
theorem Sim.leTree (s : Sim ca g S H) (hp : H p = none) : g.Le (g.tree p u) := ⟨fun _ _ e => e, fun a w e => by
  show upd g.F p u a = some w
  rw [upd_ne (fun z => by rw [z, (s.fresh hp).1] at e; cases e)]
  exact e⟩
theorem Sim.extTree (s : Sim ca g S H) (hp : H p = none) : Ext g H (g.tree p u) (upd H p u) where
  le := s.leTree hp
  fz := fun a o w e => by rw [upd_ne (ne_of_none e hp)]; exact e
  old := fun a h => by rw [upd_ne (fun z : a = p => h (by rw [z]; exact hp))]; exact h
  nph := fun n a h => .inl h
  nfr := fun a w h => by
    by_cases e : a = p
    · exact .inr (.inl (e ▸ hp))
    · have h : L2.upd g.F p u a = some w := h
      rw [upd_ne e] at h
      exact .inl h
  rest := fun a o h _ => by rw [upd_ne (ne_of_none h hp)]; exact h
theorem Sim.tree (s : Sim ca g S H) (hp : H p = none) (hu : Frzn u) : Sim ca (g.tree p u) S (upd H p u) where
  len := s.len
  inj := s.inj
  frz := fun a w e => by
    by_cases ha : a = p
    · subst ha
      have e : upd g.F a u a = some w := e
      rw [upd_same] at e
      cases e
      cases u with
      | lst xs => exact .inl upd_same
      | dK xs => exact .inl upd_same
      | tup xs => exact upd_same
      | ins C dx fs => exact upd_same
      | _ => exact hu.elim
    · have e : upd g.F p u a = some w := e
      rw [upd_ne ha] at e
      exact (s.frz a w e).of_eq (upd_ne ha)
  cel := fun n ob e => by
    obtain ⟨a, w, h1, h2, h3, h4⟩ := s.cel n ob e
    have ha : a ≠ p := fun z => (s.fresh hp).2 n (z ▸ h1)
    exact ⟨a, w, h1, by show upd g.F p u a = none; rw [upd_ne ha]; exact h2, h3.mono (s.leTree hp), h4.of_eq (upd_ne ha)⟩
  old := fun n a e => by
    have ha : a ≠ p := fun z => (s.fresh hp).2 n (z ▸ e)
    rw [upd_ne ha]
    exact s.old n a e
  lkd := s.lkd
theorem get_snoc {α : Type} (l : List α) (x : α) : (l ++ [x])[l.length]? = some x := by simp
theorem get_app {α : Type} {l : List α} {x y : α} {n : Nat} (h : l[n]? = some y) : (l ++ [x])[n]? = some y := by
  rw [List.getElem?_append_left (List.getElem?_eq_some_iff.mp h).1]
  exact h
theorem Sim.leCell (g : Wld) (p : Addr) : g.Le (g.cell p) := ⟨fun n a e => get_app e, fun _ _ e => e⟩
theorem Sim.extCell (s : Sim ca g S H) (hp : H p = none) : Ext g H (g.cell p) (upd H p u) where
  le := Sim.leCell g p
  fz := fun a o w e => by rw [upd_ne (ne_of_none e hp)]; exact e
  old := fun a h => by rw [upd_ne (fun z : a = p => h (by rw [z]; exact hp))]; exact h
  nph := fun n a h => by
    have h : (g.ph ++ [p])[n]? = some a := h
    by_cases hn : n < g.ph.length
    · rw [List.getElem?_append_left hn] at h
      exact .inl h
    · rw [List.getElem?_append_right (by omega)] at h
      have : a ∈ [p] := List.mem_of_getElem? h
      have e : a = p := by simpa using this
      exact .inr (e ▸ hp)
  nfr := fun a w h => .inl h
  rest := fun a o h _ => by rw [upd_ne (ne_of_none h hp)]; exact h
theorem Sim.lk_lt (s : Sim ca g S H) {n : Nat} (h : n ∈ S.lk) : n < S.nx := by
  obtain ⟨ks, e, _⟩ := s.lkd n h
  obtain ⟨a, w, h1, _⟩ := s.cel n _ e
  rw [← s.len]
  exact (List.getElem?_eq_some_iff.mp h1).1
theorem Sim.cell (s : Sim ca g S H) (hp : H p = none) {ob : Ob} (r : RepO ca (g.cell p) ob u) : Sim ca (g.cell p) (S.new ob) (upd H p u) where
  len := by show (g.ph ++ [p]).length = S.nx + 1; rw [List.length_append, s.len]; rfl
  inj := by
    show (g.ph ++ [p]).Nodup
    refine List.nodup_append.mpr ⟨s.inj, by simp, fun a ha b hb e => ?_⟩
    have hb : b = p := by simpa using hb
    subst hb e
    obtain ⟨n, hn⟩ := List.getElem?_of_mem ha
    exact (s.fresh hp).2 n hn
  frz := fun a w e => (s.frz a w e).of_eq (upd_ne fun z => by
    have e : g.F a = some w := e
    rw [z, (s.fresh hp).1] at e; cases e)
  cel := fun n o e => by
    have e : (if n = S.nx then some ob else S.cs n) = some o := (condN _ _ _ _).symm.trans e
    by_cases hn : n = S.nx
    · rw [if_pos hn] at e
      cases e
      refine ⟨p, u, by rw [hn, ← s.len]; exact get_snoc _ _, (s.fresh hp).1, r, fun m => ?_, fun _ => upd_same⟩
      exact absurd (s.lk_lt m) (by rw [hn]; exact Nat.lt_irrefl _)
    · rw [if_neg hn] at e
      obtain ⟨a, w, h1, h2, h3, h4⟩ := s.cel n o e
      have ha : a ≠ p := fun z => (s.fresh hp).2 n (z ▸ h1)
      exact ⟨a, w, get_app h1, h2, h3.mono (Sim.leCell g p), h4.of_eq (upd_ne ha)⟩
  old := fun n a e => by
    have e : (g.ph ++ [p])[n]? = some a := e
    by_cases ha : a = p
    · rw [ha, upd_same]; exact fun z => nomatch z
    · rw [upd_ne ha]
      by_cases hn : n < g.ph.length
      · rw [List.getElem?_append_left hn] at e
        exact s.old n a e
      · rw [List.getElem?_append_right (by omega)] at e
        have : a ∈ [p] := List.mem_of_getElem? e
        exact absurd (by simpa using this) ha
  lkd := fun n m => by
    obtain ⟨ks, e, hb⟩ := s.lkd n m
    refine ⟨ks, ?_, hb⟩
    refine (condN _ _ _ _).trans ?_
    rw [if_neg (Nat.ne_of_lt (s.lk_lt m))]
    exact e
theorem nodup_ix' {l : List Addr} (hN : l.Nodup) {i j : Nat} {x : Addr} (a : l[i]? = some x) (b : l[j]? = some x) : i = j := by
  obtain ⟨h1, e1⟩ := List.getElem?_eq_some_iff.mp a
  obtain ⟨h2, e2⟩ := List.getElem?_eq_some_iff.mp b
  exact (List.getElem_inj hN).mp (e1.trans e2.symm)
/-- the address of a cell -/
theorem Sim.at_ (s : Sim ca g S H) {n : Nat} {a b : Addr} (h : g.ph[n]? = some a) {m : Nat} (h' : g.ph[m]? = some b) (hn : n ≠ m) : a ≠ b := fun e => by
  subst e
  exact hn (nodup_ix' s.inj h h')
/-- a cell that isn't locked is written -/
theorem Sim.write (s : Sim ca g S H) {n : Nat} {a : Addr} (h : g.ph[n]? = some a) {o' : Ob} (hc : S.cs n = some o') (hl : n ∉ S.lk) {ob : Ob} (r : RepO ca g ob u) : Sim ca g (S.set n ob) (upd H a u) where
  len := s.len
  inj := s.inj
  frz := fun b w e => (s.frz b w e).of_eq (upd_ne fun z => by
    obtain ⟨a', w', h1, h2, _⟩ := s.cel n o' hc
    rw [h] at h1; cases h1
    rw [z, h2] at e; cases e)
  cel := fun m o e => by
    have e : (if m = n then some ob else S.cs m) = some o := (condN _ _ _ _).symm.trans e
    by_cases hm : m = n
    · rw [if_pos hm] at e
      cases e
      subst hm
      obtain ⟨a', w', h1, h2, _⟩ := s.cel m o' hc
      rw [h] at h1; cases h1
      exact ⟨a, u, h, h2, r, fun z => absurd z hl, fun _ => upd_same⟩
    · rw [if_neg hm] at e
      obtain ⟨b, w, h1, h2, h3, h4⟩ := s.cel m o e
      exact ⟨b, w, h1, h2, h3, h4.of_eq (upd_ne (s.at_ h1 h hm))⟩
  old := fun m b e => by
    by_cases hb : b = a
    · rw [hb, upd_same]; exact fun z => nomatch z
    · rw [upd_ne hb]; exact s.old m b e
  lkd := fun m hm => by
    obtain ⟨ks, e, hb⟩ := s.lkd m hm
    refine ⟨ks, ?_, hb⟩
    refine (condN _ _ _ _).trans ?_
    rw [if_neg (fun z : m = n => hl (by rw [← z]; exact hm))]
    exact e
theorem Sim.extWrite {n : Nat} {a : Addr} (hn : ∀ o w, H a ≠ some (.frz o w)) (h : g.ph[n]? = some a) : Ext g H g (upd H a u) where
  le := .refl g
  fz := fun b o w e => by
    by_cases hb : b = a
    · rw [hb] at e; exact (hn o w e).elim
    · rw [upd_ne hb]; exact e
  old := fun b h => by
    by_cases hb : b = a
    · rw [hb, upd_same]; exact fun z => nomatch z
    · rw [upd_ne hb]; exact h
  nph := fun _ _ h => .inl h
  nfr := fun _ _ h => .inl h
  rest := fun b o e q => by
    by_cases hb : b = a
    · exact absurd h (hb ▸ q.1 n)
    · rw [upd_ne hb]; exact e
theorem Wld.leOut {g : Wld} {p : Addr} {u : HO} (hp : g.F p = none) : g.Le (g.tree p u) := ⟨fun _ _ e => e, fun b w e => by
  show upd g.F p u b = some w
  rw [upd_ne (fun z => by rw [z, hp] at e; cases e)]
  exact e⟩
/-- a thing beside the world comes into it -/
theorem Sim.adopt (s : Sim ca g S H) (hp : Out g p) (hH : H p = some u) (hu : Frzn u) : Sim ca (g.tree p u) S H where
  len := s.len
  inj := s.inj
  frz := fun a w e => by
    by_cases ha : a = p
    · subst ha
      have e : upd g.F a u a = some w := e
      rw [upd_same] at e
      cases e
      cases u with
      | lst xs => exact .inl hH
      | dK xs => exact .inl hH
      | tup xs => exact hH
      | ins C dx fs => exact hH
      | _ => exact hu.elim
    · have e : upd g.F p u a = some w := e
      rw [upd_ne ha] at e
      exact s.frz a w e
  cel := fun n ob e => by
    obtain ⟨a, w, h1, h2, h3, h4⟩ := s.cel n ob e
    have ha : a ≠ p := fun z => hp.1 n (z ▸ h1)
    exact ⟨a, w, h1, by show upd g.F p u a = none; rw [upd_ne ha]; exact h2, h3.mono (Wld.leOut hp.2), h4⟩
  old := s.old
  lkd := s.lkd
theorem Sim.extAdopt (s : Sim ca g S H) {g0 : Wld} {H0 : Hp} (x : Ext g0 H0 g H) (h0 : H0 p = none) (hp : Out g p) : Ext g0 H0 (g.tree p u) H where
  le := x.le.trans ⟨fun _ _ e => e, fun b w e => by
    show upd g.F p u b = some w
    rw [upd_ne (fun z => by rw [z, hp.2] at e; cases e)]
    exact e⟩
  fz := x.fz
  old := x.old
  nph := x.nph
  nfr := fun a w h => by
    by_cases e : a = p
    · exact .inr (.inl (e ▸ h0))
    · have h : upd g.F p u a = some w := h
      rw [upd_ne e] at h
      exact x.nfr a w h
  rest := x.rest
/-- a thing beside the world is written -/
theorem Sim.updOut (s : Sim ca g S H) (hp : Out g p) : Sim ca g S (upd H p u) where
  len := s.len
  inj := s.inj
  frz := fun a w e => (s.frz a w e).of_eq (upd_ne fun z => by rw [z, hp.2] at e; cases e)
  cel := fun n ob e => by
    obtain ⟨a, w, h1, h2, h3, h4⟩ := s.cel n ob e
    exact ⟨a, w, h1, h2, h3, h4.of_eq (upd_ne fun z => hp.1 n (z ▸ h1))⟩
  old := fun n a e => by
    rw [upd_ne (fun z : a = p => hp.1 n (by rw [← z]; exact e))]
    exact s.old n a e
  lkd := s.lkd
theorem Sim.freshOut (s : Sim ca g S H) (hp : H p = none) : Out g p := ⟨(s.fresh hp).2, (s.fresh hp).1⟩
/-- a cell that is not to change any more becomes a tree -/
theorem Sim.freeze (s : Sim ca g S H) {n : Nat} {ob : Ob} (h : S.cs n = some ob) (hl : n ∉ S.lk) : ∃ a u, g.ph[n]? = some a ∧ RepO ca g ob u ∧ H a = some u ∧ Frzn u ∧ Sim ca (g.tree a u) (S.kill n) H ∧ Ext g H (g.tree a u) H := by
  obtain ⟨a, u, h1, h2, h3, h4⟩ := s.cel n ob h
  have hu : Frzn u := by cases h3 <;> exact True.intro
  have le : g.Le (g.tree a u) := ⟨fun _ _ e => e, fun b w e => by
    show upd g.F a u b = some w
    rw [upd_ne (fun z => by rw [z, h2] at e; cases e)]
    exact e⟩
  refine ⟨a, u, h1, h3, h4.2 hl, hu, ⟨s.len, s.inj, fun b w e => ?_, fun m o e => ?_, s.old, fun m hm => ?_⟩, ⟨le, fun _ _ _ e => e, fun _ e => e, fun _ _ e => .inl e, fun b w e => ?_, fun _ _ e _ => e⟩⟩
  · by_cases hb : b = a
    · subst hb
      have e : upd g.F b u b = some w := e
      rw [upd_same] at e
      cases e
      have z := h4.2 hl
      cases u with
      | lst xs => exact .inl z
      | dK xs => exact .inl z
      | tup xs => exact z
      | ins C dx fs => exact z
      | _ => exact hu.elim
    · have e : upd g.F a u b = some w := e
      rw [upd_ne hb] at e
      exact s.frz b w e
  · have e : (if m = n then none else S.cs m) = some o := (condN _ _ _ _).symm.trans e
    by_cases hm : m = n
    · rw [if_pos hm] at e; cases e
    · rw [if_neg hm] at e
      obtain ⟨b, w, k1, k2, k3, k4⟩ := s.cel m o e
      exact ⟨b, w, k1, by show upd g.F a u b = none; rw [upd_ne (s.at_ k1 h1 hm)]; exact k2, k3.mono le, k4⟩
  · obtain ⟨ks, e, hb⟩ := s.lkd m hm
    refine ⟨ks, ?_, hb⟩
    refine (condN _ _ _ _).trans ?_
    rw [if_neg (fun z : m = n => hl (by rw [← z]; exact hm))]
    exact e
  · by_cases hb : b = a
    · exact .inr (.inr ⟨n, hb ▸ h1⟩)
    · have e : upd g.F a u b = some w := e
      rw [upd_ne hb] at e
      exact .inl e
end
end M3
/-! M3B: expressions, their machine readings. -/
namespace M3
open PySem L2
variable {ca : CAK}

/-! ### what stands behind a datum -/
def obOf (S : S3) : D → Option Ob
  | .lst xs => some (.lst xs)
  | .dic ks => some (.dic ks)
  | .ins c fs => some (.ins c fs)
  | .cell n => S.cs n
  | _ => none
def lstOf (S : S3) (d : D) : Option (List D) := match obOf S d with
  | some (.lst xs) => some xs
  | _ => none
def dicOf (S : S3) (d : D) : Option (List (Key × D)) := match obOf S d with
  | some (.dic ks) => some ks
  | _ => none
def insOf (S : S3) (d : D) : Option (Nat × List (Str × D)) := match obOf S d with
  | some (.ins c fs) => some (c, fs)
  | _ => none
theorem lstOf_eq {S : S3} {d : D} {xs : List D} (h : lstOf S d = some xs) : obOf S d = some (.lst xs) := by
  unfold lstOf at h
  split at h
  · rename_i ys e
    cases h
    exact e
  · cases h
theorem dicOf_eq {S : S3} {d : D} {xs : List (Key × D)} (h : dicOf S d = some xs) : obOf S d = some (.dic xs) := by
  unfold dicOf at h
  split at h
  · rename_i ys e
    cases h
    exact e
  · cases h
theorem insOf_eq {S : S3} {d : D} {c : Nat} {fs : List (Str × D)} (h : insOf S d = some (c, fs)) : obOf S d = some (.ins c fs) := by
  unfold insOf at h
  split at h
  · rename_i c' ys e
    cases h
    exact e
  · cases h
section
variable {g : Wld} {S : S3} {H : Hp} {v : V} {d : D}
theorem Sim.ob (s : Sim ca g S H) (r : Rep ca g v d) {o : Ob} (h : obOf S d = some o) :
    ∃ a u, v = .ref a ∧ RepO ca g o u ∧ ((FrzAs H a u ∧ g.F a = some u) ∨ ∃ n, d = .cell n ∧ g.ph[n]? = some a ∧ S.cs n = some o ∧ CelAs S.lk H n a u) := by
  cases r with
  | cell e =>
    obtain ⟨a, u, h1, h2, h3, h4⟩ := s.cel _ _ h
    rw [e] at h1
    cases h1
    exact ⟨_, u, rfl, h3, .inr ⟨_, rfl, e, h, h4⟩⟩
  | lst e r => cases h; exact ⟨_, _, rfl, .lst r, .inl ⟨s.frz _ _ e, e⟩⟩
  | dic e r => cases h; exact ⟨_, _, rfl, .dic r, .inl ⟨s.frz _ _ e, e⟩⟩
  | ins e r => cases h; exact ⟨_, _, rfl, .ins r, .inl ⟨s.frz _ _ e, e⟩⟩
  | _ => cases h
theorem Sim.nolk (s : Sim ca g S H) {n : Nat} {o : Ob} (h : S.cs n = some o) (hd : ¬ Lkb o) : n ∉ S.lk := fun m => by
  obtain ⟨ks, e, hb⟩ := s.lkd n m
  rw [h] at e
  cases e
  exact hd hb
theorem Sim.lst (s : Sim ca g S H) (r : Rep ca g v d) {ds : List D} (h : lstOf S d = some ds) : ∃ a vs, v = .ref a ∧ Rd H a (.lst vs) ∧ RepL ca g vs ds := by
  obtain ⟨a, u, e, ro, q⟩ := s.ob r (lstOf_eq h)
  cases ro with
  | lst rl =>
    refine ⟨a, _, e, ?_, rl⟩
    rcases q with ⟨q, _⟩ | ⟨n, _, _, hc, q⟩
    · exact q
    · by_cases m : n ∈ S.lk
      · obtain ⟨o, z⟩ := q.1 m
        exact .inr ⟨o, z⟩
      · exact .inl (q.2 m)
theorem Sim.dic (s : Sim ca g S H) (r : Rep ca g v d) {ds : List (Key × D)} (h : dicOf S d = some ds) : ∃ a vs, v = .ref a ∧ Rd H a (.dK vs) ∧ RepK ca g vs ds := by
  obtain ⟨a, u, e, ro, q⟩ := s.ob r (dicOf_eq h)
  cases ro with
  | dic rl =>
    refine ⟨a, _, e, ?_, rl⟩
    rcases q with ⟨q, _⟩ | ⟨n, _, _, hc, q⟩
    · exact q
    · by_cases m : n ∈ S.lk
      · obtain ⟨o, z⟩ := q.1 m
        exact .inr ⟨o, z⟩
      · exact .inl (q.2 m)
theorem Sim.ins (s : Sim ca g S H) (r : Rep ca g v d) {c : Nat} {ds : List (Str × D)} (h : insOf S d = some (c, ds)) : ∃ a dx vs, v = .ref a ∧ H a = some (.ins (ca c) dx vs) ∧ RepF ca g vs ds := by
  obtain ⟨a, u, e, ro, q⟩ := s.ob r (insOf_eq h)
  cases ro with
  | @ins dx _ vs _ rl =>
    refine ⟨a, dx, vs, e, ?_, rl⟩
    rcases q with ⟨q, _⟩ | ⟨n, _, _, hc, q⟩
    · exact q
    · exact q.2 (s.nolk hc fun z => z)
theorem Sim.tup (s : Sim ca g S H) {ds : List D} (r : Rep ca g v (.tup ds)) : ∃ a vs, v = .ref a ∧ H a = some (.tup vs) ∧ RepL ca g vs ds := by
  cases r with
  | tup e r => exact ⟨_, _, rfl, s.frz _ _ e, r⟩
theorem Sim.cellOb (s : Sim ca g S H) {n : Nat} {o : Ob} (r : Rep ca g v (.cell n)) (h : S.cs n = some o) (hl : n ∉ S.lk) : ∃ a u, v = .ref a ∧ g.ph[n]? = some a ∧ RepO ca g o u ∧ H a = some u := by
  cases r with
  | cell e =>
    obtain ⟨a, u, h1, h2, h3, h4⟩ := s.cel _ _ h
    rw [e] at h1
    cases h1
    exact ⟨_, u, rfl, e, h3, h4.2 hl⟩
end
/-! ### lists of representations -/
section
variable {g : Wld}
theorem RepL.len : ∀ {vs : List V} {ds : List D}, RepL ca g vs ds → vs.length = ds.length
  | _, _, .nil => rfl
  | _, _, .cons _ t => congrArg Nat.succ (RepL.len t)
theorem RepK.len : ∀ {vs : List (Key × V)} {ds : List (Key × D)}, RepK ca g vs ds → vs.length = ds.length
  | _, _, .nil => rfl
  | _, _, .cons _ t => congrArg Nat.succ (RepK.len t)
theorem RepF.len : ∀ {vs : List (Str × V)} {ds : List (Str × D)}, RepF ca g vs ds → vs.length = ds.length
  | _, _, .nil => rfl
  | _, _, .cons _ t => congrArg Nat.succ (RepF.len t)
theorem RepL.get : ∀ {vs : List V} {ds : List D} {i : Nat} {d : D}, RepL ca g vs ds → ds[i]? = some d → ∃ v, vs[i]? = some v ∧ Rep ca g v d
  | _, _, _, _, .nil, e => by simp at e
  | _, _, 0, _, .cons r _, e => by simp at e; subst e; exact ⟨_, rfl, r⟩
  | _, _, i + 1, d, .cons _ t, e => by
    obtain ⟨u, h1, h2⟩ := RepL.get (i := i) (d := d) t (by simpa using e)
    exact ⟨u, by simpa using h1, h2⟩
theorem RepL.app : ∀ {vs ws : List V} {ds es : List D}, RepL ca g vs ds → RepL ca g ws es → RepL ca g (vs ++ ws) (ds ++ es)
  | _, _, _, _, .nil, s => s
  | _, _, _, _, .cons r t, s => .cons r (RepL.app t s)
theorem RepL.take : ∀ {vs : List V} {ds : List D} (n : Nat), RepL ca g vs ds → RepL ca g (vs.take n) (ds.take n)
  | _, _, 0, _ => .nil
  | _, _, _ + 1, .nil => .nil
  | _, _, n + 1, .cons r t => .cons r (RepL.take n t)
theorem RepL.drop : ∀ {vs : List V} {ds : List D} (n : Nat), RepL ca g vs ds → RepL ca g (vs.drop n) (ds.drop n)
  | _, _, 0, r => r
  | _, _, _ + 1, .nil => .nil
  | _, _, n + 1, .cons _ t => RepL.drop n t
theorem RepL.set {v : V} {d : D} (r : Rep ca g v d) : ∀ {vs : List V} {ds : List D} (i : Nat), RepL ca g vs ds → RepL ca g (vs.set i v) (ds.set i d)
  | _, _, _, .nil => .nil
  | _, _, 0, .cons _ t => .cons r t
  | _, _, i + 1, .cons q t => .cons q (RepL.set r i t)
theorem RepL.rev {vs : List V} {ds : List D} (r : RepL ca g vs ds) : RepL ca g vs.reverse ds.reverse := by
  have all : ∀ {vs : List V} {ds : List D} {ws : List V} {es : List D}, RepL ca g vs ds → RepL ca g ws es → RepL ca g (vs.reverseAux ws) (ds.reverseAux es) := by
    intro vs
    induction vs with
    | nil => intro ds ws es h k; cases h; exact k
    | cons v vs ih =>
      intro ds ws es h k
      cases h with
      | cons r t =>
        have z := ih t (RepL.cons r k)
        exact z
  exact all r .nil
theorem RepF.get : ∀ {vs : List (Str × V)} {ds : List (Str × D)} {f : Str} {d : D}, RepF ca g vs ds → getA ds f = some d → ∃ v, vs.lookup f = some v ∧ Rep ca g v d
  | _, _, _, _, .nil, e => by cases e
  | _, _, f, d, .cons (k := k) r t, e => by
    unfold getA at e
    by_cases h : k = f
    · rw [if_pos h] at e
      cases e
      refine ⟨_, ?_, r⟩
      simp [List.lookup_cons, h]
    · rw [if_neg h] at e
      obtain ⟨v, q, rv⟩ := RepF.get t e
      refine ⟨v, ?_, rv⟩
      have hb : (f == k) = false := beq_eq_false_iff_ne.mpr fun z => h z.symm
      rw [List.lookup_cons, hb]
      exact q
theorem RepF.none : ∀ {vs : List (Str × V)} {ds : List (Str × D)} {f : Str}, RepF ca g vs ds → getA ds f = none → vs.lookup f = none
  | _, _, _, .nil, _ => rfl
  | _, _, f, .cons (k := k) r t, e => by
    unfold getA at e
    by_cases h : k = f
    · rw [if_pos h] at e; cases e
    · rw [if_neg h] at e
      have hb : (f == k) = false := beq_eq_false_iff_ne.mpr fun z => h z.symm
      rw [List.lookup_cons, hb]
      exact RepF.none t e
theorem RepF.put {v : V} {d : D} (r : Rep ca g v d) (f : Str) : ∀ {vs : List (Str × V)} {ds : List (Str × D)}, RepF ca g vs ds → RepF ca g (putF f v vs) (putA ds f d)
  | _, _, .nil => .cons r .nil
  | _, _, .cons (k := k) (v := v') (vs := vs) q t => by
    show RepF ca g (if k = f then (k, v) :: vs else (k, v') :: putF f v vs) (putA _ f d)
    unfold putA
    by_cases h : k = f
    · rw [if_pos h, if_pos h]; exact .cons r t
    · rw [if_neg h, if_neg h]; exact .cons q (RepF.put r f t)
theorem RepK.get : ∀ {vs : List (Key × V)} {ds : List (Key × D)} {k : Key} {d : D}, RepK ca g vs ds → getA ds k = some d → ∃ v, valV vs k = some v ∧ Rep ca g v d
  | _, _, _, _, .nil, e => by cases e
  | _, _, f, d, .cons (k := k) r t, e => by
    unfold getA at e
    by_cases h : k = f
    · rw [if_pos h] at e
      cases e
      exact ⟨_, valV_pos h, r⟩
    · rw [if_neg h] at e
      obtain ⟨v, q, rv⟩ := RepK.get t e
      exact ⟨v, (valV_neg h).trans q, rv⟩
theorem RepK.none : ∀ {vs : List (Key × V)} {ds : List (Key × D)} {k : Key}, RepK ca g vs ds → getA ds k = none → valV vs k = none
  | _, _, _, .nil, _ => rfl
  | _, _, f, .cons (k := k) r t, e => by
    unfold getA at e
    by_cases h : k = f
    · rw [if_pos h] at e; cases e
    · rw [if_neg h] at e
      exact (valV_neg h).trans (RepK.none t e)
theorem RepK.val {vs : List (Key × V)} {ds : List (Key × D)} (r : RepK ca g vs ds) (k : Key) : (valV vs k).isSome = (getA ds k).isSome := by
  cases e : getA ds k with
  | none => rw [r.none e]; rfl
  | some d =>
    obtain ⟨v, q, _⟩ := r.get e
    rw [q]; rfl
theorem RepK.app : ∀ {vs ws : List (Key × V)} {ds es : List (Key × D)}, RepK ca g vs ds → RepK ca g ws es → RepK ca g (vs ++ ws) (ds ++ es)
  | _, _, _, _, .nil, s => s
  | _, _, _, _, .cons r t, s => .cons r (RepK.app t s)
theorem putA_new {κ α : Type} [DecidableEq κ] : ∀ {l : List (κ × α)} {k : κ} {x : α}, getA l k = none → putA l k x = l ++ [(k, x)]
  | [], _, _, _ => rfl
  | (j, y) :: r, k, x, h => by
    unfold getA at h
    unfold putA
    by_cases e : j = k
    · rw [if_pos e] at h; cases h
    · rw [if_neg e] at h
      rw [if_neg e, putA_new h]
      rfl
/-- no key twice -/
def NdK {α : Type} : List (Key × α) → Prop := fun l => (l.map (·.1)).Nodup
theorem RepK.keys : ∀ {vs : List (Key × V)} {ds : List (Key × D)}, RepK ca g vs ds → vs.map (·.1) = ds.map (·.1)
  | _, _, .nil => rfl
  | _, _, .cons (k := k) _ t => by rw [List.map_cons, List.map_cons, RepK.keys t]
theorem map_put {v : V} {k : Key} : ∀ (l : List (Key × V)), k ∉ l.map (·.1) → l.map (fun kv => if kv.1 = k then (kv.1, v) else kv) = l
  | [], _ => rfl
  | p :: r, h => by
    have h1 : ¬ p.1 = k := fun e => h (by rw [List.map_cons, e]; exact List.mem_cons_self)
    have h2 : k ∉ r.map (·.1) := fun e => h (by rw [List.map_cons]; exact List.mem_cons_of_mem _ e)
    rw [List.map_cons, if_neg h1, map_put r h2]
theorem RepK.mapPut {v : V} {d : D} (rv : Rep ca g v d) (k : Key) : ∀ {vs : List (Key × V)} {ds : List (Key × D)}, RepK ca g vs ds → (getA ds k).isSome = true → (vs.map (·.1)).Nodup →
    RepK ca g (vs.map fun kv => if kv.1 = k then (kv.1, v) else kv) (putA ds k d)
  | _, _, .nil, e, _ => by cases e
  | _, _, .cons (k := j) (v := w) (vs := vs) (ds := ds) r t, e, nd => by
    rw [List.map_cons] at nd
    obtain ⟨n1, n2⟩ := List.nodup_cons.mp nd
    rw [List.map_cons]
    unfold putA
    by_cases h : j = k
    · rw [if_pos h, if_pos (show ((j, w) : Key × V).1 = k from h), map_put vs (by rw [← h]; exact n1)]
      exact .cons rv t
    · unfold getA at e
      rw [if_neg h] at e
      rw [if_neg h, if_neg (show ¬ ((j, w) : Key × V).1 = k from h)]
      exact .cons r (RepK.mapPut rv k t e n2)
theorem RepK.put {v : V} {d : D} (rv : Rep ca g v d) (k : Key) {vs : List (Key × V)} {ds : List (Key × D)} (r : RepK ca g vs ds) (nd : (vs.map (·.1)).Nodup) : RepK ca g (putK vs k v) (putA ds k d) := by
  unfold putK
  rw [valV_any]
  cases e : getA ds k with
  | none =>
    rw [r.none e, if_neg (by exact Bool.false_ne_true), putA_new e]
    exact r.app (.cons rv .nil)
  | some x =>
    obtain ⟨w, q, _⟩ := r.get e
    rw [q, if_pos (show (some w).isSome = true from rfl)]
    exact r.mapPut rv k (by rw [e]; rfl) nd
theorem RepK.drop (k : Key) : ∀ {vs : List (Key × V)} {ds : List (Key × D)}, RepK ca g vs ds → RepK ca g (dropK vs k) (dropA ds k)
  | _, _, .nil => .nil
  | _, _, .cons (k := j) (v := w) (d := d) r t => by
    have ih := RepK.drop k t
    unfold dropK dropA at ih ⊢
    rw [List.filter_cons, List.filter_cons]
    by_cases h : j = k
    · have hb : decide (j ≠ k) = false := by simp [h]
      show RepK ca g (if decide (j ≠ k) = true then _ else _) (if decide (j ≠ k) = true then _ else _)
      rw [hb, if_neg Bool.false_ne_true, if_neg Bool.false_ne_true]
      exact ih
    · have hb : decide (j ≠ k) = true := by simp [h]
      show RepK ca g (if decide (j ≠ k) = true then _ else _) (if decide (j ≠ k) = true then _ else _)
      rw [hb, if_pos rfl, if_pos rfl]
      exact .cons r ih
theorem ndK {X : Cx} {pins : List (Addr × Obj)} {σ : L2.St} {H : Hp} {s : Shared} (I : Inv X pins σ H s) {a : Addr} {kvs : List (Key × V)} (h : Rd H a (.dK kvs)) : (kvs.map (·.1)).Nodup := by
  obtain ⟨_, _, vs, kv, _, _, _, _, _, _, _, _, nd⟩ := L2.dk_rd I.hok h
  rw [KV.keys kv]
  exact nd
end
end M3
/-! M3C: expressions, their machine readings. -/
namespace M3
open PySem L2
variable {ca : CAK}

def lift {α : Type} (o : Option (α × S3)) : R α := match o with
  | some (a, S) => .ok a S
  | none => .bad
variable (ca)
def FinO {α : Type} (g : Wld) (H : Hp) (o : Option (α × S3)) (QO : α → Wld → Hp → Prop) : Prop := match o with
  | some (a, S') => ∀ g' H', Ext g H g' H' → Sim ca g' S' H' → QO a g' H'
  | none => False
variable {ca}
theorem FinO.of {α : Type} {g : Wld} {H : Hp} {o : Option (α × S3)} {QO : α → Wld → Hp → Prop} {QE : Exn → Wld → Hp → Prop} (h : Fin ca g H (lift o) QO QE) : FinO ca g H o QO := by
  cases o with
  | some p => exact h
  | none => exact h
theorem FinO.now {α : Type} {g : Wld} {H : Hp} {a : α} {S : S3} {QO : α → Wld → Hp → Prop} (h : FinO ca g H (some (a, S)) QO) (s : Sim ca g S H) : QO a g H := h g H (.refl g H) s

/-! ### the judgement -/
variable (ca)
structure SD (X : Cx) (W : WX) (e : Expr) (m : CE) : Prop where
  pe : PE X e (rdE ca W m)
  pt : PT X e (tTest (rdE ca W m))
variable {ca}
section
variable {X : Cx} {W : WX} {e a b c : Expr} {m ma mb mc : CE} {pos : Pos}
theorem SD.of (h : PE X e (rdE ca W m)) (he : ∀ whole, isTrue e X.env whole = (do let v ← whole; standAt e.pos; holding [v] (truthy v)) := by intro _; rfl) : SD ca X W e m := ⟨h, pt_val h he⟩

/-! ### names, constants -/
def xv (i : Nat) : CE := fun v S => match v[i]? with
  | some (some d) => .ok d S
  | _ => .bad
def xc (d : D) : CE := fun _ S => .ok d S
theorem rd_now {r : R D} {σ : St} {H : Hp} {Q : VK} {d : D} {S : S3} {g : Wld} {QE : Exn → Wld → Hp → Prop} (s : Sim ca g S H) (h : Fin ca g H (.ok d S) (fun d g' H' => ∀ x, Rep ca g' x d → Q x H') QE) {x : V} (r : Rep ca g x d) : Q x H := h g H (.refl g H) s x r
theorem sd_var {i : Nat} {x : Str} (hN : X.N[i]? = some x := by rfl) (hv : Vis X.env.scope x := by first | exact Or.inl rfl | exact Or.inr (Or.inl rfl) | exact Or.inr (Or.inr rfl)) (hd : (x == ("__debug__" : Str)) = false := by decide)
    (hcd : (x == ("__classdict__" : Str)) = false := by decide) : SD ca X W (.Name x pos) (xv i) := .of <| PE_imp (pe_var hN hv hd hcd) <| by
  rintro σ H Q ⟨v, S, g, s, e, h⟩
  unfold xv at h
  split at h
  · rename_i d hd
    obtain ⟨x, hx, r⟩ := e.at_ i d hd
    exact ⟨x, hx, h g H (.refl g H) s x r⟩
  · exact h.elim
theorem rd_c {x : V} {d : D} (r : ∀ g : Wld, Rep ca g x d) : ∀ σ H Q, rdE ca W (xc d) σ H Q → tC x σ H Q := by
  rintro σ H Q ⟨v, S, g, s, e, h⟩
  exact h g H (.refl g H) s x (r g)
theorem sd_int {i j} : SD ca X W (.Constant (.int i) j pos) (xc (.int i)) := .of (PE_imp pe_int (rd_c fun _ => .int i))
theorem sd_bl {i j} : SD ca X W (.Constant (.bool i) j pos) (xc (.bl i)) := .of (PE_imp pe_bl (rd_c fun _ => .bl i))
theorem sd_non {j} : SD ca X W (.Constant .none j pos) (xc .non) := .of (PE_imp pe_non (rd_c fun _ => .non))
theorem sd_str {i j} : SD ca X W (.Constant (.str i) j pos) (xc (.str i)) := .of (PE_imp pe_str (rd_c fun _ => .str i))
/-- a module's constant: a number, a text -/
theorem sd_gint {x : Str} {i : Int} (hg : Gl X x) (hm : ∃ t, X.mg x = some (.int i t)) (hd : (x == ("__debug__" : Str)) = false := by decide) : SD ca X W (.Name x pos) (xc (.int i)) := by
  obtain ⟨t, hm⟩ := hm
  exact .of (PE_imp (pe_glob (v := .int i) hg hm ⟨t, rfl⟩ hd) (rd_c fun _ => .int i))
theorem sd_gstr {x : Str} {i : Str} (hg : Gl X x) (hm : ∃ t, X.mg x = some (.str i t)) (hd : (x == ("__debug__" : Str)) = false := by decide) : SD ca X W (.Name x pos) (xc (.str i)) := by
  obtain ⟨t, hm⟩ := hm
  exact .of (PE_imp (pe_glob (v := .str i) hg hm ⟨t, rfl⟩ hd) (rd_c fun _ => .str i))

/-! ### two in a row -/
abbrev O1 := D → S3 → Option (D × S3)
abbrev O2 := D → D → S3 → Option (D × S3)
abbrev OL := List D → S3 → Option (D × S3)
def b1 (ma : CE) (f : O1) : CE := fun v S => (ma v S).bind fun x S1 => lift (f x S1)
def b2 (ma mb : CE) (f : O2) : CE := fun v S => (ma v S).bind fun x S1 => (mb v S1).bind fun y S2 => lift (f x y S2)
variable (ca)
def rdO1 (f : O1) : V → Hp → VK → Prop := fun x H Q => ∃ g S d, Sim ca g S H ∧ Rep ca g x d ∧ FinO ca g H (f d S) (fun r g' H' => ∀ z, Rep ca g' z r → Q z H')
def rdO2 (f : O2) : R2 := fun x y H Q => ∃ g S d e, Sim ca g S H ∧ Rep ca g x d ∧ Rep ca g y e ∧ FinO ca g H (f d e S) (fun r g' H' => ∀ z, Rep ca g' z r → Q z H')
def rdOL (f : OL) : List V → Hp → VK → Prop := fun xs H Q => ∃ g S ds, Sim ca g S H ∧ RepL ca g xs ds ∧ FinO ca g H (f ds S) (fun r g' H' => ∀ z, Rep ca g' z r → Q z H')
variable {ca}
theorem rd_b1 {f : O1} : ∀ σ H Q, rdE ca W (b1 ma f) σ H Q → tUn (rdO1 ca f) (rdE ca W ma) σ H Q := by
  rintro σ H Q ⟨v, S, g, s, e, h⟩
  refine ⟨v, S, g, s, e, (Fin.seq h).imp (fun d g1 H1 x1 ⟨S1, s1, h1⟩ xv rv => ?_) fun _ _ _ _ z => z⟩
  exact ⟨g1, S1, d, s1, rv, FinO.of h1⟩
theorem rd_b2 {f : O2} : ∀ σ H Q, rdE ca W (b2 ma mb f) σ H Q → tOp (rdO2 ca f) (rdE ca W ma) (rdE ca W mb) σ H Q := by
  rintro σ H Q ⟨v, S, g, s, e, h⟩
  refine ⟨v, S, g, s, e, (Fin.seq h).imp (fun d g1 H1 x1 ⟨S1, s1, h1⟩ xv rv => ?_) fun _ _ _ _ z => z⟩
  refine ⟨v, S1, g1, s1, e.mono x1.le, (Fin.seq h1).imp (fun d2 g2 H2 x2 ⟨S2, s2, h2⟩ yv ry => ?_) fun _ _ _ _ z => z⟩
  exact ⟨g2, S2, d, d2, s2, rv.mono x2.le, ry, FinO.of h2⟩
theorem sd_bin {op : Operator} {f : O2} (ho : OpR X (binaryOp op) (rdO2 ca f)) (ha : SD ca X W a ma) (hb : SD ca X W b mb) : SD ca X W (.BinOp a op b pos) (b2 ma mb f) := .of (PE_imp (pe_op ho ha.pe hb.pe) rd_b2)
theorem tTest_imp {t t' : TE} (h : ∀ σ H Q, t' σ H Q → t σ H Q) : ∀ σ H Q, tTest t' σ H Q → tTest t σ H Q := fun σ H Q q => h σ H _ q
theorem sd_cmp {op : CmpOp} {f : O2} (ho : OpR X (compareOp op) (rdO2 ca f)) (ha : SD ca X W a ma) (hb : SD ca X W b mb) (hm : behindInMarks op b = false) : SD ca X W (.Compare a [op] [b] pos) (b2 ma mb f) :=
  ⟨PE_imp (pe_cmpR ho ha.pe hb.pe hm) rd_b2, PT_imp (pt_cmpR ho ha.pe hb.pe hm) (tTest_imp rd_b2)⟩
/-- a < b < c -/
def ch2 (ma mb mc : CE) (f f' : O2) : CE := fun v S => (ma v S).bind fun x S1 => (mb v S1).bind fun y S2 => (lift (f x y S2)).bind fun z S3 => match z with
  | .bl true => (mc v S3).bind fun w S4 => lift (f' y w S4)
  | .bl false => .ok (.bl false) S3
  | _ => .bad
theorem Rep.bl_inv {g : Wld} {x : V} {k : Bool} (r : Rep ca g x (.bl k)) : x = .bl k := by cases r; rfl
theorem rd_ch2 {f f' : O2} : ∀ σ H Q, rdE ca W (ch2 ma mb mc f f') σ H Q → tChain (rdO2 ca f) (rdO2 ca f') (rdE ca W ma) (rdE ca W mb) (rdE ca W mc) σ H Q := by
  rintro σ H Q ⟨v, S, g, s, e, h⟩
  refine ⟨v, S, g, s, e, (Fin.seq h).imp (fun d g1 H1 x1 ⟨S1, s1, h1⟩ xv rv => ?_) fun _ _ _ _ z => z⟩
  refine ⟨v, S1, g1, s1, e.mono x1.le, (Fin.seq h1).imp (fun d2 g2 H2 x2 ⟨S2, s2, h2⟩ yv ry => ?_) fun _ _ _ _ z => z⟩
  refine ⟨g2, S2, d, d2, s2, rv.mono x2.le, ry, ?_⟩
  have h3 := Fin.seq h2
  refine FinO.of (QE := fun _ _ _ => True) (h3.imp (fun z g3 H3 x3 ⟨S3', s3, h3⟩ zv rz => ?_) fun _ _ _ _ _ => True.intro)
  try dsimp only at h3
  split at h3
  · cases rz
    refine ⟨true, rfl, iteT ⟨v, S3', g3, s3, e.mono ((x1.trans x2).trans x3).le, (Fin.seq h3).imp (fun d4 g4 H4 x4 ⟨S4, s4, h4⟩ wv rw => ?_) fun _ _ _ _ z => z⟩⟩
    exact ⟨g4, S4, d2, d4, s4, ry.mono (x3.trans x4).le, rw, FinO.of h4⟩
  · cases rz
    exact ⟨false, rfl, iteF (h3 g3 H3 (.refl _ _) s3 _ (.bl false))⟩
  · exact h3.elim
theorem sd_chain {op op' : CmpOp} {f f' : O2} (ho : OpR X (compareOp op) (rdO2 ca f)) (ho' : OpR X (compareOp op') (rdO2 ca f')) (ha : SD ca X W a ma) (hb : SD ca X W b mb) (hc : SD ca X W c mc)
    (hm : lastMarks [op, op'] [b, c] = false := by with_unfolding_all rfl) : SD ca X W (.Compare a [op, op'] [b, c] pos) (ch2 ma mb mc f f') :=
  ⟨PE_imp (pe_chain ho ho' ha.pe hb.pe hc.pe hm) rd_ch2, PT_imp (pt_chain ho ho' ha.pe hb.pe hc.pe hm) (tTest_imp rd_ch2)⟩

/-! ### not, and, or, if -/
def notM (ma : CE) : CE := fun v S => (ma v S).bind fun x S1 => match x with
  | .bl b => .ok (.bl (!b)) S1
  | _ => .bad
def andM (ma mb : CE) : CE := fun v S => (ma v S).bind fun x S1 => match x with
  | .bl true => mb v S1
  | .bl false => .ok (.bl false) S1
  | _ => .bad
def orM (ma mb : CE) : CE := fun v S => (ma v S).bind fun x S1 => match x with
  | .bl true => .ok (.bl true) S1
  | .bl false => mb v S1
  | _ => .bad
def ifM (mc ma mb : CE) : CE := fun v S => (mc v S).bind fun x S1 => match x with
  | .bl true => ma v S1
  | .bl false => mb v S1
  | _ => .bad
theorem sd_not (ha : SD ca X W a ma) : SD ca X W (.UnaryOp .Not a pos) (notM ma) := by
  refine ⟨PE_imp (pe_not ha.pe) ?_, PT_imp (pt_not ha.pt) ?_⟩
  · rintro σ H Q ⟨v, S, g, s, e, h⟩
    refine ⟨v, S, g, s, e, (Fin.seq h).imp (fun d g1 H1 x1 ⟨S1, s1, h1⟩ xv rv => ?_) fun _ _ _ _ z => z⟩
    try dsimp only at h1
    split at h1
    · cases rv
      exact ⟨_, rfl, h1 g1 H1 (.refl _ _) s1 _ (.bl _)⟩
    · exact h1.elim
  · rintro σ H Q ⟨v, S, g, s, e, h⟩
    refine ⟨v, S, g, s, e, (Fin.seq h).imp (fun d g1 H1 x1 ⟨S1, s1, h1⟩ xv rv => ?_) fun _ _ _ _ z => z⟩
    try dsimp only at h1
    split at h1
    · cases rv
      obtain ⟨k, ek, q⟩ := h1 g1 H1 (.refl _ _) s1 _ (.bl _)
      cases ek
      exact ⟨_, rfl, q⟩
    · exact h1.elim
variable (ca)
structure SDB (X : Cx) (W : WX) (op : BoolOp) (es : List Expr) (m : CE) : Prop where
  pe : ∀ pos, PE X (.BoolOp op es pos) (rdE ca W m)
  pw : ∀ pos, PW X (.BoolOp op es pos) (tTest (rdE ca W m))
variable {ca}
variable {rest : List Expr}
theorem sdb_and1 (ha : SD ca X W a ma) : SDB ca X W .And [a] ma := ⟨fun _ => pe_one ha.pe, fun _ => pw_and1 ha.pt⟩
theorem sdb_or1 (ha : SD ca X W a ma) : SDB ca X W .Or [a] ma := ⟨fun _ => pe_one ha.pe, fun _ => pw_or1 ha.pt⟩
theorem PW_imp {X : Cx} {e : Expr} {t t' : TT} (h : PW X e t) (i : ∀ σ H Q, t' σ H Q → t σ H Q) : PW X e t' := ⟨fun wh pins s σ H Q I q => h.run wh pins s σ H Q I (i σ H Q q)⟩
theorem sdb_and (ha : SD ca X W a ma) (hb : SDB ca X W .And (b :: rest) mb) : SDB ca X W .And (a :: b :: rest) (andM ma mb) := by
  refine ⟨fun pos => PE_imp (pe_and ha.pe (hb.pe pos)) ?_, fun pos => PW_imp (pw_and ha.pt (hb.pw pos)) ?_⟩
  · rintro σ H Q ⟨v, S, g, s, e, h⟩
    refine ⟨v, S, g, s, e, (Fin.seq h).imp (fun d g1 H1 x1 ⟨S1, s1, h1⟩ xv rv => ?_) fun _ _ _ _ z => z⟩
    try dsimp only at h1
    split at h1
    · cases rv
      exact ⟨_, rfl, iteT ⟨v, S1, g1, s1, e.mono x1.le, h1⟩⟩
    · cases rv
      exact ⟨_, rfl, iteF (h1 g1 H1 (.refl _ _) s1 _ (.bl _))⟩
    · exact h1.elim
  · rintro σ H Q ⟨v, S, g, s, e, h⟩
    refine ⟨v, S, g, s, e, (Fin.seq h).imp (fun d g1 H1 x1 ⟨S1, s1, h1⟩ xv rv => ?_) fun _ _ _ _ z => z⟩
    try dsimp only at h1
    split at h1
    · cases rv
      exact ⟨_, rfl, iteT ⟨v, S1, g1, s1, e.mono x1.le, h1⟩⟩
    · cases rv
      obtain ⟨k, ek, q⟩ := h1 g1 H1 (.refl _ _) s1 _ (.bl _)
      cases ek
      exact ⟨_, rfl, iteF q⟩
    · exact h1.elim
theorem sdb_or (ha : SD ca X W a ma) (hb : SDB ca X W .Or (b :: rest) mb) : SDB ca X W .Or (a :: b :: rest) (orM ma mb) := by
  refine ⟨fun pos => PE_imp (pe_or ha.pe (hb.pe pos)) ?_, fun pos => PW_imp (pw_or ha.pt (hb.pw pos)) ?_⟩
  · rintro σ H Q ⟨v, S, g, s, e, h⟩
    refine ⟨v, S, g, s, e, (Fin.seq h).imp (fun d g1 H1 x1 ⟨S1, s1, h1⟩ xv rv => ?_) fun _ _ _ _ z => z⟩
    try dsimp only at h1
    split at h1
    · cases rv
      exact ⟨_, rfl, iteT (h1 g1 H1 (.refl _ _) s1 _ (.bl _))⟩
    · cases rv
      exact ⟨_, rfl, iteF ⟨v, S1, g1, s1, e.mono x1.le, h1⟩⟩
    · exact h1.elim
  · rintro σ H Q ⟨v, S, g, s, e, h⟩
    refine ⟨v, S, g, s, e, (Fin.seq h).imp (fun d g1 H1 x1 ⟨S1, s1, h1⟩ xv rv => ?_) fun _ _ _ _ z => z⟩
    try dsimp only at h1
    split at h1
    · cases rv
      obtain ⟨k, ek, q⟩ := h1 g1 H1 (.refl _ _) s1 _ (.bl _)
      cases ek
      exact ⟨_, rfl, iteT q⟩
    · cases rv
      exact ⟨_, rfl, iteF ⟨v, S1, g1, s1, e.mono x1.le, h1⟩⟩
    · exact h1.elim
theorem sd_bool {op : BoolOp} {es : List Expr} (h : SDB ca X W op es m) : SD ca X W (.BoolOp op es pos) m := ⟨h.pe pos, (h.pw pos).pt⟩
theorem sd_if (hc : SD ca X W c mc) (ha : SD ca X W a ma) (hb : SD ca X W b mb) : SD ca X W (.IfExp c a b pos) (ifM mc ma mb) := by
  refine ⟨PE_imp (pe_ifExp hc.pt ha.pe hb.pe) ?_, ⟨fun pins s σ H Q I h => ?_⟩⟩
  · rintro σ H Q ⟨v, S, g, s, e, h⟩
    refine ⟨v, S, g, s, e, (Fin.seq h).imp (fun d g1 H1 x1 ⟨S1, s1, h1⟩ xv rv => ?_) fun _ _ _ _ z => z⟩
    try dsimp only at h1
    split at h1
    · cases rv
      exact ⟨_, rfl, iteT ⟨v, S1, g1, s1, e.mono x1.le, h1⟩⟩
    · cases rv
      exact ⟨_, rfl, iteF ⟨v, S1, g1, s1, e.mono x1.le, h1⟩⟩
    · exact h1.elim
  · obtain ⟨v, S, g, sm, e, h⟩ := h
    refine PyProof.Rows.isTrue_IfExp (thn (hc.pt.run pins s σ H (fun k H1 => if k = true then tTest (rdE ca W ma) σ H1 Q else tTest (rdE ca W mb) σ H1 Q) I ⟨v, S, g, sm, e, (Fin.seq h).imp (fun d g1 H1 x1 ⟨S1, s1, h1⟩ xv rv => ?_) fun _ _ _ _ z => z⟩) fun k s1 ⟨H1, I1, q⟩ => ?_)
    · try dsimp only at h1
      split at h1
      · cases rv
        exact ⟨_, rfl, iteT ⟨v, S1, g1, s1, e.mono x1.le, h1⟩⟩
      · cases rv
        exact ⟨_, rfl, iteF ⟨v, S1, g1, s1, e.mono x1.le, h1⟩⟩
      · exact h1.elim
    · cases k with
      | true =>
        rw [if_pos rfl] at q ⊢
        exact ha.pt.run pins s1 σ H1 Q I1 q
      | false =>
        rw [if_neg Bool.false_ne_true] at q ⊢
        exact hb.pt.run pins s1 σ H1 Q I1 q
/-! ### arguments -/
abbrev CA := Ev → S3 → R (List D)
def aNil : CA := fun _ S => .ok [] S
def aCons (m : CE) (r : CA) : CA := fun v S => (m v S).bind fun x S1 => (r v S1).bind fun xs S2 => .ok (x :: xs) S2
variable (ca)
def rdA (W : WX) (m : CA) : TA := fun σ H Q => ∃ v S g, Sim ca g S H ∧ EnvR ca g v σ ∧
  Fin ca g H (m v S) (fun d g' H' => ∀ xs, RepL ca g' xs d → Q xs H') (fun e g' H' => ∀ cls od, RepX ca g' H' cls od e → W cls od σ H')
variable {ca}
theorem sda_nil : PA X [] (rdA ca W aNil) := PA_imp pa_nil <| by
  rintro σ H Q ⟨v, S, g, s, e, h⟩
  exact h g H (.refl _ _) s _ .nil
theorem sda_cons {es : List Expr} {ms : CA} (ha : SD ca X W a ma) (hr : PA X es (rdA ca W ms)) (hs : starEach (a :: es) X.env = (false, eval a X.env) :: starEach es X.env := by rfl) : PA X (a :: es) (rdA ca W (aCons ma ms)) := PA_imp (pa_cons ha.pe hr hs) <| by
  rintro σ H Q ⟨v, S, g, s, e, h⟩
  refine ⟨v, S, g, s, e, (Fin.seq h).imp (fun d g1 H1 x1 ⟨S1, s1, h1⟩ xv rv => ?_) fun _ _ _ _ z => z⟩
  refine ⟨v, S1, g1, s1, e.mono x1.le, (Fin.seq h1).imp (fun ds g2 H2 x2 ⟨S2, s2, h2⟩ xs rs => ?_) fun _ _ _ _ z => z⟩
  exact h2 g2 H2 (.refl _ _) s2 _ (.cons (rv.mono x2.le) rs)
/-- a call of a built-in by its values -/
def cb (ms : CA) (f : OL) : CE := fun v S => (ms v S).bind fun xs S1 => lift (f xs S1)
theorem rd_cb {ms : CA} {f : OL} : ∀ σ H Q, rdE ca W (cb ms f) σ H Q → tCB (rdOL ca f) (rdA ca W ms) σ H Q := by
  rintro σ H Q ⟨v, S, g, s, e, h⟩
  refine ⟨v, S, g, s, e, (Fin.seq h).imp (fun d g1 H1 x1 ⟨S1, s1, h1⟩ xs rs => ?_) fun _ _ _ _ z => z⟩
  exact ⟨g1, S1, d, s1, rs, FinO.of h1⟩
theorem sd_callB {id : String} {x : Str} {p : Pos} {f : OL} {es : List Expr} {ms : CA} (hc : CallR X (.builtin id) (rdOL ca f)) (hg : Gl X x) (hm : X.mg x = none) (hv : bootBuiltins x = some (.builtin id)) (ha : PA X (e :: es) (rdA ca W ms)) (hn : x ≠ "__name__" := by decide) (hdb : (x == ("__debug__" : Str)) = false := by decide)
    (he : starEach (e :: es) X.env = (false, eval e X.env) :: starEach es X.env := by rfl) (hpl : (backTo pos (starEach es X.env)).any (·.1) = false := by rfl) (hw : ∀ whole, isTrue (.Call (.Name x p) (e :: es) [] pos) X.env whole = (do let v ← whole; standAt (Expr.Call (.Name x p) (e :: es) [] pos).pos; holding [v] (truthy v)) := by intro _; rfl) : SD ca X W (.Call (.Name x p) (e :: es) [] pos) (cb ms f) :=
  .of (PE_imp (pe_callB hc hg hm hv ha hn hdb he hpl) rd_cb) hw
theorem sd_callT {T : String} {x : Str} {p : Pos} {f : OL} {es : List Expr} {ms : CA} (hc : CallR X (.type T) (rdOL ca f)) (hg : Gl X x) (hm : X.mg x = none) (hv : bootBuiltins x = some (.type T)) (ha : PA X (e :: es) (rdA ca W ms)) (hn : x ≠ "__name__" := by decide) (hdb : (x == ("__debug__" : Str)) = false := by decide)
    (he : starEach (e :: es) X.env = (false, eval e X.env) :: starEach es X.env := by rfl) (hpl : (backTo pos (starEach es X.env)).any (·.1) = false := by rfl) (hw : ∀ whole, isTrue (.Call (.Name x p) (e :: es) [] pos) X.env whole = (do let v ← whole; standAt (Expr.Call (.Name x p) (e :: es) [] pos).pos; holding [v] (truthy v)) := by intro _; rfl) : SD ca X W (.Call (.Name x p) (e :: es) [] pos) (cb ms f) :=
  .of (PE_imp (pe_callTy hc hg hm hv ha hn hdb he hpl) rd_cb) hw
end
end M3
/-! M3D: operators and comparisons. -/
namespace M3
open PySem L2
variable {ca : CAK}
/-- the machine's own bound on sizes -/
def lim : Nat := 1000000
theorem lim_le : lim ≤ sizeLine := by rw [sizeLine_eq]; decide
section
variable {X : Cx}
theorem OpR.imp {f : Value → Value → Sem Value} {r r' : R2} (h : OpR X f r) (i : ∀ x y H Q, r' x y H Q → r x y H Q) : OpR X f r' := fun pins s σ H x y v u Q I rx ry q => h pins s σ H x y v u Q I rx ry (i x y H Q q)
/-! ### arithmetic -/
def addF : O2 := fun x y S => match x, y with
  | .int i, .int j => some (.int (i + j), S)
  | .str a, .str b => if a.length + b.length ≤ lim then some (.str (a ++ b), S) else none
  | x, y => match lstOf S x, lstOf S y with
    | some xs, some ys => if xs.length + ys.length ≤ lim then some (.lst (xs ++ ys), S) else none
    | _, _ => none
theorem lstR {pins : List (Addr × Obj)} {σ : L2.St} {H : Hp} {s : Shared} (I : Inv X pins σ H s) {l : Addr} {xs : List V} (h : Rd H l (.lst xs)) : xs.length ≤ sizeLine ∧ ∃ (its : List Value) (n : Nat), Vals xs its ∧ xs.length = its.length ∧ s.heap.get? l = some { cls := .type "list", data := .seq its.toArray n } := by
  obtain ⟨z, its, n, r, e⟩ := h.ok I.hok
  exact ⟨z, its, n, r, r.length, e⟩
/-- list + list, of lists that may be locked -/
theorem op_catR : OpR X (binaryOp .Add) (fun x y H Q => ∃ l b xs zs, x = .ref l ∧ y = .ref b ∧ Rd H l (.lst xs) ∧ Rd H b (.lst zs) ∧ xs.length + zs.length ≤ sizeLine ∧ ∀ p, H p = none → Q (.ref p) (upd H p (.lst (xs ++ zs)))) := by
  intro pins s σ H x y v u Q I rx ry h
  obtain ⟨l, b, xs, zs, rfl, rfl, hH, hB, hz, q⟩ := h
  cases rx
  cases ry
  obtain ⟨z, its, n, r, hl, e⟩ := lstR I hH
  obtain ⟨z2, its2, n2, r2, hl2, e2⟩ := lstR I hB
  refine PySem.P.add_list e e2 ?_ (by rw [List.size_toArray, List.size_toArray]; omega)
  have ea : its.toArray ++ its2.toArray = (its ++ its2).toArray := by simp
  rw [ea]
  exact ⟨.ref _, _, I.lnew (t' := s.toks) (r.append r2) (by rw [List.length_append]; omega), rfl, q _ I.fresh⟩
theorem Rep.int_inv {g : Wld} {x : V} {k : Int} (r : Rep ca g x (.int k)) : x = .int k := by cases r; rfl
theorem Rep.str_inv {g : Wld} {x : V} {k : Str} (r : Rep ca g x (.str k)) : x = .str k := by cases r; rfl
theorem Rep.non_inv {g : Wld} {x : V} (r : Rep ca g x .non) : x = .non := by cases r; rfl
/-- a new list of trees -/
theorem newLst {g : Wld} {S : S3} {H : Hp} {ds : List D} {vs : List V} {Q : VK} (s : Sim ca g S H) (r : RepL ca g vs ds) (h : FinO ca g H (some (.lst ds, S)) (fun r g' H' => ∀ z, Rep ca g' z r → Q z H')) :
    ∀ p, H p = none → Q (.ref p) (upd H p (.lst vs)) := fun p hp => h (g.tree p (.lst vs)) _ (s.extTree hp) (s.tree hp True.intro) _ (.lst upd_same (r.mono (s.leTree hp)))
theorem op_addF : OpR X (binaryOp .Add) (rdO2 ca addF) := by
  intro pins s σ H x y v u Q I rx ry ⟨g, S, d, e, sm, rd, re, h⟩
  unfold addF at h
  split at h
  · cases rd; cases re
    exact op_add pins s σ H _ _ v u Q I rx ry ⟨_, _, rfl, rfl, h.now sm _ (.int _)⟩
  · cases rd; cases re
    split at h
    · rename_i hz
      exact op_add_str pins s σ H _ _ v u Q I rx ry ⟨_, _, rfl, rfl, Nat.le_trans hz lim_le, h.now sm _ (.str _)⟩
    · exact h.elim
  · split at h
    · rename_i xs ys ex ey
      split at h
      · rename_i hz
        obtain ⟨a, vs, rfl, ha, ra⟩ := sm.lst rd ex
        obtain ⟨b, ws, rfl, hb, rb⟩ := sm.lst re ey
        exact op_catR pins s σ H _ _ v u Q I rx ry ⟨a, b, vs, ws, rfl, rfl, ha, hb, by rw [ra.len, rb.len]; exact Nat.le_trans hz lim_le, newLst sm (ra.app rb) h⟩
      · exact h.elim
    · exact h.elim
def subF : O2 := fun x y S => match x, y with
  | .int i, .int j => some (.int (i - j), S)
  | _, _ => none
theorem op_subF : OpR X (binaryOp .Sub) (rdO2 ca subF) := by
  intro pins s σ H x y v u Q I rx ry ⟨g, S, d, e, sm, rd, re, h⟩
  unfold subF at h
  split at h
  · cases rd; cases re
    exact op_sub pins s σ H _ _ v u Q I rx ry ⟨_, _, rfl, rfl, h.now sm _ (.int _)⟩
  · exact h.elim
def small64 (i : Int) : Bool := decide (-(2 ^ 64) < i ∧ i < 2 ^ 64)
def mulF : O2 := fun x y S => match x, y with
  | .int i, .int j => if small64 i || small64 j then some (.int (i * j), S) else none
  | _, _ => none
theorem op_mulF : OpR X (binaryOp .Mult) (rdO2 ca mulF) := by
  intro pins s σ H x y v u Q I rx ry ⟨g, S, d, e, sm, rd, re, h⟩
  unfold mulF at h
  split at h
  · cases rd; cases re
    split at h
    · rename_i hc
      refine op_mul pins s σ H _ _ v u Q I rx ry ⟨_, _, rfl, rfl, ?_, h.now sm _ (.int _)⟩
      rcases Bool.or_eq_true_iff.mp hc with z | z
      · exact .inl (of_decide_eq_true z)
      · exact .inr (of_decide_eq_true z)
    · exact h.elim
  · exact h.elim
def fdivF : O2 := fun x y S => match x, y with
  | .int i, .int j => if 0 < j ∧ j < 1073741824 then some (.int (i / j), S) else none
  | _, _ => none
theorem op_fdivF : OpR X (binaryOp .FloorDiv) (rdO2 ca fdivF) := by
  intro pins s σ H x y v u Q I rx ry ⟨g, S, d, e, sm, rd, re, h⟩
  unfold fdivF at h
  split at h
  · cases rd; cases re
    split at h
    · rename_i hc
      exact op_fdiv pins s σ H _ _ v u Q I rx ry ⟨_, _, rfl, rfl, hc, h.now sm _ (.int _)⟩
    · exact h.elim
  · exact h.elim
def modF : O2 := fun x y S => match x, y with
  | .int i, .int j => if 0 < j then some (.int (i % j), S) else none
  | _, _ => none
theorem op_modF : OpR X (binaryOp .Mod) (rdO2 ca modF) := by
  intro pins s σ H x y v u Q I rx ry ⟨g, S, d, e, sm, rd, re, h⟩
  unfold modF at h
  split at h
  · cases rd; cases re
    split at h
    · rename_i hc
      exact op_mod pins s σ H _ _ v u Q I rx ry ⟨_, _, rfl, rfl, hc, h.now sm _ (.int _)⟩
    · exact h.elim
  · exact h.elim
def powF : O2 := fun x y S => match x, y with
  | .int i, .int j => if 0 ≤ j ∧ j ≤ 1000000 ∧ i.natAbs < 2 ^ 64 then some (.int (i ^ j.toNat), S) else none
  | _, _ => none
theorem op_powF : OpR X (binaryOp .Pow) (rdO2 ca powF) := by
  intro pins s σ H x y v u Q I rx ry ⟨g, S, d, e, sm, rd, re, h⟩
  unfold powF at h
  split at h
  · cases rd; cases re
    split at h
    · rename_i hc
      exact op_pow pins s σ H _ _ v u Q I rx ry ⟨_, _, rfl, rfl, hc, h.now sm _ (.int _)⟩
    · exact h.elim
  · exact h.elim
/-! ### order of ints -/
def cmpF (p : Int → Int → Bool) : O2 := fun x y S => match x, y with
  | .int i, .int j => some (.bl (p i j), S)
  | _, _ => none
theorem op_cmpF {op : CmpOp} {p : Int → Int → Bool} (ho : OpR X (compareOp op) (rI0 fun i j => .bl (p i j))) : OpR X (compareOp op) (rdO2 ca (cmpF p)) := by
  intro pins s σ H x y v u Q I rx ry ⟨g, S, d, e, sm, rd, re, h⟩
  unfold cmpF at h
  split at h
  · cases rd; cases re
    exact ho pins s σ H _ _ v u Q I rx ry ⟨_, _, rfl, rfl, h.now sm _ (.bl _)⟩
  · exact h.elim
abbrev ltF : O2 := cmpF fun i j => decide (i < j)
abbrev leF : O2 := cmpF fun i j => decide (i ≤ j)
abbrev gtF : O2 := cmpF fun i j => decide (j < i)
abbrev geF : O2 := cmpF fun i j => decide (j ≤ i)
theorem op_ltF : OpR X (compareOp .Lt) (rdO2 ca ltF) := op_cmpF op_lt
theorem op_leF : OpR X (compareOp .LtE) (rdO2 ca leF) := op_cmpF op_le
theorem op_gtF : OpR X (compareOp .Gt) (rdO2 ca gtF) := op_cmpF op_gt
theorem op_geF : OpR X (compareOp .GtE) (rdO2 ca geF) := op_cmpF op_ge
/-! ### is None -/
def isNonD : D → Bool
  | .non => true
  | _ => false
def isF : O2 := fun x y S => match y with
  | .non => some (.bl (isNonD x), S)
  | _ => none
def isNotF : O2 := fun x y S => match y with
  | .non => some (.bl (!isNonD x), S)
  | _ => none
theorem isNon_eq {g : Wld} {x : V} {d : D} (r : Rep ca g x d) : decide (x = .non) = isNonD d := by cases r <;> rfl
theorem op_isF : OpR X (compareOp .Is) (rdO2 ca isF) := by
  intro pins s σ H x y v u Q I rx ry ⟨g, S, d, e, sm, rd, re, h⟩
  unfold isF at h
  split at h
  · cases re
    refine op_isN pins s σ H _ _ v u Q I rx ry ⟨rfl, ?_⟩
    rw [isNon_eq rd]
    exact h.now sm _ (.bl _)
  · exact h.elim
theorem op_isNotF : OpR X (compareOp .IsNot) (rdO2 ca isNotF) := by
  intro pins s σ H x y v u Q I rx ry ⟨g, S, d, e, sm, rd, re, h⟩
  unfold isNotF at h
  split at h
  · cases re
    refine op_notN pins s σ H _ _ v u Q I rx ry ⟨rfl, ?_⟩
    rw [isNon_eq rd]
    exact h.now sm _ (.bl _)
  · exact h.elim
/-! ### equality -/
def flatD : D → Option V
  | .non => some .non
  | .bl b => some (.bl b)
  | .int i => some (.int i)
  | .str s => some (.str s)
  | _ => none
def eqs (f : D → D → Option Bool) : List D → List D → Option Bool
  | x :: xs, y :: ys => match f x y, eqs f xs ys with
    | some a, some b => some (a && b)
    | _, _ => none
  | _, _ => some true
def eqk (f : D → D → Option Bool) : List (Key × D) → List (Key × D) → Option Bool
  | [], _ => some true
  | (k, v) :: r, b => match getA b k with
    | none => (eqk f r b).map fun _ => false
    | some y => match f v y, eqk f r b with
      | some a, some c => some (a && c)
      | _, _ => none
/-- two symbolic numbers, two texts of the same dict -/
def flSame : D → D → Bool
  | .non, .non => true
  | .bl a, .bl b => a == b
  | .int a, .int b => decide (a = b)
  | .str a, .str b => decide (a = b)
  | .sym i, .sym j => Nat.beq i j
  | _, _ => false
def kvSame : List (Key × D) → List (Key × D) → Bool
  | [], [] => true
  | (k, x) :: r, (j, y) :: t => decide (k = j) && flSame x y && kvSame r t
  | _, _ => false
def symEq : D → D → Bool
  | .sym i, .sym j => Nat.beq i j
  | .txt a, .txt b => kvSame a b
  | _, _ => false
theorem flSame_of {x y : D} (h : flSame x y = true) : x = y := by
  unfold flSame at h
  split at h
  · rfl
  · rw [eq_of_beq h]
  · rw [of_decide_eq_true h]
  · rw [of_decide_eq_true h]
  · rw [Nat.beq_eq.mp h]
  · cases h
theorem kvSame_of : ∀ {a b : List (Key × D)}, kvSame a b = true → a = b
  | [], [], _ => rfl
  | [], _ :: _, h => by cases h
  | _ :: _, [], h => by cases h
  | (k, x) :: r, (j, y) :: t, h => by
    have h : (decide (k = j) && flSame x y && kvSame r t) = true := h
    rw [Bool.and_eq_true, Bool.and_eq_true] at h
    rw [of_decide_eq_true h.1.1, flSame_of h.1.2, kvSame_of h.2]
theorem symEq_of {g : Wld} {u v : V} {x y : D} (r : Rep ca g u x) (q : Rep ca g v y) (h : symEq x y = true) : u = v ∧ flatV u = true ∧ scal u u = true ∧ eqV u u = true := by
  unfold symEq at h
  split at h
  · have e := Nat.beq_eq.mp h
    subst e
    cases r; cases q
    exact ⟨rfl, rfl, rfl, by simp [eqV]⟩
  · have e := kvSame_of h
    subst e
    cases r with
    | txt e1 => cases q with
      | txt e2 =>
        rw [e1] at e2
        cases e2
        exact ⟨rfl, rfl, rfl, by simp [eqV]⟩
  · cases h
def eqF (S : S3) : Nat → D → D → Option Bool
  | 0, _, _ => none
  | n + 1, x, y => if symEq x y = true then some true else match flatD x, flatD y with
    | some a, some b => if scal a b = true then some (decide (a = b)) else none
    | some _, none => none
    | none, some _ => none
    | none, none => match x, y with
      | .tup a, .tup b => (eqs (eqF S n) a b).map fun r => r && a.length == b.length
      | .tup _, _ => none
      | _, .tup _ => none
      | x, y => match obOf S x, obOf S y with
        | some (.lst a), some (.lst b) => if a.length = b.length then eqs (eqF S n) a b else some false
        | some (.dic a), some (.dic b) => (eqk (eqF S n) a b).map fun r => a.length == b.length && r
        | _, _ => none
theorem flatD_rep {g : Wld} {v : V} {d : D} {a : V} (r : Rep ca g v d) (h : flatD d = some a) : v = a ∧ flatV a = true := by
  cases r <;> cases h <;> exact ⟨rfl, rfl⟩
theorem eqV_scal {a b : V} (fa : flatV a = true) (fb : flatV b = true) (h : scal a b = true) : eqV a b = decide (a = b) := by
  cases a <;> first | (cases fa; done) | (cases b <;> first | (cases fb; done) | (cases h; done) | (simp [eqV]; done) | (simp only [eqV]; first | exact dec_int.symm | exact dec_bl.symm | exact dec_str.symm))
section
variable {g : Wld} {S : S3} {H : Hp}
theorem eqs_same {f : D → D → Option Bool} (hf : ∀ v x y b, Rep ca g v x → Rep ca g v y → f x y = some b → b = true) : ∀ {vs : List V} {xs ys : List D} {b : Bool}, RepL ca g vs xs → RepL ca g vs ys → eqs f xs ys = some b → b = true
  | _, _, _, b, .nil, .nil, h => by unfold eqs at h; cases h; rfl
  | _, _, _, b, .cons r t, .cons q u, h => by
    unfold eqs at h
    split at h
    · rename_i a c e1 e2
      cases h
      rw [hf _ _ _ _ r q e1, eqs_same hf t u e2]
      rfl
    · cases h
theorem getA_keys {α β : Type} : ∀ {l : List (Key × α)} {m : List (Key × β)}, l.map (·.1) = m.map (·.1) → ∀ k, (getA l k).isSome = (getA m k).isSome
  | [], [], _, _ => rfl
  | [], _ :: _, h, _ => by simp at h
  | _ :: _, [], h, _ => by simp at h
  | (j, x) :: r, (i, y) :: t, h, k => by
    simp only [List.map_cons, List.cons.injEq] at h
    unfold getA
    rw [h.1]
    by_cases e : i = k
    · rw [if_pos e, if_pos e]; rfl
    · rw [if_neg e, if_neg e]; exact getA_keys h.2 k
theorem getA_head {α : Type} {k : Key} {x : α} {r : List (Key × α)} : getA ((k, x) :: r) k = some x := by unfold getA; rw [if_pos rfl]
theorem getA_tail {α : Type} {k j : Key} {x : α} {r : List (Key × α)} (h : ¬ j = k) : getA ((j, x) :: r) k = getA r k := by
  conv => lhs; unfold getA
  rw [if_neg h]
theorem mem_getA {α : Type} : ∀ {l : List (Key × α)} {k : Key} {x : α}, (l.map (·.1)).Nodup → (k, x) ∈ l → getA l k = some x
  | (j, y) :: r, k, x, nd, h => by
    rw [List.map_cons] at nd
    obtain ⟨n1, n2⟩ := List.nodup_cons.mp nd
    rcases List.mem_cons.mp h with e | e
    · cases e; exact getA_head
    · have hj : ¬ j = k := fun z => n1 (List.mem_map.mpr ⟨(k, x), e, z.symm⟩)
      rw [getA_tail hj]
      exact mem_getA n2 e
/-- what eqk says, key by key -/
theorem eqk_all {f : D → D → Option Bool} : ∀ {a b : List (Key × D)} {r : Bool}, eqk f a b = some r →
    (∀ k v y, (k, v) ∈ a → getA b k = some y → ∃ c, f v y = some c) ∧ r = a.all fun p => match getA b p.1 with
      | some y => (f p.2 y).getD false
      | none => false
  | [], b, r, h => by unfold eqk at h; cases h; exact ⟨fun k v y z => (by simp at z), rfl⟩
  | (j, v) :: t, b, r, h => by
    unfold eqk at h
    split at h
    · rename_i hj
      obtain ⟨c, hc, e⟩ := Option.map_eq_some_iff.mp h
      obtain ⟨h1, h2⟩ := eqk_all hc
      subst e
      refine ⟨fun k w y m q => ?_, ?_⟩
      · rcases List.mem_cons.mp m with z | z
        · cases z; rw [hj] at q; cases q
        · exact h1 k w y z q
      · rw [List.all_cons, hj]; rfl
    · rename_i y hj
      split at h
      · rename_i a c e1 e2
        obtain ⟨h1, h2⟩ := eqk_all e2
        cases h
        refine ⟨fun k w y' m q => ?_, ?_⟩
        · rcases List.mem_cons.mp m with z | z
          · cases z; rw [hj] at q; cases q; exact ⟨a, e1⟩
          · exact h1 k w y' z q
        · rw [List.all_cons, hj, h2]
          show _ = ((f v y).getD false && _)
          rw [e1]; rfl
      · cases h
theorem RepK.mem : ∀ {vs : List (Key × V)} {ds : List (Key × D)} {k : Key} {d : D}, RepK ca g vs ds → (k, d) ∈ ds → ∃ v, (k, v) ∈ vs ∧ Rep ca g v d
  | _, _, _, _, .nil, h => by simp at h
  | _, _, k, d, .cons r t, h => by
    rcases List.mem_cons.mp h with e | e
    · cases e; exact ⟨_, List.mem_cons_self, r⟩
    · obtain ⟨v, h1, h2⟩ := RepK.mem t e
      exact ⟨v, List.mem_cons_of_mem _ h1, h2⟩
theorem valV_mem {κ : Type} [DecidableEq κ] : ∀ {l : List (κ × V)} {k : κ} {x : V}, (l.map (·.1)).Nodup → (k, x) ∈ l → valV l k = some x
  | (j, y) :: r, k, x, nd, h => by
    rw [List.map_cons] at nd
    obtain ⟨n1, n2⟩ := List.nodup_cons.mp nd
    rcases List.mem_cons.mp h with e | e
    · cases e; exact valV_pos rfl
    · have hj : ¬ j = k := fun z => n1 (List.mem_map.mpr ⟨(k, x), e, z.symm⟩)
      rw [valV_neg (p := (j, y)) hj]
      exact valV_mem n2 e
/-- the same value: equal -/
theorem eqF_same (sm : Sim ca g S H) (nd : ∀ a kvs, Rd H a (.dK kvs) → (kvs.map (·.1)).Nodup) : ∀ (n : Nat) (v : V) (x y : D) (b : Bool), Rep ca g v x → Rep ca g v y → eqF S n x y = some b → b = true
  | 0, _, _, _, _, _, _, h => by cases h
  | n + 1, v, x, y, b, r, q, h => by
    unfold eqF at h
    split at h
    · cases h; rfl
    split at h
    · rename_i a c e1 e2
      obtain ⟨z1, f1⟩ := flatD_rep r e1
      obtain ⟨z2, _⟩ := flatD_rep q e2
      subst z1
      subst z2
      split at h
      · cases h
        simp
      · cases h
    · cases h
    · cases h
    · split at h
      · obtain ⟨c, hc, e⟩ := Option.map_eq_some_iff.mp h
        subst e
        cases r with
        | tup e1 r1 =>
          cases q with
          | tup e2 r2 =>
            rw [e1] at e2
            cases e2
            rw [eqs_same (eqF_same sm nd n) r1 r2 hc, ← r1.len, ← r2.len]
            simp
      · cases h
      · cases h
      · split at h
        · rename_i a c e1 e2
          obtain ⟨p, vs, z1, hp, r1⟩ := sm.lst r (by unfold lstOf; rw [e1])
          obtain ⟨p', vs', z2, hp', r2⟩ := sm.lst q (by unfold lstOf; rw [e2])
          rw [z1] at z2
          cases z2
          have ev : vs = vs' := by
            rcases hp with hp | ⟨o, hp⟩ <;> rcases hp' with hp' | ⟨o', hp'⟩ <;> (rw [hp] at hp'; cases hp' <;> rfl)
          subst ev
          rw [if_pos (by rw [← r1.len, ← r2.len])] at h
          exact eqs_same (eqF_same sm nd n) r1 r2 h
        · rename_i a c e1 e2
          obtain ⟨p, vs, z1, hp, r1⟩ := sm.dic r (by unfold dicOf; rw [e1])
          obtain ⟨p', vs', z2, hp', r2⟩ := sm.dic q (by unfold dicOf; rw [e2])
          rw [z1] at z2
          cases z2
          have ev : vs = vs' := by
            rcases hp with hp | ⟨o, hp⟩ <;> rcases hp' with hp' | ⟨o', hp'⟩ <;> (rw [hp] at hp'; cases hp' <;> rfl)
          subst ev
          obtain ⟨k, hk, e⟩ := Option.map_eq_some_iff.mp h
          subst e
          obtain ⟨h1, h2⟩ := eqk_all hk
          have hl : (a.length == c.length) = true := by rw [← r1.len, ← r2.len]; simp
          rw [hl, Bool.true_and, h2, List.all_eq_true]
          rintro ⟨k', d'⟩ hm
          obtain ⟨v1, m1, rv1⟩ := r1.mem hm
          have hv := valV_mem (nd _ _ hp) m1
          cases hg : getA c k' with
          | none => rw [r2.none hg] at hv; cases hv
          | some y' =>
            obtain ⟨v2, q2, rv2⟩ := r2.get hg
            rw [hv] at q2
            cases q2
            obtain ⟨c', hc'⟩ := h1 k' d' y' hm hg
            show (eqF S n d' y').getD false = true
            rw [hc']
            exact eqF_same sm nd n v1 d' y' c' rv1 rv2 hc'
        · cases h
end
section
variable {pins : List (Addr × Obj)} {σ : L2.St} {H : Hp} {s : Shared} {g : Wld} {S : S3}
theorem range_all_succ (e : Nat → Bool) (n : Nat) : (List.range (n + 1)).all e = (e 0 && (List.range n).all fun j => e (j + 1)) := by
  rw [List.range_succ_eq_map, List.all_cons, List.all_map]
  rfl
theorem eqs_tree {P : Program} {w : World} {n : Nat} {f : D → D → Option Bool}
    (hf : ∀ u v x y uv vv b, Rep ca g u x → Rep ca g v y → RelV u uv → RelV v vv → f x y = some b → PySem.W.EqTree P w s n uv vv b) :
    ∀ {us vs : List V} {xs ys : List D} {its jts : List Value} {b : Bool}, RepL ca g us xs → RepL ca g vs ys → Vals us its → Vals vs jts → eqs f xs ys = some b →
      ∃ e : Nat → Bool, (∀ (j : Nat) (h1 : j < its.length) (h2 : j < jts.length), PySem.W.EqTree P w s n its[j] jts[j] (e j)) ∧ (List.range (min its.length jts.length)).all e = b
  | [], vs, [], ys, [], jts, b, .nil, r2, .nil, v2, h => by
    refine ⟨fun _ => true, fun j h1 _ => absurd h1 (Nat.not_lt_zero _), ?_⟩
    have h : (some true : Option Bool) = some b := by unfold eqs at h; exact h
    cases h
    simp
  | u :: us, [], x :: xs, [], i :: its, [], b, _, .nil, _, .nil, h => by
    refine ⟨fun _ => true, fun j _ h2 => absurd h2 (Nat.not_lt_zero _), ?_⟩
    have h : (some true : Option Bool) = some b := by unfold eqs at h; exact h
    cases h
    simp
  | u :: us, v :: vs, x :: xs, y :: ys, i :: its, j :: jts, b, .cons r t, .cons q k, .cons ru rt, .cons qu qt, h => by
    unfold eqs at h
    split at h
    · rename_i a c e1 e2
      cases h
      obtain ⟨e, h1, h2⟩ := eqs_tree hf t k rt qt e2
      refine ⟨fun m => match m with
        | 0 => a
        | m + 1 => e m, fun m m1 m2 => ?_, ?_⟩
      · cases m with
        | zero => exact hf _ _ _ _ _ _ _ r q ru qu e1
        | succ m => exact h1 m (Nat.lt_of_succ_lt_succ m1) (Nat.lt_of_succ_lt_succ m2)
      · have em : min (i :: its).length (j :: jts).length = min its.length jts.length + 1 := by simp only [List.length_cons]; omega
        rw [em, range_all_succ]
        show (a && (List.range (min its.length jts.length)).all e) = _
        rw [h2]
    · cases h
theorem mem_valueAt {k : Key} {v : Value} : ∀ {l : List (Key × Value)}, (l.map (·.1)).Nodup → (k, v) ∈ l → valueAt l k = some v
  | [], _, h => by simp at h
  | p :: r, nd, h => by
    rw [List.map_cons] at nd
    obtain ⟨n1, n2⟩ := List.nodup_cons.mp nd
    unfold valueAt
    rw [List.find?_cons]
    rcases List.mem_cons.mp h with e | e
    · subst e; simp
    · have hj : ¬ p.1 = k := fun z => n1 (List.mem_map.mpr ⟨(k, v), e, z.symm⟩)
      rw [decide_eq_false hj]
      exact mem_valueAt n2 e
theorem getA_mem {α : Type} {k : Key} {d : α} : ∀ {l : List (Key × α)}, getA l k = some d → (k, d) ∈ l
  | [], h => by cases h
  | (j, x) :: r, h => by
    by_cases e : j = k
    · subst e
      rw [getA_head] at h
      cases h
      exact List.mem_cons_self
    · rw [getA_tail e] at h
      exact List.mem_cons_of_mem _ (getA_mem h)
theorem eqk_tree {P : Program} {w : World} {n : Nat} {f : D → D → Option Bool}
    (hf : ∀ u v x y uv vv b, Rep ca g u x → Rep ca g v y → RelV u uv → RelV v vv → f x y = some b → PySem.W.EqTree P w s n uv vv b)
    {vs vs' : List (Key × V)} {a c : List (Key × D)} {us us' : List (Key × Value)} {r : Bool} (r1 : RepK ca g vs a) (r2 : RepK ca g vs' c) (kv1 : KV vs us) (kv2 : KV vs' us') (nd1 : (vs.map (·.1)).Nodup) (h : eqk f a c = some r) :
    ∃ e : Key → Bool, (∀ k v y, (k, v) ∈ us → valueAt us' k = some y → PySem.W.EqTree P w s n v y (e k)) ∧ (us.all fun p => (valueAt us' p.1).isSome && e p.1) = r := by
  obtain ⟨h1, h2⟩ := eqk_all h
  refine ⟨fun k => match getA a k, getA c k with
    | some d, some d' => (f d d').getD false
    | _, _ => false, fun k v y hm hy => ?_, ?_⟩
  · have nu : (us.map (·.1)).Nodup := by rw [← KV.keys kv1]; exact nd1
    have q1 := KV.val kv1 k
    rw [mem_valueAt nu hm] at q1
    have q2 := KV.val kv2 k
    rw [hy] at q2
    cases g1 : getA a k with
    | none => rw [r1.none g1] at q1; exact q1.elim
    | some d =>
      cases g2 : getA c k with
      | none => rw [r2.none g2] at q2; exact q2.elim
      | some d' =>
        obtain ⟨v1, w1, rv1⟩ := r1.get g1
        obtain ⟨v2, w2, rv2⟩ := r2.get g2
        rw [w1] at q1
        rw [w2] at q2
        obtain ⟨c', hc'⟩ := h1 k d d' (getA_mem g1) g2
        dsimp only
        rw [g1, g2]
        show PySem.W.EqTree P w s n v y ((f d d').getD false)
        rw [hc']
        exact hf v1 v2 d d' v y c' rv1 rv2 q1 q2 hc'
  · rw [h2]
    have go : ∀ (vs : List (Key × V)) (l : List (Key × D)) (ul : List (Key × Value)), RepK ca g vs l → KV vs ul → (∀ p ∈ l, getA a p.1 = some p.2) → (ul.all fun p => (valueAt us' p.1).isSome && (match getA a p.1, getA c p.1 with
        | some d, some d' => (f d d').getD false
        | _, _ => false)) = l.all fun p => match getA c p.1 with
        | some y => (f p.2 y).getD false
        | none => false := by
      intro vs
      induction vs with
      | nil => intro l ul h1 h2 _; cases h1; cases h2; rfl
      | cons p vs ih =>
        intro l ul h1 h2 hm
        cases h1 with
        | cons ra rt =>
          cases h2 with
          | cons qa qt =>
            rename_i k0 v0 d0 ds0 b0 ul0
            rw [List.all_cons, List.all_cons, ih _ _ rt qt fun p hp => hm p (List.mem_cons_of_mem _ hp)]
            have hk : k0 = b0.1 := qa.1
            rw [← hk]
            have g1 : getA a k0 = some d0 := hm (k0, d0) List.mem_cons_self
            rw [g1]
            have q2 := KV.val kv2 k0
            cases g2 : getA c k0 with
            | none =>
              show ((valueAt us' k0).isSome && false && _) = (false && _)
              rw [Bool.and_false]
            | some d' =>
              obtain ⟨v2, w2, _⟩ := r2.get g2
              rw [w2] at q2
              obtain ⟨x2, hx2, _⟩ := RelO.some_of q2
              rw [hx2]
              rfl
    exact go vs a us r1 kv1 fun p hp => mem_getA (by rw [← r1.keys]; exact nd1) hp
theorem eqF_tree (I : Inv X pins σ H s) (sm : Sim ca g S H) : ∀ (n : Nat) (u v : V) (x y : D) (uv vv : Value) (b : Bool), Rep ca g u x → Rep ca g v y → RelV u uv → RelV v vv → eqF S n x y = some b → PySem.W.EqTree X.prog X.w s n uv vv b
  | 0, _, _, _, _, _, _, _, _, _, _, _, h => by cases h
  | n + 1, u, v, x, y, uv, vv, b, r, q, ru, qv, h => by
    have same : u = v → b = true := fun e => by
      subst e
      exact eqF_same sm (fun a kvs hr => ndK I hr) (n + 1) u x y b r q h
    have sv : u = v → uv = vv ∨ flatV u = true := fun e => by
      subst e
      cases u with
      | ref a => exact .inl ((show uv = _ from ru).trans (show vv = _ from qv).symm)
      | ty a => exact .inl ((show uv = _ from ru).trans (show vv = _ from qv).symm)
      | byt _ => cases r
      | flt _ => cases r
      | _ => exact .inr rfl
    by_cases euv : ∃ a, u = .ref a ∧ v = .ref a
    · obtain ⟨a, rfl, rfl⟩ := euv
      rw [same rfl]
      cases ru
      cases qv
      exact .same
    · unfold eqF at h
      split at h
      · rename_i hs
        obtain ⟨rfl, f1, _, e⟩ := symEq_of r q hs
        cases h
        rw [← e]
        exact .leaf fun A _ => eqAt_V ru qv f1 f1
      split at h
      · rename_i a c e1 e2
        obtain ⟨rfl, f1⟩ := flatD_rep r e1
        obtain ⟨rfl, f2⟩ := flatD_rep q e2
        split at h
        · rename_i hs
          cases h
          rw [← eqV_scal f1 f2 hs]
          exact .leaf fun A _ => eqAt_V ru qv f1 f2
        · cases h
      · cases h
      · cases h
      · split at h
        · obtain ⟨c, hc, e⟩ := Option.map_eq_some_iff.mp h
          subst e
          obtain ⟨a, vs, rfl, ha, ra⟩ := sm.tup r
          obtain ⟨a', vs', rfl, ha', ra'⟩ := sm.tup q
          cases ru
          cases qv
          obtain ⟨its, rv, ht, _⟩ := I.tuple (SqT.of ha)
          obtain ⟨jts, rv', ht', _⟩ := I.tuple (SqT.of ha')
          obtain ⟨e, h1, h2⟩ := eqs_tree (eqF_tree I sm n) ra ra' rv rv' hc
          have z := PySem.W.EqTree.tuples (prog := X.prog) (w := X.w) (fun z => euv ⟨a, rfl, by rw [z]⟩) ht ht' (n := n) (e := e) (fun j j1 j2 => by simpa using h1 j (by simpa using j1) (by simpa using j2))
          rw [List.size_toArray, List.size_toArray, h2, ← rv.length, ← rv'.length, ra.len, ra'.len] at z
          exact z
        · cases h
        · cases h
        · split at h
          · rename_i a c e1 e2
            obtain ⟨p, vs, rfl, hp, r1⟩ := sm.lst r (by unfold lstOf; rw [e1])
            obtain ⟨p', vs', rfl, hp', r2⟩ := sm.lst q (by unfold lstOf; rw [e2])
            cases ru
            cases qv
            obtain ⟨its, rv, pl, _⟩ := I.list (.inl hp)
            obtain ⟨jts, rv', pl', _⟩ := I.list (.inl hp')
            have hne : p ≠ p' := fun z => euv ⟨p, rfl, by rw [z]⟩
            have l1 : its.length = a.length := by rw [← rv.length, r1.len]
            have l2 : jts.length = c.length := by rw [← rv'.length, r2.len]
            split at h
            · rename_i hl
              obtain ⟨e, h1, h2⟩ := eqs_tree (eqF_tree I sm n) r1 r2 rv rv' h
              have z := PySem.W.EqTree.lists (prog := X.prog) (w := X.w) hne pl.isList pl'.isList (by rw [List.size_toArray, List.size_toArray]; omega) (n := n) (e := e) (fun j j1 j2 => by simpa using h1 j (by simpa using j1) (by simpa using j2))
              rw [List.size_toArray] at z
              rw [show min its.length jts.length = its.length by omega] at h2
              rw [h2] at z
              exact z
            · rename_i hl
              cases h
              exact .listsLen hne pl.isList pl'.isList (by rw [List.size_toArray, List.size_toArray]; simp; omega)
          · rename_i a c e1 e2
            obtain ⟨p, vs, rfl, hp, r1⟩ := sm.dic r (by unfold dicOf; rw [e1])
            obtain ⟨p', vs', rfl, hp', r2⟩ := sm.dic q (by unfold dicOf; rw [e2])
            cases ru
            cases qv
            obtain ⟨k, hk, e⟩ := Option.map_eq_some_iff.mp h
            subst e
            obtain ⟨_, hs1, us, kv1, d1⟩ := dk_rd I.hok hp
            obtain ⟨_, hs2, us', kv2, d2⟩ := dk_rd I.hok hp'
            have hne : p ≠ p' := fun z => euv ⟨p, rfl, by rw [z]⟩
            obtain ⟨f, t, ef⟩ := eqk_tree (eqF_tree I sm n) r1 r2 kv1 kv2 (ndK I hp) hk
            have z := PySem.W.EqTree.dicts (prog := X.prog) (w := X.w) (n := n) hne hs1 hs2 d1 d2 (e := f) t
            have e1 : (us.length == us'.length) = (a.length == c.length) := by rw [← KV.length kv1, ← KV.length kv2, r1.len, r2.len]
            rw [e1, ef] at z
            exact z
          · cases h
end
/-- == of data, ten deep -/
def eqO : O2 := fun x y S => (eqF S 10 x y).map fun b => (.bl b, S)
def neO : O2 := fun x y S => (eqF S 10 x y).map fun b => (.bl (!b), S)
end
end M3
/-! M3E: == and != of data, in, not in. -/
namespace M3N
open PySem PySem.SeqAt
open PySem.AutoSeq1 (wpAny_loadPart')
open PySem.MeetsSeq PySem.MeetsSeq2 PySem.MeetsSeq3
variable {prog : Program} {w : World}
/-- the loop of two lists' !=, from place i on -/
theorem lists_from (p q : Addr) (xs ys : Array Value) (n1 n2 : Nat) (d1 d2 : Option Addr) (s1 s2 : Array (Option Value)) (hl : xs.size = ys.size) (f : Nat → Bool) (m : Nat) :
    ∀ i : Nat, xs.size - i = m → MeetsIn prog w (Builtin.«list.__eq__.loop» ⟨[.ref p, .ref q, rawInt i, rawInt 3], []⟩)
      (fun A R s => s.heap.get? p = some { cls := .type "list", dict := d1, data := .seq xs n1, slots := s1 } ∧ s.heap.get? q = some { cls := .type "list", dict := d2, data := .seq ys n2, slots := s2 } ∧
        (∀ j (h1 : j < xs.size) (h2 : j < ys.size), EqIn prog w A.in1 s xs[j] ys[j] (f j)) ∧ R (.ok (.ret (.bool (!((List.range xs.size).drop i).all f)))) s) := by
  induction m with
  | zero =>
    intro i hm A R s z
    obtain ⟨hp, gs, dr, tk, os⟩ := s
    obtain ⟨zp, zq, ze, zr⟩ := z
    wp_walk using wpAny_loadPart' zp, wpAny_loadPart' zq
    have nx : xs[((i : Nat) : Int).toNat]? = none := by simp; omega
    have ny : ys[((i : Nat) : Int).toNat]? = none := by simp; omega
    have nd : (List.range xs.size).drop i = [] := by simp; omega
    rw [nx, ny]
    wp_walk using wpAny_loadPart' zp, wpAny_loadPart' zq
    show R (.ok (.ret (.bool (xs.size != ys.size)))) _
    rw [nd] at zr
    rw [hl]
    simpa using zr
  | succ m ih =>
    intro i hm A R s z
    obtain ⟨hp, gs, dr, tk, os⟩ := s
    obtain ⟨zp, zq, ze, zr⟩ := z
    wp_walk using wpAny_loadPart' zp, wpAny_loadPart' zq
    have lx : i < xs.size := by omega
    have ly : i < ys.size := by omega
    have nx : xs[((i : Nat) : Int).toNat]? = some xs[i] := by simp [lx]
    have ny : ys[((i : Nat) : Int).toNat]? = some ys[i] := by simp [ly]
    have nd : (List.range xs.size).drop i = i :: (List.range xs.size).drop (i + 1) := by simp [List.drop_eq_getElem_cons, lx]
    have ci : ((i : Int) + 1) = ((i + 1 : Nat) : Int) := by omega
    rw [nx, ny]
    rw [nd, List.all_cons] at zr
    refine wpAny_bind (ze i lx ly _ _ ?_)
    cases fi : f i with
    | false =>
      rw [fi] at zr
      wp_walk using wpAny_loadPart' zp, wpAny_loadPart' zq
      rw [nx, ny]
      wp_walk
      simpa using zr
    | true =>
      rw [fi] at zr
      wp_walk
      rw [ci]
      refine ⟨plainId_quiet plain_eq_loop _, codeAny_builtin entry_eq_loop ?_⟩
      rw [Around.under_plainId plain_eq_loop _]
      exact ih (i + 1) (by omega) A R _ ⟨zp, zq, ze, by simpa using zr⟩
theorem lists_meet (p q : Addr) (xs ys : Array Value) (n1 n2 : Nat) (d1 d2 : Option Addr) (s1 s2 : Array (Option Value)) (hl : xs.size = ys.size) (f : Nat → Bool) :
    MeetsIn prog w (Builtin.«list.__ne__» ⟨[.ref p, .ref q], []⟩)
      (fun A R s => s.heap.get? p = some { cls := .type "list", dict := d1, data := .seq xs n1, slots := s1 } ∧ s.heap.get? q = some { cls := .type "list", dict := d2, data := .seq ys n2, slots := s2 } ∧
        (∀ j (h1 : j < xs.size) (h2 : j < ys.size), EqIn prog w A.in1 s xs[j] ys[j] (f j)) ∧ R (.ok (.ret (.bool (!(List.range xs.size).all f)))) s) := by
  intro A R s z
  obtain ⟨hp, gs, dr, tk, os⟩ := s
  obtain ⟨zp, zq, ze, zr⟩ := z
  have sub := AutoSeq1.sub_list_list
  have same : ¬ (xs.size != ys.size) = true := by simp [hl]
  wp_walk using wpAny_loadPart' zp, wpAny_loadPart' zq
  refine ⟨plainId_quiet plain_eq_loop _, codeAny_builtin entry_eq_loop ?_⟩
  rw [Around.under_plainId plain_eq_loop _]
  exact lists_from p q xs ys n1 n2 d1 d2 s1 s2 hl f _ 0 rfl A R _ ⟨zp, zq, ze, by simpa using zr⟩
theorem tuples_meet (p q : Addr) (xs ys : Array Value) (n1 n2 : Nat) (d1 d2 : Option Addr) (s1 s2 : Array (Option Value)) (f : Nat → Bool) :
    MeetsIn prog w (Builtin.«tuple.__ne__» ⟨[.ref p, .ref q], []⟩)
      (fun A R s => s.heap.get? p = some { cls := .type "tuple", dict := d1, data := .seq xs n1, slots := s1 } ∧ s.heap.get? q = some { cls := .type "tuple", dict := d2, data := .seq ys n2, slots := s2 } ∧
        (∀ j (h1 : j < xs.size) (h2 : j < ys.size), EqIn prog w A.in1 s xs[j] ys[j] (f j)) ∧
        R (.ok (.ret (.bool (!((List.range (min xs.size ys.size)).all f && xs.size == ys.size))))) s) :=
  .of_wp fun A R s z => by
    obtain ⟨hp, gs, dr, tk, os⟩ := s
    obtain ⟨zp, zq, ze, zr⟩ := z
    have sub := AutoSeq1.sub_tuple_tuple
    have hz : (xs.toList.zip ys.toList).length = min xs.size ys.size := by simp
    wp_walk using wpAny_loadPart' zp, wpAny_loadPart' zq, wpAny_forIn_list _ (fun left b s' => b.1 = none ∧ s' = ⟨hp, gs, dr, tk, os⟩ ∧ ∃ i, left = (xs.toList.zip ys.toList).drop i ∧
      R (.ok (.ret (.bool (!(((List.range (min xs.size ys.size)).drop i).all f && xs.size == ys.size))))) ⟨hp, gs, dr, tk, os⟩) _
    case turn =>
      rintro ⟨u, v⟩ left b s' ⟨hb, rfl, i, el, er⟩
      have li : i < (xs.toList.zip ys.toList).length := by
        by_cases c : i < (xs.toList.zip ys.toList).length
        · exact c
        · rw [List.drop_of_length_le (by omega)] at el
          cases el
      have lm : i < min xs.size ys.size := hz ▸ li
      have lx : i < xs.size := by omega
      have ly : i < ys.size := by omega
      rw [List.drop_eq_getElem_cons li] at el
      injection el with e1 e2
      have eu : u = xs[i] := by simpa using congrArg Prod.fst e1
      have ev : v = ys[i] := by simpa using congrArg Prod.snd e1
      subst eu ev
      have nd : (List.range (min xs.size ys.size)).drop i = i :: (List.range (min xs.size ys.size)).drop (i + 1) := by simp [List.drop_eq_getElem_cons, lm]
      rw [nd, List.all_cons] at er
      refine wpAny_bind (ze i lx ly _ _ ?_)
      cases fi : f i with
      | false =>
        rw [fi] at er
        wp_walk
        exact ⟨_, rfl, by simpa using er⟩
      | true =>
        rw [fi] at er
        wp_walk
        exact ⟨rfl, rfl, i + 1, e2, by simpa using er⟩
    case fin =>
      rintro ⟨b1, b2⟩ s' ⟨hb, rfl, i, el, er⟩
      simp only at hb
      subst hb
      have le : min xs.size ys.size ≤ i := by
        by_cases c : i < (xs.toList.zip ys.toList).length
        · rw [List.drop_eq_getElem_cons c] at el
          cases el
        · rw [hz] at c
          omega
      rw [List.drop_of_length_le (by simpa using le)] at er
      wp_walk
      exact ⟨_, rfl, by simpa [Builtin.Tuple.tupleCompareSizes, bne] using er⟩
    case h =>
      exact ⟨rfl, rfl, 0, rfl, by simpa using zr⟩
section
variable {A : Around} {E : Value → Shared → Prop} {s : Shared} {Q : Value → Shared → Prop}
theorem ne_lists {p q : Addr} {xs ys : Array Value} {f : Nat → Bool} (hp : s.heap.IsList p xs) (hq : s.heap.IsList q ys) (hl : xs.size = ys.size) (hu : A.units < cLine)
    (he : ∀ j (h1 : j < xs.size) (h2 : j < ys.size), EqIn prog w A.in1 s xs[j] ys[j] (f j)) (h : Q (.bool (!(List.range xs.size).all f)) s) : wpAny (model prog w) A (compareOp .NotEq (.ref p) (.ref q)) Q E s := by
  obtain ⟨⟨c1, d1, t1, s1⟩, o1, e1, n1, f1⟩ := id hp
  obtain ⟨⟨c2, d2, t2, s2⟩, o2, e2, n2, f2⟩ := id hq
  simp only at e1 f1 e2 f2
  subst e1 f1 e2 f2
  exact PySem.wpAny_richCompare_same_room (T := "list") (op := .NotEq) ⟨_, o1, rfl⟩ ⟨_, o2, rfl⟩ F.slot_list_ne (call_meetsIn F.slot_list_ne ⟨_, o1, rfl⟩ F.entry_list_ne (F.args_list_ne_2 _ _) (lists_meet p q xs ys n1 n2 d1 d2 s1 s2 hl f)
    ⟨o1, o2, he, show Value.bool (!(List.range xs.size).all f) ≠ Value.notImplemented ∧ Q (.bool (!(List.range xs.size).all f)) s from ⟨(fun x => nomatch x), h⟩⟩) hu
theorem ne_tuples {p q : Addr} {xs ys : Array Value} {f : Nat → Bool} (hp : s.heap.IsTuple p xs) (hq : s.heap.IsTuple q ys) (hu : A.units < cLine)
    (he : ∀ j (h1 : j < xs.size) (h2 : j < ys.size), EqIn prog w A.in1 s xs[j] ys[j] (f j)) (h : Q (.bool (!((List.range (min xs.size ys.size)).all f && xs.size == ys.size))) s) : wpAny (model prog w) A (compareOp .NotEq (.ref p) (.ref q)) Q E s := by
  obtain ⟨⟨c1, d1, t1, s1⟩, o1, e1, n1, f1⟩ := id hp
  obtain ⟨⟨c2, d2, t2, s2⟩, o2, e2, n2, f2⟩ := id hq
  simp only at e1 f1 e2 f2
  subst e1 f1 e2 f2
  exact PySem.wpAny_richCompare_same_room (T := "tuple") (op := .NotEq) ⟨_, o1, rfl⟩ ⟨_, o2, rfl⟩ F.slot_tuple_ne (call_meetsIn F.slot_tuple_ne ⟨_, o1, rfl⟩ F.entry_tuple_ne (F.args_tuple_ne_2 _ _) (tuples_meet p q xs ys n1 n2 d1 d2 s1 s2 f)
    ⟨o1, o2, he, show Value.bool (!((List.range (min xs.size ys.size)).all f && xs.size == ys.size)) ≠ Value.notImplemented ∧ Q (.bool (!((List.range (min xs.size ys.size)).all f && xs.size == ys.size))) s from ⟨(fun x => nomatch x), h⟩⟩) hu
theorem ne_dicts {K : Type} [DecidableEq K] {knd : KeyKind prog w K} {p q : Addr} {xs ys : List (K × Value)} {r : Bool} (hp : (p == sysModules) = false) (hq : (q == sysModules) = false)
    (dp : s.heap.DictOf knd p xs) (dq : s.heap.DictOf knd q ys) (hu : A.units < cLine) (hits : xs.length = ys.length → PySem.W.KeqHitsIn prog w A.in1 s ys xs r) (h : Q (.bool (!(xs.length == ys.length && r))) s) :
    wpAny (model prog w) A (compareOp .NotEq (.ref p) (.ref q)) Q E s := by
  refine PySem.wpAny_richCompare_same_room (op := .NotEq) dp.typeIs dq.typeIs PySem.F.slot_dict_ne (wpAny_call_entry PySem.F.slot_dict_ne dp.typeIs PySem.F.entry_dict_ne ?_ (PySem.F.args_dict_ne_2 _ _)) hu
  show wpAny _ _ (Builtin.Dict.dictSlotArgs "__ne__" ⟨[.ref p, .ref q], []⟩ >>= _) _ _ s
  unfold Builtin.Dict.dictSlotArgs
  refine wpAny_bind (wpAny_bind (wpAny_notOrdered_dict dp.typeIs ?_))
  show wpAny _ _ (pure (Value.ref p, Value.ref q)) _ _ s
  refine wpAny_pure (wpAny_bind (wpAny_isInstance (T := "dict") dq.typeIs PySem.F.sub_dict_dict ?_))
  simp only [Bool.not_true, Bool.false_eq_true, if_false]
  refine wpAny_bind (wpAny_pure (wpAny_bind (wpAny_pure (wpAny_bind (PySem.W.keq_samePairsIn hp hq dp dq hits (wpAny_pure ⟨_, rfl, (fun x => nomatch x), ?_⟩))))))
  simpa using h
end
end M3N
/-! M3F: == and != of data, in, not in, calls of built-ins. -/
namespace M3
open PySem L2
variable {ca : CAK}
section
variable {X : Cx} {pins : List (Addr × Obj)} {σ : L2.St} {H : Hp} {s : Shared} {g : Wld} {S : S3}
theorem fin_b {Q : VK} {k : Bool} (I : Inv X pins σ H s) (q : Q (.bl k) H) : EP X pins σ Q (.bool k) s := ⟨.bl k, H, I, rfl, q⟩
/-- == and != at the top -/
theorem eqF_top (hu : X.A.units + 64 < cLine) (I : Inv X pins σ H s) (sm : Sim ca g S H) {n : Nat} (hn : n < 60) {u v : V} {x y : D} {uv vv : Value} {b : Bool} (r : Rep ca g u x) (q : Rep ca g v y) (ru : RelV u uv) (qv : RelV v vv) (h : eqF S (n + 1) x y = some b) :
    (∀ Q : VK, Q (.bl b) H → wpAny (model X.prog X.w) X.A (compareOp .Eq uv vv) (EP X pins σ Q) X.xe s) ∧ (∀ Q : VK, Q (.bl (!b)) H → wpAny (model X.prog X.w) X.A (compareOp .NotEq uv vv) (EP X pins σ Q) X.xe s) := by
  unfold eqF at h
  split at h
  · rename_i hs
    obtain ⟨rfl, _, hsc, _⟩ := symEq_of r q hs
    cases h
    have e : decide (u = u) = true := decide_eq_true rfl
    exact ⟨fun Q hq => op_eq pins s σ H _ _ _ _ Q I ru qv ⟨hsc, by rw [e]; exact hq⟩, fun Q hq => op_ne pins s σ H _ _ _ _ Q I ru qv ⟨hsc, by rw [e]; exact hq⟩⟩
  split at h
  · rename_i a c e1 e2
    obtain ⟨rfl, f1⟩ := flatD_rep r e1
    obtain ⟨rfl, f2⟩ := flatD_rep q e2
    split at h
    · rename_i hs
      cases h
      exact ⟨fun Q hq => op_eq pins s σ H _ _ _ _ Q I ru qv ⟨hs, hq⟩, fun Q hq => op_ne pins s σ H _ _ _ _ Q I ru qv ⟨hs, hq⟩⟩
    · cases h
  · cases h
  · cases h
  · split at h
    · obtain ⟨c, hc, e⟩ := Option.map_eq_some_iff.mp h
      subst e
      obtain ⟨a, vs, rfl, ha, ra⟩ := sm.tup r
      obtain ⟨a', vs', rfl, ha', ra'⟩ := sm.tup q
      cases ru
      cases qv
      obtain ⟨its, rv, ht, _⟩ := I.tuple (SqT.of ha)
      obtain ⟨jts, rv', ht', _⟩ := I.tuple (SqT.of ha')
      obtain ⟨e, h1, h2⟩ := eqs_tree (eqF_tree I sm n) ra ra' rv rv' hc
      have e3 : ((List.range (min its.toArray.size jts.toArray.size)).all e && its.toArray.size == jts.toArray.size) = (c && vs.length == vs'.length) := by
        rw [List.size_toArray, List.size_toArray, h2, ← rv.length, ← rv'.length]
      rw [ra.len, ra'.len] at e3
      have tr : ∀ j (h1 : j < its.toArray.size) (h2 : j < jts.toArray.size), PySem.W.EqTree X.prog X.w s n its.toArray[j] jts.toArray[j] (e j) := fun j j1 j2 => by simpa using h1 j (by simpa using j1) (by simpa using j2)
      refine ⟨fun Q hq => PySem.W.eq_tuplesT ht ht' tr (by omega) (fin_b I (by rw [e3]; exact hq)), fun Q hq => ?_⟩
      exact M3N.ne_tuples ht ht' (by omega) (fun j j1 j2 => (tr j j1 j2).at X.A.in1 (by show X.A.units + 1 + n < cLine; omega)) (fin_b I (by rw [e3]; exact hq))
    · cases h
    · cases h
    · split at h
      · rename_i a c e1 e2
        obtain ⟨p, vs, rfl, hp, r1⟩ := sm.lst r (by unfold lstOf; rw [e1])
        obtain ⟨p', vs', rfl, hp', r2⟩ := sm.lst q (by unfold lstOf; rw [e2])
        cases ru
        cases qv
        obtain ⟨its, rv, pl, _⟩ := I.list (.inl hp)
        obtain ⟨jts, rv', pl', _⟩ := I.list (.inl hp')
        have l1 : its.length = a.length := by rw [← rv.length, r1.len]
        have l2 : jts.length = c.length := by rw [← rv'.length, r2.len]
        split at h
        · rename_i hl
          obtain ⟨e, h1, h2⟩ := eqs_tree (eqF_tree I sm n) r1 r2 rv rv' h
          rw [show min its.length jts.length = its.length by omega] at h2
          have tr : ∀ j (h1 : j < its.toArray.size) (h2 : j < jts.toArray.size), PySem.W.EqTree X.prog X.w s n its.toArray[j] jts.toArray[j] (e j) := fun j j1 j2 => by simpa using h1 j (by simpa using j1) (by simpa using j2)
          have hz : its.toArray.size = jts.toArray.size := by rw [List.size_toArray, List.size_toArray]; omega
          refine ⟨fun Q hq => PySem.W.eq_listsT pl.isList pl'.isList hz tr (by omega) (fin_b I (by rw [List.size_toArray, h2]; exact hq)), fun Q hq => ?_⟩
          exact M3N.ne_lists pl.isList pl'.isList hz (by omega) (fun j j1 j2 => (tr j j1 j2).at X.A.in1 (by show X.A.units + 1 + n < cLine; omega)) (fin_b I (by rw [List.size_toArray, h2]; exact hq))
        · rename_i hl
          cases h
          have hz : (its.toArray.size != jts.toArray.size) = true := by rw [List.size_toArray, List.size_toArray]; simp; omega
          exact ⟨fun Q hq => PySem.SeqAt.eq_list_lengthsAt pl.isList pl'.isList hz (by omega) (fin_b I hq), fun Q hq => PySem.SeqAt.RcNeAt.lists_lengths pl.isList pl'.isList hz (by omega) X.prog X.w X.xe _ (fin_b I hq)⟩
      · rename_i a c e1 e2
        obtain ⟨p, vs, rfl, hp, r1⟩ := sm.dic r (by unfold dicOf; rw [e1])
        obtain ⟨p', vs', rfl, hp', r2⟩ := sm.dic q (by unfold dicOf; rw [e2])
        cases ru
        cases qv
        obtain ⟨_, hs1, us, kv1, d1⟩ := dk_rd I.hok hp
        obtain ⟨_, hs2, us', kv2, d2⟩ := dk_rd I.hok hp'
        obtain ⟨k, hk, e⟩ := Option.map_eq_some_iff.mp h
        subst e
        obtain ⟨f, t, ef⟩ := eqk_tree (eqF_tree I sm n) r1 r2 kv1 kv2 (ndK I hp) hk
        have hits : PySem.W.KeqHitsIn X.prog X.w X.A.in1 s us' us k := by
          have z := PySem.W.KeqHitsIn.of (prog := X.prog) (w := X.w) (A := X.A.in1) (s := s) (kb := us') (e := f) us fun k v y hm hv => (t k v y hm hv).at X.A.in1 (by show X.A.units + 1 + n < cLine; omega)
          rw [ef] at z
          exact z
        have el : (us.length == us'.length) = (a.length == c.length) := by rw [← KV.length kv1, ← KV.length kv2, r1.len, r2.len]
        refine ⟨fun Q hq => PySem.W.keq_eqIn hs1 hs2 d1 d2 (by omega) (fun _ => hits) (fin_b I (by rw [el]; exact hq)), fun Q hq => M3N.ne_dicts hs1 hs2 d1 d2 (by omega) (fun _ => hits) (fin_b I (by rw [el]; exact hq))⟩
      · cases h
end
section
variable {X : Cx}
theorem op_eqO (hu : X.A.units + 64 < cLine) : OpR X (compareOp .Eq) (rdO2 ca eqO) := by
  intro pins s σ H x y v u Q I rx ry ⟨g, S, d, e, sm, rd, re, h⟩
  unfold eqO at h
  cases q : eqF S 10 d e with
  | none => rw [q] at h; exact h.elim
  | some b =>
    rw [q] at h
    exact (eqF_top hu I sm (n := 9) (by decide) rd re rx ry q).1 Q (h.now sm _ (.bl _))
theorem op_neO (hu : X.A.units + 64 < cLine) : OpR X (compareOp .NotEq) (rdO2 ca neO) := by
  intro pins s σ H x y v u Q I rx ry ⟨g, S, d, e, sm, rd, re, h⟩
  unfold neO at h
  cases q : eqF S 10 d e with
  | none => rw [q] at h; exact h.elim
  | some b =>
    rw [q] at h
    exact (eqF_top hu I sm (n := 9) (by decide) rd re rx ry q).2 Q (h.now sm _ (.bl _))
/-! ### in, not in -/
def keyOf : D → Option Key
  | .int i => some (.inl i)
  | .str s => some (.inr s)
  | _ => none
theorem keyOf_rep {g : Wld} {v : V} {d : D} {k : Key} (r : Rep ca g v d) (h : keyOf d = some k) : v = kV k := by
  cases r <;> cases h <;> rfl
/-- x in a list or tuple of flat things -/
def memD (x : V) : List D → Option Bool
  | [] => some false
  | d :: r => match flatD d, memD x r with
    | some y, some b => if scal y x = true then some (decide (y = x) || b) else none
    | _, _ => none
theorem memD_rep {g : Wld} {x : V} (fx : flatV x = true) : ∀ {vs : List V} {ds : List D} {b : Bool}, RepL ca g vs ds → memD x ds = some b → vs.all flatV = true ∧ inV x vs = b
  | _, _, b, .nil, h => by cases h; exact ⟨rfl, rfl⟩
  | _, _, b, .cons r t, h => by
    unfold memD at h
    split at h
    · rename_i y c e1 e2
      split at h
      · rename_i hs
        cases h
        obtain ⟨rfl, f1⟩ := flatD_rep r e1
        obtain ⟨h1, h2⟩ := memD_rep fx t e2
        refine ⟨by rw [List.all_cons, f1, h1]; rfl, ?_⟩
        unfold inV at h2 ⊢
        rw [List.any_cons, h2, eqV_scal f1 fx hs]
      · cases h
    · cases h
def seqOf (S : S3) : D → Option (List D)
  | .tup xs => some xs
  | .scr xs => some xs
  | d => lstOf S d
theorem Sim.sq {K : PySem.W.Frag} (hK : K = ca.K) {g : Wld} {S : S3} {H : Hp} (s : Sim ca g S H) {v : V} {d : D} (r : Rep ca g v d) {ds : List D} (h : seqOf S d = some ds) : ∃ a vs, v = .ref a ∧ (SqL K H a vs ∨ SqT K H a vs) ∧ RepL ca g vs ds := by
  unfold seqOf at h
  split at h
  · cases h
    obtain ⟨a, vs, e, ha, ra⟩ := s.tup r
    exact ⟨a, vs, e, .inr (SqT.of ha), ra⟩
  · cases h
    cases r with
    | scrK e r => exact ⟨_, _, rfl, .inl (.inr (hK ▸ e)), r⟩
    | scrF e r => exact ⟨_, _, rfl, .inl (.inl (s.frz _ _ e)), r⟩
  · obtain ⟨a, vs, e, ha, ra⟩ := s.lst r h
    exact ⟨a, vs, e, .inl (.inl ha), ra⟩
def inB (S : S3) (x y : D) : Option Bool := match dicOf S y with
  | some ks => (keyOf x).map fun k => (getA ks k).isSome
  | none => match seqOf S y, flatD x with
    | some ds, some v => memD v ds
    | _, _ => match x, y with
      | .str a, .str b => some (!(Builtin.Str.occurrences b a 0 b.length 1).isEmpty)
      | _, _ => none
def inO : O2 := fun x y S => (inB S x y).map fun b => (.bl b, S)
def notInO : O2 := fun x y S => (inB S x y).map fun b => (.bl (!b), S)
theorem inB_ok (hK : X.K = ca.K) (hu : X.A.units + 1 < cLine) {pins : List (Addr × Obj)} {s : Shared} {σ : L2.St} {H : Hp} {x y : V} {v u : Value} {g : Wld} {S : S3} {d e : D} {b : Bool} (I : Inv X pins σ H s) (rx : RelV x v) (ry : RelV y u) (sm : Sim ca g S H) (rd : Rep ca g x d) (re : Rep ca g y e) (h : inB S d e = some b) :
    (∀ Q : VK, Q (.bl b) H → wpAny (model X.prog X.w) X.A (compareOp .In v u) (EP X pins σ Q) X.xe s) ∧ (∀ Q : VK, Q (.bl (!b)) H → wpAny (model X.prog X.w) X.A (compareOp .NotIn v u) (EP X pins σ Q) X.xe s) := by
  unfold inB at h
  split at h
  · rename_i ks hk
    obtain ⟨k, ek, hb⟩ := Option.map_eq_some_iff.mp h
    subst hb
    obtain ⟨a, kvs, rfl, ha, rk⟩ := sm.dic re hk
    cases ry
    have ex := keyOf_rep rd ek
    have gd : DGet H a x (valV kvs k) := .inl ⟨kvs, k, ha, ex, rfl⟩
    have e2 := rk.val k
    exact ⟨fun Q hq => d_in hu I gd rx fun s' I' => fin_b I' (by rw [e2]; exact hq), fun Q hq => d_notIn hu I gd rx fun s' I' => fin_b I' (by rw [e2]; exact hq)⟩
  · split at h
    · rename_i ds w es ew
      obtain ⟨rfl, fw⟩ := flatD_rep rd ew
      obtain ⟨a, vs, rfl, ha, ra⟩ := sm.sq hK re es
      obtain ⟨h1, h2⟩ := memD_rep fw ra h
      exact ⟨fun Q hq => op_in_seq pins s σ H _ _ v u Q I rx ry ⟨a, vs, rfl, ha, fw, h1, by rw [if_neg Bool.false_ne_true, h2]; exact hq⟩, fun Q hq => op_notIn_seq pins s σ H _ _ v u Q I rx ry ⟨a, vs, rfl, ha, fw, h1, by rw [if_pos rfl, h2]; exact hq⟩⟩
    · split at h
      · cases h
        cases rd
        cases re
        exact ⟨fun Q hq => op_in_str pins s σ H _ _ v u Q I rx ry ⟨_, _, rfl, rfl, hq⟩, fun Q hq => op_notIn_str pins s σ H _ _ v u Q I rx ry ⟨_, _, rfl, rfl, by rw [Bool.not_not] at *; exact hq⟩⟩
      · cases h
theorem op_inO (hK : X.K = ca.K) (hu : X.A.units + 1 < cLine) : OpR X (compareOp .In) (rdO2 ca inO) := by
  intro pins s σ H x y v u Q I rx ry ⟨g, S, d, e, sm, rd, re, h⟩
  unfold inO at h
  cases q : inB S d e with
  | none => rw [q] at h; exact h.elim
  | some b =>
    rw [q] at h
    exact (inB_ok hK hu I rx ry sm rd re q).1 Q (h.now sm _ (.bl _))
theorem op_notInO (hK : X.K = ca.K) (hu : X.A.units + 1 < cLine) : OpR X (compareOp .NotIn) (rdO2 ca notInO) := by
  intro pins s σ H x y v u Q I rx ry ⟨g, S, d, e, sm, rd, re, h⟩
  unfold notInO at h
  cases q : inB S d e with
  | none => rw [q] at h; exact h.elim
  | some b =>
    rw [q] at h
    exact (inB_ok hK hu I rx ry sm rd re q).2 Q (h.now sm _ (.bl _))
end
end M3
/-! M3G: calls of built-ins, subscripts, slices. -/
namespace M3
open PySem L2
variable {ca : CAK}
section
variable {X : Cx}
theorem RepL.one {g : Wld} {vs : List V} {d : D} (r : RepL ca g vs [d]) : ∃ v, vs = [v] ∧ Rep ca g v d := by
  cases r with
  | cons r t => cases t; exact ⟨_, rfl, r⟩
theorem RepL.two {g : Wld} {vs : List V} {d e : D} (r : RepL ca g vs [d, e]) : ∃ v w, vs = [v, w] ∧ Rep ca g v d ∧ Rep ca g w e := by
  cases r with
  | cons r t => cases t with
    | cons q t => cases t; exact ⟨_, _, rfl, r, q⟩
/-! ### len -/
def lenB (S : S3) (d : D) : Option Nat := match d with
  | .str x => if x.length ≤ lim then some x.length else none
  | d => match dicOf S d with
    | some ks => some ks.length
    | none => (seqOf S d).map List.length
def lenF : OL := fun ds S => match ds with
  | [d] => (lenB S d).map fun n => (.int n, S)
  | _ => none
theorem call_lenF (hK : X.K = ca.K) : CallR X (.builtin "len") (rdOL ca lenF) := by
  intro pins s σ H xs us Q I r ⟨g, S, ds, sm, rl, h⟩
  unfold lenF at h
  split at h
  · rename_i d
    obtain ⟨v, rfl, rd⟩ := rl.one
    cases q : lenB S d with
    | none => rw [q] at h; exact h.elim
    | some n =>
      rw [q] at h
      have fin : Q (.int n) H := h.now sm _ (.int _)
      unfold lenB at q
      split at q
      · cases rd
        split at q
        · rename_i hz
          cases q
          exact call_len_str pins s σ H _ us Q I r ⟨_, rfl, Nat.le_trans hz lim_le, fin⟩
        · cases q
      · split at q
        · rename_i ks hk
          cases q
          obtain ⟨a, kvs, rfl, ha, rk⟩ := sm.dic rd hk
          obtain ⟨u, eu, ru⟩ := L2.Vals.one r
          subst eu
          cases ru
          exact d_len I ha fun t s' I' => ⟨.int ks.length, H, I', ⟨t, by rw [rk.len]⟩, fin⟩
        · obtain ⟨ys, hy, e⟩ := Option.map_eq_some_iff.mp q
          subst e
          obtain ⟨a, vs, rfl, ha, ra⟩ := sm.sq hK rd hy
          exact call_len_seq pins s σ H _ us Q I r ⟨a, vs, rfl, ha, by rw [ra.len]; exact fin⟩
  · exact h.elim
/-! ### list(..), dict(..) -/
def keyD : Key → D
  | .inl i => .int i
  | .inr s => .str s
theorem Rep.key {g : Wld} (k : Key) : Rep ca g (kV k) (keyD k) := by cases k <;> first | exact .int _ | exact .str _
theorem RepK.keysL {g : Wld} : ∀ {vs : List (Key × V)} {ds : List (Key × D)}, RepK ca g vs ds → RepL ca g (vs.map fun kv => kV kv.1) (ds.map fun kd => keyD kd.1)
  | _, _, .nil => .nil
  | _, _, .cons (k := k) _ t => .cons (Rep.key k) (RepK.keysL t)
theorem RepK.valsL {g : Wld} : ∀ {vs : List (Key × V)} {ds : List (Key × D)}, RepK ca g vs ds → RepL ca g (vs.map fun kv => kv.2) (ds.map fun kd => kd.2)
  | _, _, .nil => .nil
  | _, _, .cons r t => .cons r (RepK.valsL t)
/-- what is walked: a list, a tuple, a dict's keys -/
def itemsOf (S : S3) (d : D) : Option (List D) := match dicOf S d with
  | some ks => some (ks.map fun kd => keyD kd.1)
  | none => seqOf S d
def listF : OL := fun ds S => match ds with
  | [d] => (itemsOf S d).map fun xs => (.lst xs, S)
  | _ => none
def listC : OL := fun ds S => match ds with
  | [d] => (itemsOf S d).map fun xs => (.cell S.nx, S.new (.lst xs))
  | _ => none
theorem newLstC {g : Wld} {S : S3} {H : Hp} {ds : List D} {vs : List V} {Q : VK} (s : Sim ca g S H) (r : RepL ca g vs ds) (h : FinO ca g H (some (.cell S.nx, S.new (.lst ds))) (fun r g' H' => ∀ z, Rep ca g' z r → Q z H')) :
    ∀ p, H p = none → Q (.ref p) (upd H p (.lst vs)) := fun p hp => h (g.cell p) _ (s.extCell hp) (s.cell hp (.lst (r.mono (Sim.leCell g p)))) _ (.cell (by rw [← s.len]; exact get_snoc _ _))
theorem newDic {g : Wld} {S : S3} {H : Hp} {ds : List (Key × D)} {vs : List (Key × V)} {Q : VK} (s : Sim ca g S H) (r : RepK ca g vs ds) (h : FinO ca g H (some (.dic ds, S)) (fun r g' H' => ∀ z, Rep ca g' z r → Q z H')) :
    ∀ p, H p = none → Q (.ref p) (upd H p (.dK vs)) := fun p hp => h (g.tree p (.dK vs)) _ (s.extTree hp) (s.tree hp True.intro) _ (.dic upd_same (r.mono (s.leTree hp)))
theorem newDicC {g : Wld} {S : S3} {H : Hp} {ds : List (Key × D)} {vs : List (Key × V)} {Q : VK} (s : Sim ca g S H) (r : RepK ca g vs ds) (h : FinO ca g H (some (.cell S.nx, S.new (.dic ds))) (fun r g' H' => ∀ z, Rep ca g' z r → Q z H')) :
    ∀ p, H p = none → Q (.ref p) (upd H p (.dK vs)) := fun p hp => h (g.cell p) _ (s.extCell hp) (s.cell hp (.dic (r.mono (Sim.leCell g p)))) _ (.cell (by rw [← s.len]; exact get_snoc _ _))
/-- list(d) of a dict that may be locked -/
theorem call_list_dR (hc : X.calm = true) : CallR X (.type "list") (fun xs H Q => ∃ p kvs, xs = [.ref p] ∧ Rd H p (.dK kvs) ∧ ∀ q, H q = none → Q (.ref q) (upd H q (.lst (kvs.map fun kv => kV kv.1)))) := by
  intro pins s σ H xs us Q I r ⟨p, kvs, e, hk, q⟩
  subst e
  obtain ⟨u, eu, rx⟩ := L2.Vals.one r
  subst eu
  cases rx
  obtain ⟨z, lo, vs, rk, hd⟩ := dk_rd I.hok hk
  obtain ⟨ep, hat⟩ := hd.dictAt
  have lv : kvs.length = vs.length := KV.length rk
  refine PySem.W.kdl_call (PySem.W.kdl_dict (knd := mixKind X.prog X.w) (kvs := vs) (ep := ep) lo) (I.ok.hd hc) hat (by rw [← lv]; exact z) fun h' tk acc c keep hS hacc => ?_
  have hn := I.hok.fresh (Nat.le_refl _)
  refine ⟨.ref _, upd H _ (.lst (kvs.map fun kv => kV kv.1)), I.laid keep (Nat.le_refl _) ⟨by rw [List.length_map]; exact z, acc.toList, c, ?_, by rw [Array.toArray_toList]; exact hS⟩, rfl, q _ hn⟩
  have el : acc.toList.length = acc.size := by simp
  refine vals_of_at (by rw [List.length_map, el, hacc.1, lv]) fun j x w h1 h2 => ?_
  obtain ⟨k, y, ky, hi⟩ := hacc.2 j w (by rw [← Array.getElem?_toList]; exact h2)
  have e1 : (kvs.map (·.1))[j]? = some k := by rw [KV.keys rk, List.getElem?_map, ky]; rfl
  rw [List.getElem?_map] at e1 h1
  cases e3 : kvs[j]? with
  | none => rw [e3] at e1; cases e1
  | some p =>
    rw [e3] at e1 h1
    cases e1
    cases h1
    exact keyIs_rel hi
theorem call_listAny (hK : X.K = ca.K) (hc : X.calm = true) {pins : List (Addr × Obj)} {s : Shared} {σ : L2.St} {H : Hp} {v : V} {us : List Value} {Q : VK} {g : Wld} {S : S3} {d : D} {xs : List D} (I : Inv X pins σ H s) (r : L2.Vals [v] us) (sm : Sim ca g S H) (rd : Rep ca g v d) (h : itemsOf S d = some xs)
    (q : ∀ vs, RepL ca g vs xs → ∀ p, H p = none → Q (.ref p) (upd H p (.lst vs))) : wpAny (model X.prog X.w) X.A (call (.type "list") us) (EP X pins σ Q) X.xe s := by
  unfold itemsOf at h
  split at h
  · rename_i ks hk
    cases h
    obtain ⟨a, kvs, rfl, ha, rk⟩ := sm.dic rd hk
    exact call_list_dR hc pins s σ H _ us Q I r ⟨a, kvs, rfl, ha, q _ rk.keysL⟩
  · obtain ⟨a, vs, rfl, ha, ra⟩ := sm.sq hK rd h
    exact call_list_of pins s σ H _ us Q I r ⟨a, vs, rfl, ha, q _ ra⟩
theorem call_listF (hK : X.K = ca.K) (hc : X.calm = true) : CallR X (.type "list") (rdOL ca listF) := by
  intro pins s σ H xs us Q I r ⟨g, S, ds, sm, rl, h⟩
  unfold listF at h
  split at h
  · obtain ⟨v, rfl, rd⟩ := rl.one
    rename_i d
    cases q : itemsOf S d with
    | none => rw [q] at h; exact h.elim
    | some ys => rw [q] at h; exact call_listAny hK hc I r sm rd q fun vs rv => newLst sm rv h
  · exact h.elim
theorem call_listC (hK : X.K = ca.K) (hc : X.calm = true) : CallR X (.type "list") (rdOL ca listC) := by
  intro pins s σ H xs us Q I r ⟨g, S, ds, sm, rl, h⟩
  unfold listC at h
  split at h
  · obtain ⟨v, rfl, rd⟩ := rl.one
    rename_i d
    cases q : itemsOf S d with
    | none => rw [q] at h; exact h.elim
    | some ys => rw [q] at h; exact call_listAny hK hc I r sm rd q fun vs rv => newLstC sm rv h
  · exact h.elim
/-- the pairs of a list -/
def pairsOf (S : S3) : List D → Option (List (Key × D))
  | [] => some []
  | .tup [k, v] :: r => match keyOf k, pairsOf S r with
    | some k, some t => some ((k, v) :: t)
    | _, _ => none
  | _ :: _ => none
def mergeA (l : List (Key × D)) : List (Key × D) → List (Key × D)
  | [] => l
  | (k, v) :: r => mergeA (putA l k v) r
def dictB (S : S3) (d : D) : Option (List (Key × D)) := match dicOf S d with
  | some ks => some ks
  | none => match lstOf S d with
    | some xs => (pairsOf S xs).bind fun ps => if xs.length ≤ lim then some (mergeA [] ps) else none
    | none => none
def dictF : OL := fun ds S => match ds with
  | [d] => (dictB S d).map fun ks => (.dic ks, S)
  | _ => none
def dictC : OL := fun ds S => match ds with
  | [d] => (dictB S d).map fun ks => (.cell S.nx, S.new (.dic ks))
  | _ => none
theorem pairsOf_rep {g : Wld} {S : S3} {H : Hp} (sm : Sim ca g S H) {K : PySem.W.Frag} : ∀ {ds : List D} {vs : List V} {ps : List (Key × D)}, RepL ca g vs ds → pairsOf S ds = some ps →
    ∃ (as : List Addr) (kvs : List (Key × V)), vs = as.map V.ref ∧ Paired (fun p kv => SqT K H p [kV kv.1, kv.2]) as kvs ∧ RepK ca g kvs ps
  | [], _, ps, .nil, h => by
    unfold pairsOf at h
    cases h
    exact ⟨[], [], rfl, .nil, .nil⟩
  | d :: ds, _, ps, .cons r t, h => by
    unfold pairsOf at h
    split at h
    · rename_i e; cases e
    · rename_i e
      cases e
      split at h
      · rename_i k0 ps0 e1 e2
        cases h
        obtain ⟨as, kvs, h1, h2, h3⟩ := pairsOf_rep sm t e2
        obtain ⟨a, ws, rfl, ha, rw'⟩ := sm.tup r
        obtain ⟨x, y, rfl, rx, ry⟩ := rw'.two
        have ek := keyOf_rep rx e1
        subst ek
        exact ⟨a :: as, (_, y) :: kvs, by rw [h1]; rfl, .cons (SqT.of ha) h2, .cons ry h3⟩
      · cases h
    · cases h
theorem RepK.merge {g : Wld} : ∀ {ps : List (Key × D)} {kvs : List (Key × V)} {l : List (Key × D)} {m : List (Key × V)}, RepK ca g kvs ps → RepK ca g m l → (m.map (·.1)).Nodup → RepK ca g (mergeK m kvs) (mergeA l ps)
  | _, _, _, _, .nil, h, _ => h
  | _, _, l, m, .cons (k := k) (v := v) (d := d) (vs := vs) (ds := ds) r t, h, nd => by
    have nd' : ((putK m k v).map (·.1)).Nodup := by
      cases e : valV m k with
      | none => exact nd_putK _ nd e
      | some w =>
        unfold putK
        rw [valV_any, e, if_pos (show (some w).isSome = true from rfl), List.map_map]
        have : (fun x : Key × V => x.1) ∘ (fun kv : Key × V => if kv.1 = k then (kv.1, v) else kv) = fun x => x.1 := by
          funext p
          show (if p.1 = k then (p.1, v) else p).1 = p.1
          split <;> rfl
        rw [this]
        exact nd
    have z := RepK.merge t (h.put r k nd) nd'
    exact z
theorem call_dictAny (hc : X.calm = true) {pins : List (Addr × Obj)} {s : Shared} {σ : L2.St} {H : Hp} {v : V} {us : List Value} {Q : VK} {g : Wld} {S : S3} {d : D} {ks : List (Key × D)} (I : Inv X pins σ H s) (r : L2.Vals [v] us) (sm : Sim ca g S H) (rd : Rep ca g v d) (h : dictB S d = some ks)
    (q : ∀ vs, RepK ca g vs ks → ∀ p, H p = none → Q (.ref p) (upd H p (.dK vs))) : wpAny (model X.prog X.w) X.A (call (.type "dict") us) (EP X pins σ Q) X.xe s := by
  unfold dictB at h
  split at h
  · rename_i ks' hk
    cases h
    obtain ⟨a, kvs, rfl, ha, rk⟩ := sm.dic rd hk
    obtain ⟨u, eu, ru⟩ := L2.Vals.one r
    subst eu
    cases ru
    exact d_copyOf I ha fun p s' hp I' => ⟨.ref p, _, I', rfl, q _ rk p hp⟩
  · split at h
    · rename_i ys hy
      obtain ⟨ps, e1, e2⟩ := Option.bind_eq_some_iff.mp h
      split at e2
      · rename_i hz
        cases e2
        obtain ⟨a, vs, rfl, ha, ra⟩ := sm.lst rd hy
        obtain ⟨as, kvs, rfl, h2, h3⟩ := pairsOf_rep sm (K := X.K) ra e1
        exact call_dictP hc pins s σ H _ us Q I r ⟨a, as, kvs, rfl, .inl ha, h2, q _ (h3.merge .nil .nil)⟩
      · cases e2
    · cases h
theorem call_dictF (hc : X.calm = true) : CallR X (.type "dict") (rdOL ca dictF) := by
  intro pins s σ H xs us Q I r ⟨g, S, ds, sm, rl, h⟩
  unfold dictF at h
  split at h
  · obtain ⟨v, rfl, rd⟩ := rl.one
    rename_i d
    cases q : dictB S d with
    | none => rw [q] at h; exact h.elim
    | some ys => rw [q] at h; exact call_dictAny hc I r sm rd q fun vs rv => newDic sm rv h
  · exact h.elim
theorem call_dictC (hc : X.calm = true) : CallR X (.type "dict") (rdOL ca dictC) := by
  intro pins s σ H xs us Q I r ⟨g, S, ds, sm, rl, h⟩
  unfold dictC at h
  split at h
  · obtain ⟨v, rfl, rd⟩ := rl.one
    rename_i d
    cases q : dictB S d with
    | none => rw [q] at h; exact h.elim
    | some ys => rw [q] at h; exact call_dictAny hc I r sm rd q fun vs rv => newDicC sm rv h
  · exact h.elim
/-! ### all, any, max, min, abs -/
def boolsOf : List D → Option (List Bool)
  | [] => some []
  | .bl b :: r => (boolsOf r).map (b :: ·)
  | _ :: _ => none
theorem boolsOf_rep {g : Wld} : ∀ {ds : List D} {vs : List V} {bs : List Bool}, RepL ca g vs ds → boolsOf ds = some bs → vs = bs.map V.bl
  | [], _, bs, .nil, h => by unfold boolsOf at h; cases h; rfl
  | d :: ds, _, bs, .cons r t, h => by
    unfold boolsOf at h
    split at h
    · rename_i e; cases e
    · rename_i e
      cases e
      obtain ⟨cs, hc, e⟩ := Option.map_eq_some_iff.mp h
      subst e
      cases r
      rw [boolsOf_rep t hc]
      rfl
    · cases h
def allF : OL := fun ds S => match ds with
  | [d] => match lstOf S d with
    | some xs => (boolsOf xs).map fun bs => (.bl (bs.all id), S)
    | none => none
  | _ => none
def anyF : OL := fun ds S => match ds with
  | [d] => match lstOf S d with
    | some xs => (boolsOf xs).map fun bs => (.bl (bs.any id), S)
    | none => none
  | _ => none
theorem call_allF (hc : X.calm = true) : CallR X (.builtin "all") (rdOL ca allF) := by
  intro pins s σ H xs us Q I r ⟨g, S, ds, sm, rl, h⟩
  unfold allF at h
  split at h
  · obtain ⟨v, rfl, rd⟩ := rl.one
    split at h
    · rename_i ys hy
      cases q : boolsOf ys with
      | none => rw [q] at h; exact h.elim
      | some bs =>
        rw [q] at h
        obtain ⟨a, vs, rfl, ha, ra⟩ := sm.lst rd hy
        exact cr_all hc pins s σ H _ us Q I r ⟨a, bs, rfl, .inl (boolsOf_rep ra q ▸ ha), h.now sm _ (.bl _)⟩
    · exact h.elim
  · exact h.elim
theorem call_anyF (hc : X.calm = true) : CallR X (.builtin "any") (rdOL ca anyF) := by
  intro pins s σ H xs us Q I r ⟨g, S, ds, sm, rl, h⟩
  unfold anyF at h
  split at h
  · obtain ⟨v, rfl, rd⟩ := rl.one
    split at h
    · rename_i ys hy
      cases q : boolsOf ys with
      | none => rw [q] at h; exact h.elim
      | some bs =>
        rw [q] at h
        obtain ⟨a, vs, rfl, ha, ra⟩ := sm.lst rd hy
        exact cr_any hc pins s σ H _ us Q I r ⟨a, bs, rfl, .inl (boolsOf_rep ra q ▸ ha), h.now sm _ (.bl _)⟩
    · exact h.elim
  · exact h.elim
def max2F : OL := fun ds S => match ds with
  | [.int i, .int j] => some (.int (if j > i then j else i), S)
  | _ => none
def min2F : OL := fun ds S => match ds with
  | [.int i, .int j] => some (.int (if j < i then j else i), S)
  | _ => none
theorem call_max2F (hc : X.calm = true) : CallR X (.builtin "max") (rdOL ca max2F) := by
  intro pins s σ H xs us Q I r ⟨g, S, ds, sm, rl, h⟩
  unfold max2F at h
  split at h
  · obtain ⟨v, w, rfl, rv, rw'⟩ := rl.two
    cases rv; cases rw'
    exact call_max2 hc pins s σ H _ us Q I r ⟨_, _, rfl, h.now sm _ (.int _)⟩
  · exact h.elim
theorem call_min2F (hc : X.calm = true) : CallR X (.builtin "min") (rdOL ca min2F) := by
  intro pins s σ H xs us Q I r ⟨g, S, ds, sm, rl, h⟩
  unfold min2F at h
  split at h
  · obtain ⟨v, w, rfl, rv, rw'⟩ := rl.two
    cases rv; cases rw'
    exact call_min2 hc pins s σ H _ us Q I r ⟨_, _, rfl, h.now sm _ (.int _)⟩
  · exact h.elim
def absF : OL := fun ds S => match ds with
  | [.int i] => some (.int (if i < 0 then -i else i), S)
  | _ => none
/-! ### isinstance of a built-in class -/
def tyN (S : S3) (d : D) : Option String := match d with
  | .non => some "NoneType"
  | .bl _ => some "bool"
  | .int _ => some "int"
  | .sym _ => some "int"
  | .str _ => some "str"
  | .tup _ => some "tuple"
  | d => match obOf S d with
    | some (.lst _) => some "list"
    | some (.dic _) => some "dict"
    | _ => none
theorem tyN_rep {g : Wld} {S : S3} {H : Hp} (sm : Sim ca g S H) {K : PySem.W.Frag} {v : V} {d : D} {n : String} (r : Rep ca g v d) (h : tyN S d = some n) : TyX K H v (.type n) := by
  unfold tyN at h
  split at h
  · cases h; cases r; exact .base .non
  · cases h; cases r; exact .base (.bl _)
  · cases h; cases r; exact .base (.int _)
  · cases h; cases r; exact .base (.int _)
  · cases h; cases r; exact .base (.str _)
  · cases h
    obtain ⟨a, vs, rfl, ha, _⟩ := sm.tup r
    exact .base (.tup ha)
  · split at h
    · rename_i xs e
      cases h
      obtain ⟨a, vs, rfl, ha, _⟩ := sm.lst r (by unfold lstOf; rw [e])
      rcases ha with ha | ⟨o, ha⟩
      · exact .base (.lst ha)
      · exact .base (.frz ha)
    · rename_i ks e
      cases h
      obtain ⟨a, vs, rfl, ha, _⟩ := sm.dic r (by unfold dicOf; rw [e])
      rcases ha with ha | ⟨o, ha⟩
      · exact .base (.dK ha)
      · exact .fDict ha
    · cases h
def isiF (T : String) : O1 := fun d S => match tyN S d with
  | some n => (kitB n T).map fun b => (.bl b, S)
  | none => none
/-- isinstance(e, T) -/
theorem sd_isi {W : WX} {e : Expr} {m : CE} {T : String} {x : Str} {p p2 pos : Pos} (he : SD ca X W e m) (hg : Gl X "isinstance") (hm : X.mg "isinstance" = none) (hx : Gl X x) (hxm : X.mg x = none) (hv : bootBuiltins x = some (.type T)) (hn : x ≠ "__name__" := by decide) (hdb : (x == ("__debug__" : Str)) = false := by decide)
    (hi : bootBuiltins "isinstance" = some (.builtin "isinstance") := by decide +kernel) (s1 : starEach [e, .Name x p2] X.env = (false, eval e X.env) :: starEach [.Name x p2] X.env := by rfl) (s2 : starEach [.Name x p2] X.env = (false, eval (.Name x p2) X.env) :: starEach [] X.env := by rfl)
    (hpl : (backTo pos (starEach [.Name x p2] X.env)).any (·.1) = false := by rfl) (hw : ∀ whole, isTrue (.Call (.Name "isinstance" p) [e, .Name x p2] [] pos) X.env whole = (do let v ← whole; standAt (Expr.Call (.Name "isinstance" p) [e, .Name x p2] [] pos).pos; holding [v] (truthy v)) := by intro _; rfl) :
    SD ca X W (.Call (.Name "isinstance" p) [e, .Name x p2] [] pos) (b1 m (isiF T)) := by
  refine .of (PE_imp (pe_callB call_isi hg hm hi (pa_cons he.pe (pa_cons (pe_bltn (v := .ty T) hx hxm hv rfl hn hdb) pa_nil s2) s1) (by decide) (by decide) s1 hpl) fun σ H Q h => ?_) hw
  obtain ⟨v, S, g, s, e', h⟩ := h
  refine ⟨v, S, g, s, e', (Fin.seq h).imp (fun d g1 H1 x1 ⟨S1, s1, h1⟩ xv rv => ?_) fun _ _ _ _ z => z⟩
  have h2 := FinO.of h1
  unfold isiF at h2
  split at h2
  · rename_i n hn
    cases q : kitB n T with
    | none => rw [q] at h2; exact h2.elim
    | some b =>
      rw [q] at h2
      exact ⟨xv, .ty T, .type n, .type T, b, rfl, .ty T, tyN_rep s1 rv hn, kit_ty q, h2.now s1 _ (.bl _)⟩
  · exact h2.elim
end
end M3
/-! M3H: subscripts, slices, fields, methods of lists and dicts, displays. -/
namespace M3
open PySem L2
variable {ca : CAK}
section
variable {X : Cx} {W : WX} {e a b c : Expr} {m ma mb mc : CE} {pos : Pos}
/-! ### a[b] -/
def idxB (S : S3) (x i : D) : Option D := match dicOf S x with
  | some ks => (keyOf i).bind fun k => getA ks k
  | none => match seqOf S x, i with
    | some xs, .int j => atI xs j
    | _, _ => match x, i with
      | .str z, .int j => if z.length ≤ lim then (atI z.cps.toList j).map fun c => .str ⟨#[c]⟩ else none
      | _, _ => none
def idxO : O2 := fun x i S => (idxB S x i).map fun d => (d, S)
theorem atI_rep {g : Wld} {vs : List V} {ds : List D} {j : Int} {d : D} (r : RepL ca g vs ds) (h : atI ds j = some d) : ∃ v, atI vs j = some v ∧ Rep ca g v d := by
  unfold atI at h ⊢
  rw [r.len]
  obtain ⟨k, hk, hd⟩ := Option.bind_eq_some_iff.mp h
  obtain ⟨v, hv, rv⟩ := r.get hd
  exact ⟨v, by rw [hk]; exact hv, rv⟩
theorem ix_dictR (hu : X.A.units + 1 < cLine) : IxR X (fun x y H Q => ∃ a v, x = .ref a ∧ DGet H a y (some v) ∧ Q v H) := by
  intro value slice pins s σ H x y v u Q I rx ry ⟨a, w, ex, gd, q⟩ hs
  subst ex
  cases rx
  exact PyProof.Rows.tail_any (dict_typeIs I gd) PySem.F.slot_dict_getitem.lookup (d_getItem hu I gd ry fun w' s' I' r => ⟨w, H, I', r, q⟩) hs
theorem ix_idxO (hK : X.K = ca.K) (hu : X.A.units + 1 < cLine) : IxR X (rdO2 ca idxO) := by
  intro value slice pins s σ H x y v u Q I rx ry ⟨g, S, d, i, sm, rd, ri, h⟩ hs
  unfold idxO at h
  cases q : idxB S d i with
  | none => rw [q] at h; exact h.elim
  | some r =>
    rw [q] at h
    unfold idxB at q
    split at q
    · rename_i ks hk
      obtain ⟨k, ek, eg⟩ := Option.bind_eq_some_iff.mp q
      obtain ⟨a, kvs, rfl, ha, rk⟩ := sm.dic rd hk
      obtain ⟨w, ew, rw'⟩ := rk.get eg
      exact ix_dictR hu value slice pins s σ H _ _ v u Q I rx ry ⟨a, w, rfl, .inl ⟨kvs, k, ha, keyOf_rep ri ek, ew.symm⟩, h.now sm _ rw'⟩ hs
    · split at q
      · rename_i xs j hx
        obtain ⟨a, vs, rfl, ha, ra⟩ := sm.sq hK rd hx
        obtain ⟨w, ew, rw'⟩ := atI_rep ra q
        cases ri
        exact ix_seq value slice pins s σ H _ _ v u Q I rx ry (ha.elim (fun z => .inl ⟨a, vs, _, w, rfl, rfl, z, ew, h.now sm _ rw'⟩) fun z => .inr (.inl ⟨a, vs, _, w, rfl, rfl, z, ew, h.now sm _ rw'⟩)) hs
      · split at q
        · split at q
          · rename_i hz
            obtain ⟨c, hc, e⟩ := Option.map_eq_some_iff.mp q
            subst e
            cases rd
            cases ri
            exact ix_str value slice pins s σ H _ _ v u Q I rx ry ⟨_, _, c, rfl, rfl, Nat.le_trans hz lim_le, hc, h.now sm _ (.str _)⟩ hs
          · cases q
        · cases q
theorem sd_sub (hK : X.K = ca.K) (hu : X.A.units + 1 < cLine) (ha : SD ca X W a ma) (hb : SD ca X W b mb) (hs : PlainIx b := by exact fun _ _ => rfl) (hw : ∀ whole, isTrue (.Subscript a b pos) X.env whole = (do let v ← whole; standAt (Expr.Subscript a b pos).pos; holding [v] (truthy v)) := by intro _; rfl) : SD ca X W (.Subscript a b pos) (b2 ma mb idxO) :=
  .of (PE_imp (pe_ix (ix_idxO hK hu) ha.pe hb.pe hs) rd_b2) hw
/-! ### slices -/
def cutD (xs : List D) (lo hi : Option Int) : List D := (xs.drop (HT.sIx xs.length 0 lo)).take (HT.sIx xs.length xs.length hi - HT.sIx xs.length 0 lo)
theorem RepL.cut {g : Wld} {vs : List V} {ds : List D} (r : RepL ca g vs ds) (lo hi : Option Int) : RepL ca g (cutV vs lo hi) (cutD ds lo hi) := by
  unfold cutV cutD
  rw [r.len]
  exact (r.drop _).take _
def slB (x : D) (lo hi : Option Int) (S : S3) : Option (D × S3) := match x with
  | .tup xs => if HT.sIx xs.length 0 lo = 0 ∧ HT.sIx xs.length xs.length hi = xs.length then none else some (.tup (cutD xs lo hi), S)
  | .str z => if z.length ≤ lim then some (.str (cutS z lo hi), S) else none
  | .scr xs => some (.lst (cutD xs lo hi), S)
  | x => (lstOf S x).map fun xs => (.lst (cutD xs lo hi), S)
def oNo : Ev → S3 → R (Option Int) := fun _ S => .ok none S
def oSo (m : CE) : Ev → S3 → R (Option Int) := fun v S => (m v S).bind fun x S1 => match x with
  | .int i => .ok (some i) S1
  | _ => .bad
def slM (m : CE) (l h : Ev → S3 → R (Option Int)) : CE := fun v S => (m v S).bind fun x S1 => (l v S1).bind fun lo S2 => (h v S2).bind fun hi S3 => lift (slB x lo hi S3)
variable (ca)
def rdP (W : WX) (m : Ev → S3 → R (Option Int)) : TO := fun σ H Q => ∃ v S g, Sim ca g S H ∧ EnvR ca g v σ ∧
  Fin ca g H (m v S) (fun d g' H' => Q d H') (fun e g' H' => ∀ cls od, RepX ca g' H' cls od e → W cls od σ H')
variable {ca}
theorem PO_imp {X : Cx} {e : Option Expr} {t t' : TO} (h : PO X e t) (i : ∀ σ H Q, t' σ H Q → t σ H Q) : PO X e t' := ⟨fun pins s σ H Q I q => h.run pins s σ H Q I (i σ H Q q)⟩
theorem sp_no : PO X none (rdP ca W oNo) := PO_imp po_none fun σ H Q ⟨v, S, g, s, e, h⟩ => h g H (.refl _ _) s
theorem sp_so (h : SD ca X W a ma) : PO X (some a) (rdP ca W (oSo ma)) := PO_imp (po_some h.pe) <| by
  rintro σ H Q ⟨v, S, g, s, e, h⟩
  refine ⟨v, S, g, s, e, (Fin.seq h).imp (fun d g1 H1 x1 ⟨S1, s1, h1⟩ xv rv => ?_) fun _ _ _ _ z => z⟩
  split at h1
  · cases rv
    exact ⟨_, rfl, h1 g1 H1 (.refl _ _) s1⟩
  · exact h1.elim
theorem sl_slB (hK : X.K = ca.K) : SlR X (fun x lo hi H Q => ∃ g S d, Sim ca g S H ∧ Rep ca g x d ∧ FinO ca g H (slB d lo hi S) (fun r g' H' => ∀ z, Rep ca g' z r → Q z H')) := by
  intro pins s σ H x v vl vu lo hi sl Q I rx hs pl pu ⟨g, S, d, sm, rd, h⟩
  unfold slB at h
  split at h
  · split at h
    · exact h.elim
    · rename_i xs hw
      obtain ⟨a, vs, rfl, ha, ra⟩ := sm.tup rd
      exact sl_tup pins s σ H _ v vl vu lo hi sl Q I rx hs pl pu ⟨a, vs, rfl, SqT.of ha, by rw [ra.len]; exact hw, fun p hp => h (g.tree p (.tup (cutV vs lo hi))) _ (sm.extTree hp) (sm.tree hp True.intro) _ (.tup upd_same ((ra.cut lo hi).mono (sm.leTree hp)))⟩
  · split at h
    · rename_i hz
      cases rd
      exact sl_str pins s σ H _ v vl vu lo hi sl Q I rx hs pl pu ⟨_, rfl, Nat.le_trans hz lim_le, h.now sm _ (.str _)⟩
    · exact h.elim
  · cases rd with
    | scrK e r => exact sl_list pins s σ H _ v vl vu lo hi sl Q I rx hs pl pu ⟨_, _, rfl, .inr (hK ▸ e), newLst sm (r.cut lo hi) h⟩
    | scrF e r => exact sl_list pins s σ H _ v vl vu lo hi sl Q I rx hs pl pu ⟨_, _, rfl, .inl (sm.frz _ _ e), newLst sm (r.cut lo hi) h⟩
  · cases q : lstOf S d with
    | none => rw [q] at h; exact h.elim
    | some xs =>
      rw [q] at h
      obtain ⟨a, vs, rfl, ha, ra⟩ := sm.lst rd q
      exact sl_list pins s σ H _ v vl vu lo hi sl Q I rx hs pl pu ⟨a, vs, rfl, .inl ha, newLst sm (ra.cut lo hi) h⟩
theorem sd_slice {lo hi : Option Expr} {ml mh : Ev → S3 → R (Option Int)} {p2 : Pos} (hK : X.K = ca.K) (ha : SD ca X W a ma) (hl : PO X lo (rdP ca W ml)) (hh : PO X hi (rdP ca W mh)) (hw : ∀ whole, isTrue (.Subscript a (.Slice lo hi none p2) pos) X.env whole = (do let v ← whole; standAt (Expr.Subscript a (.Slice lo hi none p2) pos).pos; holding [v] (truthy v)) := by intro _; rfl) :
    SD ca X W (.Subscript a (.Slice lo hi none p2) pos) (slM ma ml mh) := .of (PE_imp (pe_slice (sl_slB (ca := ca) hK) ha.pe hl hh) <| by
  rintro σ H Q ⟨v, S, g, s, e, h⟩
  refine ⟨v, S, g, s, e, (Fin.seq h).imp (fun d g1 H1 x1 ⟨S1, s1, h1⟩ xv rv => ?_) fun _ _ _ _ z => z⟩
  refine ⟨v, S1, g1, s1, e.mono x1.le, (Fin.seq h1).imp (fun l g2 H2 x2 ⟨S2, s2, h2⟩ => ?_) fun _ _ _ _ z => z⟩
  refine ⟨v, S2, g2, s2, e.mono (x1.trans x2).le, (Fin.seq h2).imp (fun u g3 H3 x3 ⟨S3', s3, h3⟩ => ?_) fun _ _ _ _ z => z⟩
  exact ⟨g3, S3', d, s3, rv.mono (x2.trans x3).le, FinO.of h3⟩) hw
/-- xs[::-1] -/
def revF : O1 := fun d S => (lstOf S d).map fun xs => (.lst xs.reverse, S)
theorem sd_rev {k : Nat} {p1 p2 p3 : Pos} (ha : SD ca X W a ma) (hw : ∀ whole, isTrue (.Subscript a (.Slice none none (some (.UnaryOp .USub (.Constant (.int 1) k p1) p2)) p3) pos) X.env whole = (do let v ← whole; standAt (Expr.Subscript a (.Slice none none (some (.UnaryOp .USub (.Constant (.int 1) k p1) p2)) p3) pos).pos; holding [v] (truthy v)) := by intro _; rfl) :
    SD ca X W (.Subscript a (.Slice none none (some (.UnaryOp .USub (.Constant (.int 1) k p1) p2)) p3) pos) (b1 ma revF) := .of (PE_imp (pe_revL ha.pe) <| by
  rintro σ H Q ⟨v, S, g, s, e, h⟩
  refine ⟨v, S, g, s, e, (Fin.seq h).imp (fun d g1 H1 x1 ⟨S1, s1, h1⟩ xv rv => ?_) fun _ _ _ _ z => z⟩
  have h2 := FinO.of h1
  unfold revF at h2
  cases q : lstOf S1 d with
  | none => rw [q] at h2; exact h2.elim
  | some xs =>
    rw [q] at h2
    obtain ⟨a, vs, rfl, ha, ra⟩ := s1.lst rv q
    exact ⟨a, vs, rfl, .inl ha, newLst s1 ra.rev h2⟩) hw
/-! ### fields -/
def fldF (cs : List Nat) (f : Str) : O1 := fun d S => match insOf S d with
  | some (c, fs) => if cs.contains c then (getA fs f).map fun x => (x, S) else none
  | none => none
theorem sd_fld {cs : List Nat} {f : Str} (ha : SD ca X W a ma) (hC : ∀ c, cs.contains c = true → Cls X.K (ca c) ∧ NoAttr X.K (ca c) f) (hb : attributeBase a f X.env (eval a X.env) = eval a X.env := by rfl) (hw : ∀ whole, isTrue (.Attribute a f pos) X.env whole = (do let v ← whole; standAt (Expr.Attribute a f pos).pos; holding [v] (truthy v)) := by intro _; rfl) :
    SD ca X W (.Attribute a f pos) (b1 ma (fldF cs f)) := .of (PE_imp (pe_fld ha.pe hb) <| by
  rintro σ H Q ⟨v, S, g, s, e, h⟩
  refine ⟨v, S, g, s, e, (Fin.seq h).imp (fun d g1 H1 x1 ⟨S1, s1, h1⟩ xv rv => ?_) fun _ _ _ _ z => z⟩
  have h2 := FinO.of h1
  unfold fldF at h2
  split at h2
  · rename_i c fs hi
    split at h2
    · rename_i hc
      cases q : getA fs f with
      | none => rw [q] at h2; exact h2.elim
      | some x =>
        rw [q] at h2
        obtain ⟨p, dx, ws, rfl, hp, rf⟩ := s1.ins rv hi
        obtain ⟨w, ew, rw'⟩ := rf.get q
        exact ⟨p, ca c, dx, ws, w, rfl, hp, (hC c hc).1, (hC c hc).2, ew, h2.now s1 _ rw'⟩
    · exact h2.elim
  · exact h2.elim) hw
/-! ### tuples, lists, dicts written out -/
def tupM (ms : CA) : CE := fun v S => (ms v S).bind fun xs S1 => if xs.length ≤ lim then .ok (.tup xs) S1 else .bad
def lstM (ms : CA) : CE := fun v S => (ms v S).bind fun xs S1 => if xs.length ≤ lim then .ok (.lst xs) S1 else .bad
def lstMC (ms : CA) : CE := fun v S => (ms v S).bind fun xs S1 => if xs.length ≤ lim then .ok (.cell S1.nx) (S1.new (.lst xs)) else .bad
section
variable {es : List Expr} {ms : CA} {k : Nat}
theorem sd_tup (h : PA X es (rdA ca W ms)) (hw : ∀ whole, isTrue (.Tuple es k pos) X.env whole = (do let v ← whole; standAt (Expr.Tuple es k pos).pos; holding [v] (truthy v)) := by intro _; rfl) : SD ca X W (.Tuple es k pos) (tupM ms) := .of (PE_imp (pe_tup h) <| by
  rintro σ H Q ⟨v, S, g, s, e, h⟩
  refine ⟨v, S, g, s, e, (Fin.seq h).imp (fun d g1 H1 x1 ⟨S1, s1, h1⟩ xs rs => ?_) fun _ _ _ _ z => z⟩
  split at h1
  · rename_i hz
    exact ⟨by rw [rs.len]; exact Nat.le_trans hz lim_le, fun p hp => h1 (g1.tree p (.tup xs)) _ (s1.extTree hp) (s1.tree hp True.intro) _ (.tup upd_same (rs.mono (s1.leTree hp)))⟩
  · exact h1.elim) hw
theorem sd_lst (h : PA X es (rdA ca W ms)) (hw : ∀ whole, isTrue (.List es pos) X.env whole = (do let v ← whole; standAt (Expr.List es pos).pos; holding [v] (truthy v)) := by intro _; rfl) : SD ca X W (.List es pos) (lstM ms) := .of (PE_imp (pe_lst h) <| by
  rintro σ H Q ⟨v, S, g, s, e, h⟩
  refine ⟨v, S, g, s, e, (Fin.seq h).imp (fun d g1 H1 x1 ⟨S1, s1, h1⟩ xs rs => ?_) fun _ _ _ _ z => z⟩
  split at h1
  · rename_i hz
    exact ⟨by rw [rs.len]; exact Nat.le_trans hz lim_le, fun p hp => h1 (g1.tree p (.lst xs)) _ (s1.extTree hp) (s1.tree hp True.intro) _ (.lst upd_same (rs.mono (s1.leTree hp)))⟩
  · exact h1.elim) hw
theorem sd_lstC (h : PA X es (rdA ca W ms)) (hw : ∀ whole, isTrue (.List es pos) X.env whole = (do let v ← whole; standAt (Expr.List es pos).pos; holding [v] (truthy v)) := by intro _; rfl) : SD ca X W (.List es pos) (lstMC ms) := .of (PE_imp (pe_lst h) <| by
  rintro σ H Q ⟨v, S, g, s, e, h⟩
  refine ⟨v, S, g, s, e, (Fin.seq h).imp (fun d g1 H1 x1 ⟨S1, s1, h1⟩ xs rs => ?_) fun _ _ _ _ z => z⟩
  split at h1
  · rename_i hz
    exact ⟨by rw [rs.len]; exact Nat.le_trans hz lim_le, fun p hp => h1 (g1.cell p) _ (s1.extCell hp) (s1.cell hp (.lst (rs.mono (Sim.leCell g1 p)))) _ (.cell (by rw [← s1.len]; exact get_snoc _ _))⟩
  · exact h1.elim) hw
end
def dicM : CE := fun _ S => .ok (.dic []) S
def dicMC : CE := fun _ S => .ok (.cell S.nx) (S.new (.dic []))
theorem sd_dic (hw : ∀ whole, isTrue (.Dict [] [] pos) X.env whole = (do let v ← whole; standAt (Expr.Dict [] [] pos).pos; holding [v] (truthy v)) := by intro _; rfl) : SD ca X W (.Dict [] [] pos) dicM := .of (PE_imp pe_dnewK <| by
  rintro σ H Q ⟨v, S, g, s, e, h⟩
  exact fun p hp => h (g.tree p (.dK [])) _ (s.extTree hp) (s.tree hp True.intro) _ (.dic upd_same .nil)) hw
theorem sd_dicC (hw : ∀ whole, isTrue (.Dict [] [] pos) X.env whole = (do let v ← whole; standAt (Expr.Dict [] [] pos).pos; holding [v] (truthy v)) := by intro _; rfl) : SD ca X W (.Dict [] [] pos) dicMC := .of (PE_imp pe_dnewK <| by
  rintro σ H Q ⟨v, S, g, s, e, h⟩
  exact fun p hp => h (g.cell p) _ (s.extCell hp) (s.cell hp (.dic .nil)) _ (.cell (by rw [← s.len]; exact get_snoc _ _))) hw
/-! ### methods of dicts: get, pop -/
def cellOf : D → Option Nat
  | .cell n => some n
  | _ => none
theorem cellOf_eq {d : D} {n : Nat} (h : cellOf d = some n) : d = .cell n := by
  cases d <;> cases h <;> rfl
def get1M (ma mk : CE) : CE := fun v S => (ma v S).bind fun d S1 => match dicOf S1 d with
  | none => .bad
  | some _ => (mk v S1).bind fun k S2 => match dicOf S2 d, keyOf k with
    | some ks, some kk => .ok ((getA ks kk).getD .non) S2
    | _, _ => .bad
def get2M (ma mk mx : CE) : CE := fun v S => (ma v S).bind fun d S1 => match dicOf S1 d with
  | none => .bad
  | some _ => (mk v S1).bind fun k S2 => (mx v S2).bind fun x S3 => match dicOf S3 d, keyOf k with
    | some ks, some kk => .ok ((getA ks kk).getD x) S3
    | _, _ => .bad
def pop1M (ma mk : CE) : CE := fun v S => (ma v S).bind fun d S1 => match dicOf S1 d with
  | none => .bad
  | some _ => (mk v S1).bind fun k S2 => match cellOf d, keyOf k with
    | some n, some kk => match S2.cs n with
      | some (.dic ks) => match getA ks kk with
        | some x => if n ∈ S2.lk then .bad else .ok x (S2.set n (.dic (dropA ks kk)))
        | none => .bad
      | _ => .bad
    | _, _ => .bad
theorem RepK.getD {g : Wld} {vs : List (Key × V)} {ds : List (Key × D)} (r : RepK ca g vs ds) (k : Key) {x : V} {d : D} (rx : Rep ca g x d) : Rep ca g ((valV vs k).getD x) ((getA ds k).getD d) := by
  cases e : getA ds k with
  | none => rw [r.none e]; exact rx
  | some y =>
    obtain ⟨w, ew, rw'⟩ := r.get e
    rw [ew]
    exact rw'
section
variable {apos cpos : Pos}
theorem isD_of {H : Hp} {a : Addr} {kvs : List (Key × V)} (h : Rd H a (.dK kvs)) : IsD H a := .inl ⟨kvs, h⟩
theorem sd_get1 (hu : X.A.units + 1 < cLine) (ha : SD ca X W a ma) (hb : SD ca X W b mb) (hm : M1 X a "get" apos b cpos) (hw : ∀ whole, isTrue (.Call (.Attribute a "get" apos) [b] [] cpos) X.env whole = (do let v ← whole; standAt (Expr.Call (.Attribute a "get" apos) [b] [] cpos).pos; holding [v] (truthy v)) := by intro _; rfl) :
    SD ca X W (.Call (.Attribute a "get" apos) [b] [] cpos) (get1M ma mb) := .of (PE_imp (pe_dget1 hu ha.pe hb.pe hm) <| by
  rintro σ H Q ⟨v, S, g, s, e, h⟩
  refine ⟨v, S, g, s, e, (Fin.seq h).imp (fun d g1 H1 x1 ⟨S1, s1, h1⟩ xv rv => ?_) fun _ _ _ _ z => z⟩
  split at h1
  · exact h1.elim
  · rename_i ks0 hk0
    obtain ⟨p, kv0, rfl, hp0, _⟩ := s1.dic rv hk0
    refine ⟨p, rfl, isD_of hp0, v, S1, g1, s1, e.mono x1.le, (Fin.seq h1).imp (fun k g2 H2 x2 ⟨S2, s2, h2⟩ y ry => ?_) fun _ _ _ _ z => z⟩
    split at h2
    · rename_i ks kk hk ek
      obtain ⟨p', kvs, ep, hp, rk⟩ := s2.dic (rv.mono x2.le) hk
      cases ep
      exact ⟨valV kvs kk, .inl ⟨kvs, kk, hp, keyOf_rep ry ek, rfl⟩, h2 g2 H2 (.refl _ _) s2 _ (rk.getD kk .non)⟩
    · exact h2.elim) hw
theorem sd_get2 (hu : X.A.units + 1 < cLine) (ha : SD ca X W a ma) (hb : SD ca X W b mb) (hc : SD ca X W c mc) (hm : M2 X a "get" apos b c cpos) (hw : ∀ whole, isTrue (.Call (.Attribute a "get" apos) [b, c] [] cpos) X.env whole = (do let v ← whole; standAt (Expr.Call (.Attribute a "get" apos) [b, c] [] cpos).pos; holding [v] (truthy v)) := by intro _; rfl) :
    SD ca X W (.Call (.Attribute a "get" apos) [b, c] [] cpos) (get2M ma mb mc) := .of (PE_imp (pe_dget2 hu ha.pe hb.pe hc.pe hm) <| by
  rintro σ H Q ⟨v, S, g, s, e, h⟩
  refine ⟨v, S, g, s, e, (Fin.seq h).imp (fun d g1 H1 x1 ⟨S1, s1, h1⟩ xv rv => ?_) fun _ _ _ _ z => z⟩
  split at h1
  · exact h1.elim
  · rename_i ks0 hk0
    obtain ⟨p, kv0, rfl, hp0, _⟩ := s1.dic rv hk0
    refine ⟨p, rfl, isD_of hp0, v, S1, g1, s1, e.mono x1.le, (Fin.seq h1).imp (fun k g2 H2 x2 ⟨S2, s2, h2⟩ y ry => ?_) fun _ _ _ _ z => z⟩
    refine ⟨v, S2, g2, s2, e.mono (x1.trans x2).le, (Fin.seq h2).imp (fun k3 g3 H3 x3 ⟨S3', s3, h3⟩ y3 ry3 => ?_) fun _ _ _ _ z => z⟩
    split at h3
    · rename_i ks kk hk ek
      obtain ⟨p', kvs, ep, hp, rk⟩ := s3.dic (rv.mono (x2.trans x3).le) hk
      cases ep
      exact ⟨valV kvs kk, .inl ⟨kvs, kk, hp, keyOf_rep ry ek, rfl⟩, h3 g3 H3 (.refl _ _) s3 _ (rk.getD kk ry3)⟩
    · exact h3.elim) hw
theorem sd_pop1 (ha : SD ca X W a ma) (hb : SD ca X W b mb) (hm : M1 X a "pop" apos b cpos) (hw : ∀ whole, isTrue (.Call (.Attribute a "pop" apos) [b] [] cpos) X.env whole = (do let v ← whole; standAt (Expr.Call (.Attribute a "pop" apos) [b] [] cpos).pos; holding [v] (truthy v)) := by intro _; rfl) :
    SD ca X W (.Call (.Attribute a "pop" apos) [b] [] cpos) (pop1M ma mb) := .of (PE_imp (pe_dpop1 ha.pe hb.pe hm) <| by
  rintro σ H Q ⟨v, S, g, s, e, h⟩
  refine ⟨v, S, g, s, e, (Fin.seq h).imp (fun d g1 H1 x1 ⟨S1, s1, h1⟩ xv rv => ?_) fun _ _ _ _ z => z⟩
  split at h1
  · exact h1.elim
  · rename_i ks0 hk0
    obtain ⟨p, kv0, rfl, hp0, _⟩ := s1.dic rv hk0
    refine ⟨p, rfl, isD_of hp0, v, S1, g1, s1, e.mono x1.le, (Fin.seq h1).imp (fun k g2 H2 x2 ⟨S2, s2, h2⟩ y ry => ?_) fun _ _ _ _ z => z⟩
    split at h2
    · rename_i n kk en ek
      cases cellOf_eq en
      split at h2
      · rename_i ks hc
        split at h2
        · rename_i x hx
          split at h2
          · exact h2.elim
          · rename_i hl
            obtain ⟨p', u, ep, hph, ro, hp⟩ := s2.cellOb (rv.mono x2.le) hc hl
            cases ep
            cases ro with
            | dic rk =>
              obtain ⟨w, ew, rw'⟩ := rk.get hx
              refine ⟨_, kk, w, hp, keyOf_rep ry ek, ew, ?_⟩
              exact h2 g2 _ (Sim.extWrite (by rw [hp]; exact fun _ _ z => nomatch z) hph) (s2.write hph hc hl (.dic (rk.drop kk))) _ rw'
        · exact h2.elim
      · exact h2.elim
    · exact h2.elim) hw
/-! ### methods of lists that change them -/
def lmM (f : List D → List D → Option (D × List D)) (ma : CE) (ms : CA) : CE := fun v S => (ma v S).bind fun d S1 => match lstOf S1 d with
  | none => .bad
  | some _ => (ms v S1).bind fun xs S2 => match cellOf d with
    | some n => match S2.cs n with
      | some (.lst ys) => if n ∈ S2.lk then .bad else match f ys xs with
        | some (r, zs) => .ok r (S2.set n (.lst zs))
        | none => .bad
      | _ => .bad
    | none => .bad
/-- a method of lists by values -/
def rLm (f : List V → List V → V → List V → Prop) : V → List V → Hp → VK → Prop := fun x xs H Q => ∃ l ys r zs, x = .ref l ∧ H l = some (.lst ys) ∧ f ys xs r zs ∧ Q r (upd H l (.lst zs))
theorem rd_lm {f : List D → List D → Option (D × List D)} {fV : List V → List V → V → List V → Prop} {ms : CA}
    (hf : ∀ (g : Wld) ys xs r zs vs ws, RepL ca g vs ys → RepL ca g ws xs → f ys xs = some (r, zs) → ∃ rv zv, fV vs ws rv zv ∧ Rep ca g rv r ∧ RepL ca g zv zs) : ∀ σ H Q, rdE ca W (lmM f ma ms) σ H Q → tBM X.K "list" (rLm fV) (rdE ca W ma) (rdA ca W ms) σ H Q := by
  rintro σ H Q ⟨v, S, g, s, e, h⟩
  refine ⟨v, S, g, s, e, (Fin.seq h).imp (fun d g1 H1 x1 ⟨S1, s1, h1⟩ xv rv => ?_) fun _ _ _ _ z => z⟩
  split at h1
  · exact h1.elim
  · rename_i ys0 hy0
    obtain ⟨p, vs0, rfl, hp0, _⟩ := s1.lst rv hy0
    refine ⟨.inl ⟨rfl, vs0, .inl hp0⟩, v, S1, g1, s1, e.mono x1.le, (Fin.seq h1).imp (fun xs g2 H2 x2 ⟨S2, s2, h2⟩ ws rw' => ?_) fun _ _ _ _ z => z⟩
    split at h2
    · rename_i n en
      cases cellOf_eq en
      split at h2
      · rename_i ys hc
        split at h2
        · exact h2.elim
        rename_i hl
        split at h2
        · rename_i r zs hf2
          obtain ⟨p', u, ep, hph, ro, hp⟩ := s2.cellOb (rv.mono x2.le) hc hl
          cases ep
          cases ro with
          | lst rl =>
            obtain ⟨rV, zV, h3, h4, h5⟩ := hf g2 ys xs r zs _ ws rl rw' hf2
            exact ⟨p, _, rV, zV, rfl, hp, h3, h2 g2 _ (Sim.extWrite (by rw [hp]; exact fun _ _ z => nomatch z) hph) (s2.write hph hc hl (.lst h5)) _ h4⟩
        · exact h2.elim
      · exact h2.elim
    · exact h2.elim
def appF : List D → List D → Option (D × List D) := fun ys xs => match xs with
  | [x] => if ys.length < lim then some (.non, ys ++ [x]) else none
  | _ => none
theorem sd_append (ha : SD ca X W a ma) (hb : SD ca X W b mb) (hw : ∀ whole, isTrue (.Call (.Attribute a "append" apos) [b] [] cpos) X.env whole = (do let v ← whole; standAt (Expr.Call (.Attribute a "append" apos) [b] [] cpos).pos; holding [v] (truthy v)) := by intro _; rfl)
    (hbase : attributeBase a "append" X.env (eval a X.env) = eval a X.env := by rfl)
    (hfew : ((backTo cpos (starEach [b] X.env)).all (fun x => !x.1) && (backToKw cpos (keywordEach [] X.env)).all (fun x => x.1.isSome) && decide ([b].length + ([] : List Keyword).length + (if ([] : List Keyword).isEmpty then 0 else 1) < 30)) = true := by rfl)
    (hline : (apos.endLine == cpos.line) = true := by rfl) (hs : starEach [b] X.env = (false, eval b X.env) :: starEach [] X.env := by rfl) (hplain : (backTo cpos (starEach [] X.env)).any (·.1) = false := by rfl) :
    SD ca X W (.Call (.Attribute a "append" apos) [b] [] cpos) (lmM appF ma (aCons mb aNil)) :=
  .of (PE_imp (pe_bm (r := rLm fun vs ws r zs => ∃ y, ws = [y] ∧ vs.length < sizeLine ∧ r = .non ∧ zs = vs ++ [y]) PySem.F.plainAttrs_list PySem.F.slot_list_append PySem.F.type_list_append (fun pins s σ H x xs v us Q I rx rv ⟨l, ys, r, zs, e1, e2, ⟨y, e3, hz, e4, e5⟩, q⟩ => mt_append pins s σ H x xs v us Q I rx rv ⟨l, ys, y, e1, e3, e2, hz, by rw [← e4, ← e5]; exact q⟩) ha.pe (sda_cons hb sda_nil hs) hbase hfew hline hs hplain) (rd_lm fun g ys xs r zs vs ws r1 r2 h => by
    unfold appF at h
    split at h
    · split at h
      · rename_i hz
        cases h
        obtain ⟨y, rfl, ry⟩ := r2.one
        exact ⟨_, _, ⟨y, rfl, by rw [r1.len]; exact Nat.lt_of_lt_of_le hz lim_le, rfl, rfl⟩, .non, r1.app (.cons ry .nil)⟩
      · cases h
    · cases h)) hw
end
end
end M3
/-! M3I: targets, what is walked. -/
namespace M3
open PySem L2
variable {ca : CAK}
section
variable {X : Cx} {W : WX} {e a b c : Expr} {m ma mb mc : CE} {pos : Pos}
/-! ### targets -/
/-- a target: it raises nothing -/
abbrev GT := D → Ev → S3 → Option (Ev × S3)
abbrev GTs := List D → Ev → S3 → Option (Ev × S3)
def asgN (i : Nat) : GT := fun d v S => some (v.set i (some d), S)
def asgNil : GTs := fun ds v S => match ds with
  | [] => some (v, S)
  | _ => none
def asgCons (t : GT) (r : GTs) : GTs := fun ds v S => match ds with
  | d :: ds => match t d v S with
    | some (v', S') => r ds v' S'
    | none => none
  | [] => none
def asgT (n : Nat) (r : GTs) : GT := fun d v S => match d with
  | .tup ds => if ds.length = n then r ds v S else none
  | _ => none
/-- the slots off sl stay -/
def Off (sl : List Nat) (σ σ' : St) : Prop := σ'.length = σ.length ∧ ∀ j : Nat, j ∉ sl → σ'[j]? = σ[j]?
theorem Off.refl (sl : List Nat) (σ : St) : Off sl σ σ := ⟨rfl, fun _ _ => rfl⟩
theorem Off.mono {sl sl' : List Nat} {σ σ' : St} (h : Off sl σ σ') (i : ∀ j, j ∈ sl → j ∈ sl') : Off sl' σ σ' := ⟨h.1, fun j q => h.2 j fun z => q (i j z)⟩
theorem Off.trans {sl : List Nat} {σ σ1 σ2 : St} (h : Off sl σ σ1) (h' : Off sl σ1 σ2) : Off sl σ σ2 := ⟨h'.1.trans h.1, fun j q => (h'.2 j q).trans (h.2 j q)⟩
variable (ca)
def rdG (sl : List Nat) (f : GT) : TG := fun x σ H Q => ∃ v g S d, Sim ca g S H ∧ EnvR ca g v σ ∧ Rep ca g x d ∧ FinO ca g H (f d v S) (fun v' g' H' => ∀ σ', EnvR ca g' v' σ' → Off sl σ σ' → Q σ' H')
def rdGs (sl : List Nat) (f : GTs) : TGs := fun xs σ H Q => ∃ v g S ds, Sim ca g S H ∧ EnvR ca g v σ ∧ RepL ca g xs ds ∧ FinO ca g H (f ds v S) (fun v' g' H' => ∀ σ', EnvR ca g' v' σ' → Off sl σ σ' → Q σ' H')
variable {ca}
theorem FinO.mono {α : Type} {g g1 : Wld} {H H1 : Hp} {o : Option (α × S3)} {QO QO' : α → Wld → Hp → Prop} (h : FinO ca g H o QO) (x : Ext g H g1 H1) (i : ∀ a g' H', QO a g' H' → QO' a g' H') : FinO ca g1 H1 o QO' := by
  cases o with
  | some p => exact fun g' H' x' s => i _ _ _ (h g' H' (x.trans x') s)
  | none => exact h
theorem PG_imp {X : Cx} {e : Expr} {t t' : TG} (h : PG X e t) (i : ∀ x σ H Q, t' x σ H Q → t x σ H Q) : PG X e t' := ⟨fun pins s σ H v u Q I r q => h.run pins s σ H v u Q I r (i v σ H Q q)⟩
theorem PGs_imp {X : Cx} {e : List Expr} {t t' : TGs} (h : PGs X e t) (i : ∀ x σ H Q, t' x σ H Q → t x σ H Q) : PGs X e t' := ⟨fun pins s σ H v u Q I r q => h.run pins s σ H v u Q I r (i v σ H Q q)⟩
theorem sg_n {i : Nat} {x : Str} (hN : X.N.Nodup) (hi : X.N[i]? = some x := by rfl) (hx : Loc X.env.scope x := by first | exact Or.inl rfl | exact Or.inr rfl) (hf : X.fn x = true ∨ X.env.scope.names.lookup x = some .local := by first | exact .inl rfl | exact .inr rfl) : PG X (.Name x pos) (rdG ca [i] (asgN i)) :=
  PG_imp (pg_name hN hi hx hf) fun x σ H Q ⟨v, g, S, d, s, e, r, h⟩ =>
    h g H (.refl _ _) s _ (e.set i r) ⟨List.length_set .., fun j hj => List.getElem?_set_ne (fun z => hj (by rw [z]; exact List.mem_cons_self))⟩
theorem sgs_nil {sl : List Nat} : PGs X [] (rdGs ca sl asgNil) := PGs_imp pgs_nil fun x σ H Q ⟨v, g, S, ds, s, e, r, h⟩ => by
  cases r with
  | nil => exact ⟨rfl, h g H (.refl _ _) s _ e (.refl _ _)⟩
  | cons _ _ => exact h.elim
theorem sgs_cons {es : List Expr} {t : GT} {ts : GTs} {sl1 sl2 : List Nat} (h1 : PG X e (rdG ca sl1 t)) (h2 : PGs X es (rdGs ca sl2 ts)) (hs : (assignEach (e :: es) X.env).map (·.2) = assign e X.env :: (assignEach es X.env).map (·.2) := by rfl) : PGs X (e :: es) (rdGs ca (sl1 ++ sl2) (asgCons t ts)) :=
  PGs_imp (pgs_cons h1 h2 hs) fun x σ H Q ⟨v, g, S, ds, s, e, r, h⟩ => by
    cases r with
    | nil => exact h.elim
    | cons rd rt =>
      unfold asgCons at h
      refine ⟨_, _, rfl, v, g, S, _, s, e, rd, ?_⟩
      dsimp only at h
      split at h
      · rename_i v1 S1 h1
        rw [h1]
        intro g1 H1 x1 s1 σ1 e1 o1
        refine ⟨v1, g1, S1, _, s1, e1, rt.mono x1.le, h.mono x1 fun v2 g2 H2 q σ2 e2 o2 => q σ2 e2 ?_⟩
        exact (o1.mono fun j z => List.mem_append_left _ z).trans (o2.mono fun j z => List.mem_append_right _ z)
      · exact h.elim
theorem sg_t {es : List Expr} {k n : Nat} {ts : GTs} {sl : List Nat} (hc : X.calm = true) (h : PGs X es (rdGs ca sl ts)) (hn : (assignEach es X.env).length = n := by rfl) (hst : (assignEach es X.env).findIdx? (·.1) = none := by rfl) : PG X (.Tuple es k pos) (rdG ca sl (asgT n ts)) :=
  PG_imp (pg_tup hc h hn hst) fun x σ H Q ⟨v, g, S, d, s, e, r, h⟩ => by
    cases d with
    | tup ds =>
      unfold asgT at h
      dsimp only at h
      split at h
      · rename_i hl
        obtain ⟨a, vs, rfl, ha, ra⟩ := s.tup r
        exact ⟨a, vs, rfl, SqT.of ha, by rw [ra.len]; exact hl, v, g, S, ds, s, e, ra, h⟩
      · exact h.elim
    | _ => exact h.elim
/-- o[i] = ..: a dict's cell, a list's cell -/
def putM (o i d : D) (S : S3) : Option S3 := match cellOf o with
  | some n => match S.cs n with
    | some (.dic ks) => match keyOf i with
      | some k => if n ∈ S.lk then none else if ks.length < lim then some (S.set n (.dic (putA ks k d))) else none
      | none => none
    | some (.lst xs) => if n ∈ S.lk then none else match i with
      | .int j => match ixN xs.length j with
        | some m => some (S.set n (.lst (xs.set m d)))
        | none => none
      | _ => none
    | _ => none
  | none => none
def asgSub (mo mi : CE) : GT := fun d v S => match mo v S with
  | .ok o S1 => match mi v S1 with
    | .ok i S2 => (putM o i d S2).map fun S3 => (v, S3)
    | _ => none
  | _ => none
def rSet2 : V → V → V → Hp → (Hp → Prop) → Prop := fun o i v H Q => rSetL o i v H Q ∨ ∃ a H', o = .ref a ∧ DPut H a i v H' ∧ Q H'
theorem set2 (hu : X.A.units + 1 < cLine) : PSet X rSet2 := by
  intro pins s σ H o i v ov iv u Q I ro ri rv h
  rcases h with h | ⟨a, H', rfl, g, q⟩
  · exact set_list pins s σ H o i v ov iv u Q I ro ri rv h
  · obtain rfl : ov = Value.ref a := ro
    exact d_setItem hu I g ri rv fun s4 I4 => ⟨H', I4, q⟩
theorem putM_ok {g : Wld} {S S' : S3} {H : Hp} {o i d : D} {ov iv v : V} {Q : Hp → Prop} (s : Sim ca g S H) (ro : Rep ca g ov o) (ri : Rep ca g iv i) (rv : Rep ca g v d) (ndK : ∀ a kvs, H a = some (.dK kvs) → (kvs.map (·.1)).Nodup) (h : putM o i d S = some S')
    (q : ∀ H', Ext g H g H' → Sim ca g S' H' → Q H') : rSet2 ov iv v H Q := by
  unfold putM at h
  split at h
  · rename_i n en
    cases cellOf_eq en
    split at h
    · rename_i ks hc
      split at h
      · rename_i k hk
        split at h
        · cases h
        · rename_i hl
          split at h
          · rename_i hz
            cases h
            obtain ⟨a, u, rfl, hph, ro', hp⟩ := s.cellOb ro hc hl
            cases ro' with
            | dic rk =>
              have ek := keyOf_rep ri hk
              subst ek
              exact .inr ⟨a, _, rfl, DPut.k hp (by rw [rk.len]; exact Nat.lt_of_lt_of_le hz lim_le), q _ (Sim.extWrite (by rw [hp]; exact fun _ _ z => nomatch z) hph) (s.write hph hc hl (.dic (rk.put rv k (ndK a _ hp))))⟩
          · cases h
      · cases h
    · rename_i xs hc
      split at h
      · cases h
      rename_i hl
      split at h
      · rename_i j
        split at h
        · rename_i m hm
          cases h
          obtain ⟨a, u, rfl, hph, ro', hp⟩ := s.cellOb ro hc hl
          cases ro' with
          | lst rl =>
            cases ri
            exact .inl ⟨a, _, j, m, rfl, rfl, hp, by rw [rl.len]; exact hm, q _ (Sim.extWrite (by rw [hp]; exact fun _ _ z => nomatch z) hph) (s.write hph hc hl (.lst (RepL.set rv m rl)))⟩
        · cases h
      · cases h
    · cases h
  · cases h
/-- like PSet, the heap's dicts known to have unlike keys -/
theorem pg_subN {o i : Expr} {to ti : TE} {t : TSet} (ho : PE X o to) (hi : PE X i ti) (hs : PSet X t)
    (ha : ∀ v, assign (.Subscript o i pos) X.env v = (do
      let ov ← holding [v] (eval o X.env)
      let iv ← holding [v, ov] (eval i X.env)
      standAt pos
      holding [v, ov, iv] (setItem ov iv v)
      release [v, ov, iv] []) := by intro _; rfl) : PG X (.Subscript o i pos) (gSub to ti fun o i v H Q => (∀ a kvs, H a = some (.dK kvs) → (kvs.map (·.1)).Nodup) → t o i v H Q) :=
  pg_sub (t := fun o i v H Q => (∀ a kvs, H a = some (.dK kvs) → (kvs.map (·.1)).Nodup) → t o i v H Q) ho hi (fun pins s σ H o i v ov iv u Q I ro ri rv h => hs pins s σ H o i v ov iv u Q I ro ri rv (h fun a kvs e => ndK I (.inl e))) ha
theorem sg_sub {o i : Expr} {mo mi : CE} (hu : X.A.units + 1 < cLine) (ho : SD ca X W o mo) (hi : SD ca X W i mi) (ha : ∀ v, assign (.Subscript o i pos) X.env v = (do
      let ov ← holding [v] (eval o X.env)
      let iv ← holding [v, ov] (eval i X.env)
      standAt pos
      holding [v, ov, iv] (setItem ov iv v)
      release [v, ov, iv] []) := by intro _; rfl) : PG X (.Subscript o i pos) (rdG ca [] (asgSub mo mi)) := PG_imp (pg_subN ho.pe hi.pe (set2 hu) ha) fun x σ H Q ⟨v, g, S, d, s, e, r, h⟩ => by
  unfold asgSub at h
  split at h
  · rename_i o1 S1 e1
    split at h
    · rename_i i1 S2 e2
      cases hp : putM o1 i1 d S2 with
      | none => rw [hp] at h; exact h.elim
      | some S' =>
        rw [hp] at h
        refine ⟨v, S, g, s, e, ?_⟩
        rw [e1]
        refine fun g1 H1 x1 s1 xo ro => ⟨v, S1, g1, s1, e.mono x1.le, ?_⟩
        rw [e2]
        refine fun g2 H2 x2 s2 xi ri ndK => putM_ok s2 (ro.mono x2.le) ri (r.mono (x1.trans x2).le) ndK hp fun H' x3 s3 => ?_
        exact h g2 H' ((x1.trans x2).trans x3) s3 σ (e.mono (x1.trans x2).le) (.refl _ _)
    · exact h.elim
  · exact h.elim
/-! ### walks -/
variable (ca)
/-- what a walk needs of a later world -/
structure ExtW (g : Wld) (H : Hp) (g' : Wld) (H' : Hp) : Prop where
  le : g.Le g'
  fz : ∀ a o u, H a = some (.frz o u) → H' a = some (.frz o u)
theorem _root_.M3.Ext.w {g g' : Wld} {H H' : Hp} (x : Ext g H g' H') : ExtW g H g' H' := ⟨x.le, x.fz⟩
theorem ExtW.trans {g g1 g2 : Wld} {H H1 H2 : Hp} (x : ExtW g H g1 H1) (y : Ext g1 H1 g2 H2) : ExtW g H g2 H2 := ⟨x.le.trans y.le, fun a o u e => y.fz a o u (x.fz a o u e)⟩
theorem ExtW.refl (g : Wld) (H : Hp) : ExtW g H g H := ⟨.refl g, fun _ _ _ e => e⟩
theorem ExtW.upd {g g' : Wld} {H H' : Hp} (x : ExtW g H g' H') {p : Addr} {u : HO} (hp : H' p = some u) (hu : ∀ o w, u ≠ .frz o w) (o : HO) : ExtW g H g' (L2.upd H' p o) := ⟨x.le, fun a q w e => by
  have z := x.fz a q w e
  rw [upd_ne (fun y => by rw [y, hp] at z; exact hu _ _ (Option.some.inj z))]
  exact z⟩
structure WalkD (J : It) (g : Wld) (H : Hp) (ds : List D) : Prop where
  go : ∀ (i : Nat) g1 H1 S1, i < ds.length → ExtW g H g1 H1 → Sim ca g1 S1 H1 → J.go i H1
  yld : ∀ (i : Nat) g1 H1 S1 d x H2, ds[i]? = some d → ExtW g H g1 H1 → Sim ca g1 S1 H1 → J.yld i H1 x H2 → ∃ g2, Ext g1 H1 g2 H2 ∧ Sim ca g2 S1 H2 ∧ Rep ca g2 x d
  stop : ∀ g1 H1 S1, ExtW g H g1 H1 → Sim ca g1 S1 H1 → J.stop ds.length H1
variable {ca}
theorem walk_list {K : PySem.W.Frag} {g : Wld} {H : Hp} {a : Addr} {vs : List V} {ds : List D} (h : g.F a = some (.lst vs)) (r : RepL ca g vs ds) : WalkD ca (Itl K a) g H ds := by
  have at_ : ∀ {g1 : Wld} {H1 : Hp} {S1 : S3}, ExtW g H g1 H1 → Sim ca g1 S1 H1 → SqL K H1 a vs := fun x s => .inl (s.frz a _ (x.le.fr a _ h))
  refine ⟨fun i g1 H1 S1 hi x s => ?_, fun i g1 H1 S1 d v H2 hd x s ⟨e, y⟩ => ?_, fun g1 H1 S1 x s => ⟨vs, at_ x s, by rw [r.len]; exact Nat.le_refl _⟩⟩
  · obtain ⟨v, hv, _⟩ := r.get (List.getElem?_eq_getElem hi)
    exact ⟨vs, v, at_ x s, hv⟩
  · subst e
    obtain ⟨w, hw, rw'⟩ := r.get hd
    have := y vs (at_ x s)
    rw [hw] at this
    cases this
    exact ⟨g1, .refl _ _, s, rw'.mono x.le⟩
theorem walk_listK {K : PySem.W.Frag} {g : Wld} {H : Hp} {a : Addr} {vs : List V} {ds : List D} (h : KLst K a vs) (r : RepL ca g vs ds) : WalkD ca (Itl K a) g H ds := by
  refine ⟨fun i g1 H1 S1 hi x s => ?_, fun i g1 H1 S1 d v H2 hd x s ⟨e, y⟩ => ?_, fun g1 H1 S1 x s => ⟨vs, .inr h, by rw [r.len]; exact Nat.le_refl _⟩⟩
  · obtain ⟨v, hv, _⟩ := r.get (List.getElem?_eq_getElem hi)
    exact ⟨vs, v, .inr h, hv⟩
  · subst e
    obtain ⟨w, hw, rw'⟩ := r.get hd
    have := y vs (.inr h)
    rw [hw] at this
    cases this
    exact ⟨g1, .refl _ _, s, rw'.mono x.le⟩
theorem walk_tup {K : PySem.W.Frag} {g : Wld} {H : Hp} {a : Addr} {vs : List V} {ds : List D} (h : g.F a = some (.tup vs)) (r : RepL ca g vs ds) : WalkD ca (Itt K a) g H ds := by
  have at_ : ∀ {g1 : Wld} {H1 : Hp} {S1 : S3}, ExtW g H g1 H1 → Sim ca g1 S1 H1 → SqT K H1 a vs := fun x s => SqT.of (s.frz a _ (x.le.fr a _ h))
  refine ⟨fun i g1 H1 S1 hi x s => ?_, fun i g1 H1 S1 d v H2 hd x s ⟨e, y⟩ => ?_, fun g1 H1 S1 x s => ⟨vs, at_ x s, by rw [r.len]; exact Nat.le_refl _⟩⟩
  · obtain ⟨v, hv, _⟩ := r.get (List.getElem?_eq_getElem hi)
    exact ⟨vs, v, at_ x s, hv⟩
  · subst e
    obtain ⟨w, hw, rw'⟩ := r.get hd
    have := y vs (at_ x s)
    rw [hw] at this
    cases this
    exact ⟨g1, .refl _ _, s, rw'.mono x.le⟩
theorem RepK.at {g : Wld} : ∀ {vs : List (Key × V)} {ds : List (Key × D)} {i : Nat} {k : Key} {v : V}, RepK ca g vs ds → vs[i]? = some (k, v) → ∃ d, ds[i]? = some (k, d) ∧ Rep ca g v d
  | _, _, _, _, _, .nil, e => by simp at e
  | _, _, 0, _, _, .cons r _, e => by simp at e; obtain ⟨rfl, rfl⟩ := e; exact ⟨_, rfl, r⟩
  | _, _, i + 1, k, v, .cons _ t, e => by
    obtain ⟨u, h1, h2⟩ := RepK.at (i := i) t (by simpa using e)
    exact ⟨u, by simpa using h1, h2⟩
section
variable {g : Wld} {H : Hp} {a : Addr} {o : Obj} {vs : List (Key × V)} {ds : List (Key × D)}
theorem walk_keys (h : H a = some (.frz o (.dK vs))) (r : RepK ca g vs ds) : WalkD ca (Itk a o vs) g H (ds.map fun kd => keyD kd.1) := by
  refine ⟨fun i g1 H1 S1 hi x s => ⟨x.fz _ _ _ h, ?_⟩, fun i g1 H1 S1 d v H2 hd x s ⟨e, k, w, hk, ev⟩ => ?_, fun g1 H1 S1 x s => ⟨x.fz _ _ _ h, ?_⟩⟩
  · rw [r.len]; rw [List.length_map] at hi; exact hi
  · subst e ev
    obtain ⟨d', hd', _⟩ := r.at hk
    rw [List.getElem?_map, hd'] at hd
    cases hd
    exact ⟨g1, .refl _ _, s, Rep.key k⟩
  · rw [r.len, List.length_map]; exact Nat.le_refl _
theorem walk_vals (h : H a = some (.frz o (.dK vs))) (r : RepK ca g vs ds) : WalkD ca (Itd a o vs) g H (ds.map fun kd => kd.2) := by
  refine ⟨fun i g1 H1 S1 hi x s => ⟨x.fz _ _ _ h, ?_⟩, fun i g1 H1 S1 d v H2 hd x s ⟨e, k, hk⟩ => ?_, fun g1 H1 S1 x s => ⟨x.fz _ _ _ h, ?_⟩⟩
  · rw [r.len]; rw [List.length_map] at hi; exact hi
  · subst e
    obtain ⟨d', hd', rd⟩ := r.at hk
    rw [List.getElem?_map, hd'] at hd
    cases hd
    exact ⟨g1, .refl _ _, s, rd.mono x.le⟩
  · rw [r.len, List.length_map]; exact Nat.le_refl _
theorem walk_items (h : H a = some (.frz o (.dK vs))) (r : RepK ca g vs ds) : WalkD ca (Iti a o vs) g H (ds.map fun kd => .tup [keyD kd.1, kd.2]) := by
  refine ⟨fun i g1 H1 S1 hi x s => ⟨x.fz _ _ _ h, ?_⟩, fun i g1 H1 S1 d v H2 hd x s ⟨T, k, w, hk, ev, hT, eH⟩ => ?_, fun g1 H1 S1 x s => ⟨x.fz _ _ _ h, ?_⟩⟩
  · rw [r.len]; rw [List.length_map] at hi; exact hi
  · subst ev eH
    obtain ⟨d', hd', rd⟩ := r.at hk
    rw [List.getElem?_map, hd'] at hd
    cases hd
    have le := s.leTree (u := .tup [kV k, w]) hT
    exact ⟨_, s.extTree hT, s.tree hT True.intro, .tup upd_same (.cons (Rep.key k) (.cons (rd.mono (x.le.trans le)) .nil))⟩
  · rw [r.len, List.length_map]; exact Nat.le_refl _
end
def intsD (lo c : Int) (n : Nat) : List D := (List.range n).map fun i : Nat => .int (lo + (i : Int) * c)
theorem walk_rangeC {g : Wld} {H : Hp} {lo c : Int} {n : Nat} : WalkD ca (Itc lo c n) g H (intsD lo c n) := by
  have hl : (intsD lo c n).length = n := by unfold intsD; rw [List.length_map, List.length_range]
  refine ⟨fun i g1 H1 S1 hi x s => by rw [hl] at hi; exact hi, fun i g1 H1 S1 d v H2 hd x s ⟨e, ev⟩ => ?_, fun g1 H1 S1 x s => by rw [hl]; exact Nat.le_refl _⟩
  subst e ev
  unfold intsD at hd
  rw [List.getElem?_map] at hd
  obtain ⟨j, hj, e⟩ := Option.map_eq_some_iff.mp hd
  have : j = i := by
    obtain ⟨h1, h2⟩ := List.getElem?_eq_some_iff.mp hj
    rw [List.getElem_range] at h2
    exact h2.symm
  subst this
  rw [← e]
  exact ⟨g1, .refl _ _, s, .int _⟩
theorem walk_range {g : Wld} {H : Hp} {lo : Int} {n : Nat} : WalkD ca (Itr lo n) g H (intsD lo 1 n) := by
  have w := walk_rangeC (ca := ca) (g := g) (H := H) (lo := lo) (c := 1) (n := n)
  refine ⟨w.go, fun i g1 H1 S1 d v H2 hd x s ⟨e, ev⟩ => w.yld i g1 H1 S1 d v H2 hd x s ⟨e, ?_⟩, w.stop⟩
  rw [Int.mul_one]
  exact ev
def signsD (z : Str) : List D := z.cps.toList.map fun c => .str ⟨#[c]⟩
theorem walk_str {g : Wld} {H : Hp} {z : Str} : WalkD ca (Its z) g H (signsD z) := by
  have hl : (signsD z).length = z.cps.size := by unfold signsD; rw [List.length_map, Array.length_toList]
  refine ⟨fun i g1 H1 S1 hi x s => by rw [hl] at hi; exact hi, fun i g1 H1 S1 d v H2 hd x s ⟨e, c, hc, ev⟩ => ?_, fun g1 H1 S1 x s => by rw [hl]; exact Nat.le_refl _⟩
  subst e ev
  unfold signsD at hd
  rw [List.getElem?_map, Array.getElem?_toList, hc] at hd
  cases hd
  exact ⟨g1, .refl _ _, s, .str _⟩
def enumD : Nat → List D → List D
  | _, [] => []
  | n, d :: r => .tup [.int (n : Int), d] :: enumD (n + 1) r
theorem enumD_len : ∀ (n : Nat) (ds : List D), (enumD n ds).length = ds.length
  | _, [] => rfl
  | n, _ :: r => congrArg Nat.succ (enumD_len (n + 1) r)
theorem enumD_get : ∀ (n i : Nat) (ds : List D), (enumD n ds)[i]? = (ds[i]?).map fun d => .tup [.int ((n + i : Nat) : Int), d]
  | _, _, [] => by simp [enumD]
  | n, 0, d :: r => by simp [enumD]
  | n, i + 1, d :: r => by
    have := enumD_get (n + 1) i r
    simp only [enumD, List.getElem?_cons_succ]
    rw [this]
    have e : n + 1 + i = n + (i + 1) := by omega
    rw [e]
theorem walk_enum {K : PySem.W.Frag} {g : Wld} {H : Hp} {a : Addr} {vs : List V} {ds : List D} (h : g.F a = some (.lst vs)) (r : RepL ca g vs ds) : WalkD ca (Ite K a) g H (enumD 0 ds) := by
  have at_ : ∀ {g1 : Wld} {H1 : Hp} {S1 : S3}, ExtW g H g1 H1 → Sim ca g1 S1 H1 → SqL K H1 a vs := fun x s => .inl (s.frz a _ (x.le.fr a _ h))
  refine ⟨fun i g1 H1 S1 hi x s => ?_, fun i g1 H1 S1 d v H2 hd x s ⟨T, w, ev, hT, eH, y⟩ => ?_, fun g1 H1 S1 x s => ⟨vs, at_ x s, by rw [r.len, enumD_len]; exact Nat.le_refl _⟩⟩
  · rw [enumD_len] at hi
    obtain ⟨v, hv, _⟩ := r.get (List.getElem?_eq_getElem hi)
    exact ⟨vs, v, at_ x s, hv⟩
  · subst ev eH
    rw [enumD_get] at hd
    obtain ⟨d', hd', e⟩ := Option.map_eq_some_iff.mp hd
    subst e
    obtain ⟨w', hw', rw'⟩ := r.get hd'
    have := y vs (at_ x s)
    rw [hw'] at this
    cases this
    have le := s.leTree (u := .tup [.int (i : Nat), w]) hT
    rw [Nat.zero_add]
    exact ⟨_, s.extTree hT, s.tree hT True.intro, .tup upd_same (.cons (.int _) (.cons (rw'.mono (x.le.trans le)) .nil))⟩

/-! ### sources -/
def S3.lock (S : S3) (n : Nat) : S3 := { S with lk := n :: S.lk }
def S3.unlock (S : S3) (n : Nat) : S3 := { S with lk := S.lk.filter fun m => decide (m ≠ n) }
abbrev CS := Ev → S3 → R (List D × Option Nat)
/-- a dict's cell is locked while it is walked -/
def lkS (d : D) (S : S3) (ds : List D) : R (List D × Option Nat) := match cellOf d with
  | some n => if n ∈ S.lk then .ok (ds, none) S else .ok (ds, some n) (S.lock n)
  | none => .ok (ds, none) S
def anyK (d : D) (S1 : S3) : R (List D × Option Nat) := match dicOf S1 d with
  | some ks => lkS d S1 (ks.map fun kd => keyD kd.1)
  | none => match d with
    | .lst xs => .ok (xs, none) S1
    | .scr xs => .ok (xs, none) S1
    | .tup xs => .ok (xs, none) S1
    | .str z => .ok (signsD z, none) S1
    | .cell n => match S1.cs n with
      | some (.lst xs) => lkS (.cell n) S1 xs
      | _ => .bad
    | _ => .bad
def anyS (m : CE) : CS := fun v S => (m v S).bind anyK
def valS (m : CE) : CS := fun v S => (m v S).bind fun d S1 => match dicOf S1 d with
  | some ks => lkS d S1 (ks.map fun kd => kd.2)
  | none => .bad
def itmS (m : CE) : CS := fun v S => (m v S).bind fun d S1 => match dicOf S1 d with
  | some ks => lkS d S1 (ks.map fun kd => .tup [keyD kd.1, kd.2])
  | none => .bad
def enmS (m : CE) : CS := fun v S => (m v S).bind fun d S1 => match d with
  | .lst xs => .ok (enumD 0 xs, none) S1
  | .cell n => match S1.cs n with
    | some (.lst xs) => lkS (.cell n) S1 (enumD 0 xs)
    | _ => .bad
  | _ => .bad
def fit62 (i : Int) : Bool := decide (-(2 ^ 62) ≤ i ∧ i < 2 ^ 62)
def rngS (ms : CA) : CS := fun v S => (ms v S).bind fun xs S1 => match xs with
  | [.int j] => if fit62 j then .ok (intsD 0 1 j.toNat, none) S1 else .bad
  | [.int i, .int j] => if fit62 i && fit62 j then .ok (intsD i 1 (j - i).toNat, none) S1 else .bad
  | [.int i, .int j, .int c] => if decide (c ≠ 0) && decide (c.natAbs < 1073741824) && Builtin.Range.small i j c && decide (Builtin.Range.rangeSize i j c = ((Builtin.Range.rangeSize i j c).toNat : Int)) then .ok (intsD i c (Builtin.Range.rangeSize i j c).toNat, none) S1 else .bad
  | _ => .bad
variable (ca)
/-- how the walk's lock stands: the cell n at p, the dict u, unlocked ahead -/
def Lk (X : Cx) (g : Wld) (H : Hp) (g1 : Wld) (H1 : Hp) (S1 : S3) : Option Nat → Prop
  | none => Ext g H g1 H1
  | some n => ∃ p o u, g1.ph[n]? = some p ∧ H1 p = some (.frz o u) ∧ (∀ q w, u ≠ .frz q w) ∧ n ∈ S1.lk ∧ (∀ o' u', X.H_0 p ≠ some (.frz o' u')) ∧ Ext g H g1 (upd H1 p u)
def FinI (X : Cx) (W : WX) (g : Wld) (H : Hp) (σ : St) (Q : It → Hp → Prop) (r : R (List D × Option Nat)) : Prop := match r with
  | .ok (ds, un) S1 => ∀ g1 H1 J, Lk X g H g1 H1 S1 un → g.Le g1 → Sim ca g1 S1 H1 → WalkD ca J g1 H1 ds → Q J H1
  | .ex e S' => ∀ g' H', Ext g H g' H' → Sim ca g' S' H' → ∀ cls od, RepX ca g' H' cls od e → W cls od σ H'
  | .bad => False
def rdI (X : Cx) (W : WX) (m : CS) : TI := fun σ H Q => ∃ v S g, Sim ca g S H ∧ EnvR ca g v σ ∧ FinI ca X W g H σ Q (m v S)
variable {ca}
theorem FinI.seq {X : Cx} {W : WX} {α : Type} {g : Wld} {H : Hp} {σ : St} {Q : It → Hp → Prop} {r : R α} {f : α → S3 → R (List D × Option Nat)} (h : FinI ca X W g H σ Q (r.bind f)) :
    Fin ca g H r (fun a g' H' => ∃ S', Sim ca g' S' H' ∧ Ext g H g' H' ∧ FinI ca X W g H σ Q (f a S')) (fun e g' H' => ∀ cls od, RepX ca g' H' cls od e → W cls od σ H') := by
  cases r with
  | ok a S => exact fun g' H' x s => ⟨S, s, x, h⟩
  | ex e S => exact h
  | bad => exact h
theorem Sim.lockD {g : Wld} {S : S3} {H : Hp} (s : Sim ca g S H) {n : Nat} {p : Addr} {u : HO} {ob0 : Ob} {o : Obj} (h : g.ph[n]? = some p) (hc : S.cs n = some ob0) (hb0 : Lkb ob0) (hn : n ∉ S.lk) (hp : H p = some u) : Sim ca g (S.lock n) (upd H p (.frz o u)) where
  len := s.len
  inj := s.inj
  frz := fun b w e => (s.frz b w e).of_eq (upd_ne fun z => by
    obtain ⟨a', w', h1, h2, _⟩ := s.cel n _ hc
    rw [h] at h1; cases h1
    rw [z, h2] at e; cases e)
  cel := fun m ob e => by
    obtain ⟨a, w, h1, h2, h3, h4⟩ := s.cel m ob e
    refine ⟨a, w, h1, h2, h3, ?_⟩
    by_cases hm : m = n
    · subst hm
      rw [h] at h1; cases h1
      have q := h4.2 hn
      rw [hp] at q
      cases q
      exact ⟨fun _ => ⟨o, upd_same⟩, fun z => absurd List.mem_cons_self z⟩
    · have ha : a ≠ p := s.at_ h1 h hm
      refine ⟨fun z => ?_, fun z => ?_⟩
      · have z : m ∈ n :: S.lk := z
        rcases List.mem_cons.mp z with z | z
        · exact absurd z hm
        · obtain ⟨o', q⟩ := h4.1 z
          exact ⟨o', by rw [upd_ne ha]; exact q⟩
      · rw [upd_ne ha]
        exact h4.2 fun q => z (List.mem_cons_of_mem _ q)
  old := fun m b e => by
    by_cases hb : b = p
    · rw [hb, upd_same]; exact fun z => nomatch z
    · rw [upd_ne hb]; exact s.old m b e
  lkd := fun m hm => by
    have hm : m ∈ n :: S.lk := hm
    rcases List.mem_cons.mp hm with z | z
    · rw [z]; exact ⟨ob0, hc, hb0⟩
    · exact s.lkd m z
theorem Sim.unlockD {g : Wld} {S : S3} {H : Hp} (s : Sim ca g S H) {n : Nat} {p : Addr} {u : HO} {o : Obj} (h : g.ph[n]? = some p) (hn : n ∈ S.lk) (hp : H p = some (.frz o u)) : Sim ca g (S.unlock n) (upd H p u) where
  len := s.len
  inj := s.inj
  frz := fun b w e => (s.frz b w e).of_eq (upd_ne fun z => by
    obtain ⟨ds, hc, _⟩ := s.lkd n hn
    obtain ⟨a', w', h1, h2, _⟩ := s.cel n _ hc
    rw [h] at h1; cases h1
    rw [z, h2] at e; cases e)
  cel := fun m ob e => by
    obtain ⟨a, w, h1, h2, h3, h4⟩ := s.cel m ob e
    refine ⟨a, w, h1, h2, h3, ?_⟩
    by_cases hm : m = n
    · subst hm
      rw [h] at h1; cases h1
      obtain ⟨o', q⟩ := h4.1 hn
      rw [hp] at q
      cases q
      exact ⟨fun z => by
        have z : m ∈ S.lk.filter fun j => decide (j ≠ m) := z
        have := (List.mem_filter.mp z).2
        simp at this, fun _ => upd_same⟩
    · have ha : a ≠ p := s.at_ h1 h hm
      refine ⟨fun z => ?_, fun z => ?_⟩
      · have z : m ∈ S.lk.filter fun j => decide (j ≠ n) := z
        obtain ⟨o', q⟩ := h4.1 (List.mem_filter.mp z).1
        exact ⟨o', by rw [upd_ne ha]; exact q⟩
      · rw [upd_ne ha]
        exact h4.2 fun q => z (List.mem_filter.mpr ⟨q, by simpa using hm⟩)
  old := fun m b e => by
    by_cases hb : b = p
    · rw [hb, upd_same]; exact fun z => nomatch z
    · rw [upd_ne hb]; exact s.old m b e
  lkd := fun m hm => by
    have hm : m ∈ S.lk.filter fun j => decide (j ≠ n) := hm
    exact s.lkd m (List.mem_filter.mp hm).1
/-- behind a walk: unlocked again -/
theorem Lk.un {X : Cx} {g g1 g2 : Wld} {H H1 H2 : Hp} {S1 S2 : S3} {n : Nat} (l : Lk X g H g1 H1 S1 (some n)) (x : Ext g1 H1 g2 H2) (s : Sim ca g2 S2 H2) (hn : n ∈ S2.lk) :
    ∃ p o u, H2 p = some (.frz o u) ∧ (∀ o' u', X.H_0 p ≠ some (.frz o' u')) ∧ Sim ca g2 (S2.unlock n) (upd H2 p u) ∧ Ext g H g2 (upd H2 p u) := by
  obtain ⟨p, o, w, h1, h2, nf, h3, h4, h5⟩ := l
  have e2 := x.fz p o _ h2
  have ne : ∀ b q u, (upd H1 p w) b = some (.frz q u) → b ≠ p := fun b q u e z => by
    rw [z, upd_same] at e; exact nf _ _ (Option.some.inj e)
  refine ⟨p, o, w, e2, h4, s.unlockD (x.le.ph n p h1) hn e2, h5.trans ⟨x.le, fun b q u e => ?_, fun b e => ?_, fun m b e => ?_, fun b u e => ?_, fun b q e z => ?_⟩⟩
  · have hb := ne b q u e
    rw [upd_ne hb] at e ⊢
    exact x.fz b q u e
  · by_cases hb : b = p
    · rw [hb, upd_same]; exact fun z => nomatch z
    · rw [upd_ne hb] at e ⊢; exact x.old b e
  · rcases x.nph m b e with z | z
    · exact .inl z
    · refine .inr ?_
      rw [upd_ne (fun q : b = p => by rw [q, h2] at z; cases z)]
      exact z
  · rcases x.nfr b u e with z | z | z
    · exact .inl z
    · refine .inr (.inl ?_)
      rw [upd_ne (fun q : b = p => by rw [q, h2] at z; cases z)]
      exact z
    · exact .inr (.inr z)
  · have hb : b ≠ p := fun q => z.1 n (by rw [q]; exact h1)
    rw [upd_ne hb] at e ⊢
    exact x.rest b q e z
/-- an expression, and what it gives locked -/
theorem pe_lockA {td : TE} (he : PE X e td) : PE X e (fun σ H Q => td σ H fun x H1 => Q x H1 ∨ ∃ d u, H1 d = some u ∧ Mut (some u) ∧ ∀ o, (∀ o' u', X.H_0 d ≠ some (.frz o' u')) → Q x (upd H1 d (.frz o u))) := by
  refine ⟨fun pins s σ H Q I h => thn (he.run pins s σ H _ I h) fun v s1 ⟨x, H1, I1, r1, q1⟩ => ?_⟩
  rcases q1 with q1 | ⟨d, u, hd, mu, q1⟩
  · exact ⟨x, H1, I1, r1, q1⟩
  · obtain ⟨od, I2⟩ := I1.lock hd mu
    exact ⟨x, _, I2, r1, q1 od (I1.nofrz hd mu)⟩
/-- a dict, made ready for a walk -/
theorem dict_ready {g0 g : Wld} {S : S3} {H0 H : Hp} {v : V} {d : D} {ks : List (Key × D)} (x : Ext g0 H0 g H) (s : Sim ca g S H) (r : Rep ca g v d) (hk : dicOf S d = some ks) {Q : V → Hp → Prop} (L : List D)
    (h : ∀ p o vs H1 S1 un, lkS d S L = .ok (L, un) S1 → v = .ref p → H1 p = some (.frz o (.dK vs)) → RepK ca g vs ks → Lk X g0 H0 g H1 S1 un → Sim ca g S1 H1 → Q v H1) :
    Q v H ∨ ∃ p u, H p = some u ∧ Mut (some u) ∧ ∀ o, (∀ o' u', X.H_0 p ≠ some (.frz o' u')) → Q v (upd H p (.frz o u)) := by
  obtain ⟨p, u, rfl, ro, q⟩ := s.ob r (dicOf_eq hk)
  cases ro with
  | @dic vs _ rk =>
    rcases q with ⟨fz, fF⟩ | ⟨n, ed, hph, hc, hA⟩
    · have hno : cellOf d = none := by
        cases d with
        | cell n =>
          have z := dicOf_eq hk
          obtain ⟨a, u, h1, h2, _⟩ := s.cel n _ z
          cases r with
          | cell e => rw [e] at h1; cases h1; rw [h2] at fF; cases fF
        | _ => rfl
      have el : lkS d S L = .ok (L, none) S := by unfold lkS; rw [hno]
      rcases fz with fz | ⟨o, fz⟩
      · refine .inr ⟨p, _, fz, True.intro, fun o _ => ?_⟩
        have hne : ∀ b w, (H b = some w) → (∀ q z, w ≠ .frz q z) → True := fun _ _ _ _ => True.intro
        have x1 : Ext g H g (upd H p (.frz o (.dK vs))) := ⟨.refl g, fun b q w e => by rw [upd_ne (fun z => by rw [z, fz] at e; cases e)]; exact e, fun b e => by
          by_cases hb : b = p
          · rw [hb, upd_same]; exact fun z => nomatch z
          · rw [upd_ne hb]; exact e, fun _ _ e => .inl e, fun _ _ e => .inl e, fun b w e z => by
          rw [upd_ne (fun q : b = p => by rw [q] at z; rw [z.2] at fF; cases fF)]
          exact e⟩
        have s1 : Sim ca g S (upd H p (.frz o (.dK vs))) := by
          refine ⟨s.len, s.inj, fun b w e => ?_, fun m ob e => ?_, fun m b e => ?_, s.lkd⟩
          · by_cases hb : b = p
            · subst hb
              rw [fF] at e
              cases e
              exact .inr ⟨o, upd_same⟩
            · exact (s.frz b w e).of_eq (upd_ne hb)
          · obtain ⟨b, w, h1, h2, h3, h4⟩ := s.cel m ob e
            exact ⟨b, w, h1, h2, h3, h4.of_eq (upd_ne fun z => by rw [z, fF] at h2; cases h2)⟩
          · by_cases hb : b = p
            · rw [hb, upd_same]; exact fun z => nomatch z
            · rw [upd_ne hb]; exact s.old m b e
        exact h p o vs _ S none el rfl upd_same rk (x.trans x1) s1
      · exact .inl (h p o vs H S none el rfl fz rk x s)
    · subst ed
      by_cases hl : n ∈ S.lk
      · obtain ⟨o, hp⟩ := hA.1 hl
        exact .inl (h p o vs H S none (by unfold lkS cellOf; simp [hl]) rfl hp rk x s)
      · have hp := hA.2 hl
        refine .inr ⟨p, _, hp, True.intro, fun o nf => ?_⟩
        refine h p o vs _ (S.lock n) (some n) (by unfold lkS cellOf; simp [hl]) rfl upd_same rk ⟨p, o, .dK vs, hph, upd_same, fun _ _ z => (nomatch z), List.mem_cons_self, nf, ?_⟩ (s.lockD hph hc True.intro hl hp)
        have e : upd (upd H p (.frz o (.dK vs))) p (.dK vs) = H := by
          funext b
          by_cases hb : b = p
          · rw [hb, upd_same, hp]
          · rw [upd_ne hb, upd_ne hb]
        rw [e]
        exact x
/-- a list's cell, made ready for a walk -/
theorem cellL_ready {g0 g : Wld} {S : S3} {H0 H : Hp} {v : V} {n : Nat} {xs : List D} (x : Ext g0 H0 g H) (s : Sim ca g S H) (r : Rep ca g v (.cell n)) (hk : S.cs n = some (.lst xs)) {Q : V → Hp → Prop} (L : List D)
    (h : ∀ p o vs H1 S1 un, lkS (.cell n) S L = .ok (L, un) S1 → v = .ref p → H1 p = some (.frz o (.lst vs)) → RepL ca g vs xs → Lk X g0 H0 g H1 S1 un → Sim ca g S1 H1 → Q v H1) :
    Q v H ∨ ∃ p u, H p = some u ∧ Mut (some u) ∧ ∀ o, (∀ o' u', X.H_0 p ≠ some (.frz o' u')) → Q v (upd H p (.frz o u)) := by
  obtain ⟨p, u, h1, h2, ro, hA⟩ := s.cel n _ hk
  cases r with
  | cell e =>
    rw [h1] at e
    cases e
    cases ro with
    | @lst vs _ rk =>
      by_cases hl : n ∈ S.lk
      · obtain ⟨o, hp⟩ := hA.1 hl
        exact .inl (h p o vs H S none (by unfold lkS cellOf; simp [hl]) rfl hp rk x s)
      · have hp := hA.2 hl
        refine .inr ⟨p, _, hp, True.intro, fun o nf => ?_⟩
        refine h p o vs _ (S.lock n) (some n) (by unfold lkS cellOf; simp [hl]) rfl upd_same rk ⟨p, o, .lst vs, h1, upd_same, fun _ _ z => (nomatch z), List.mem_cons_self, nf, ?_⟩ (s.lockD h1 hk True.intro hl hp)
        have e : upd (upd H p (.frz o (.lst vs))) p (.lst vs) = H := by
          funext b
          by_cases hb : b = p
          · rw [hb, upd_same, hp]
          · rw [upd_ne hb, upd_ne hb]
        rw [e]
        exact x
theorem walk_listZ {K : PySem.W.Frag} {g : Wld} {H : Hp} {a : Addr} {o : Obj} {vs : List V} {ds : List D} (h : H a = some (.frz o (.lst vs))) (r : RepL ca g vs ds) : WalkD ca (Itl K a) g H ds := by
  have at_ : ∀ {g1 : Wld} {H1 : Hp} {S1 : S3}, ExtW g H g1 H1 → Sim ca g1 S1 H1 → SqL K H1 a vs := fun x s => .inl (.inr ⟨o, x.fz _ _ _ h⟩)
  refine ⟨fun i g1 H1 S1 hi x s => ?_, fun i g1 H1 S1 d v H2 hd x s ⟨e, y⟩ => ?_, fun g1 H1 S1 x s => ⟨vs, at_ x s, by rw [r.len]; exact Nat.le_refl _⟩⟩
  · obtain ⟨v, hv, _⟩ := r.get (List.getElem?_eq_getElem hi)
    exact ⟨vs, v, at_ x s, hv⟩
  · subst e
    obtain ⟨w, hw, rw'⟩ := r.get hd
    have := y vs (at_ x s)
    rw [hw] at this
    cases this
    exact ⟨g1, .refl _ _, s, rw'.mono x.le⟩
theorem walk_enumZ {K : PySem.W.Frag} {g : Wld} {H : Hp} {a : Addr} {o : Obj} {vs : List V} {ds : List D} (h : H a = some (.frz o (.lst vs))) (r : RepL ca g vs ds) : WalkD ca (Ite K a) g H (enumD 0 ds) := by
  have at_ : ∀ {g1 : Wld} {H1 : Hp} {S1 : S3}, ExtW g H g1 H1 → Sim ca g1 S1 H1 → SqL K H1 a vs := fun x s => .inl (.inr ⟨o, x.fz _ _ _ h⟩)
  refine ⟨fun i g1 H1 S1 hi x s => ?_, fun i g1 H1 S1 d v H2 hd x s ⟨T, w, ev, hT, eH, y⟩ => ?_, fun g1 H1 S1 x s => ⟨vs, at_ x s, by rw [r.len, enumD_len]; exact Nat.le_refl _⟩⟩
  · rw [enumD_len] at hi
    obtain ⟨v, hv, _⟩ := r.get (List.getElem?_eq_getElem hi)
    exact ⟨vs, v, at_ x s, hv⟩
  · subst ev eH
    rw [enumD_get] at hd
    obtain ⟨d', hd', e⟩ := Option.map_eq_some_iff.mp hd
    subst e
    obtain ⟨w', hw', rw'⟩ := r.get hd'
    have := y vs (at_ x s)
    rw [hw'] at this
    cases this
    have le := s.leTree (u := .tup [.int (i : Nat), w]) hT
    rw [Nat.zero_add]
    exact ⟨_, s.extTree hT, s.tree hT True.intro, .tup upd_same (.cons (.int _) (.cons (rw'.mono (x.le.trans le)) .nil))⟩
theorem lkS_ok {d : D} {S S1 : S3} {L ds : List D} {un : Option Nat} (h : lkS d S L = .ok (ds, un) S1) : ds = L := by
  unfold lkS at h
  split at h
  · split at h <;> (cases h; rfl)
  · cases h; rfl
theorem lkS_ne {d : D} {S S1 : S3} {L : List D} : (∀ e, lkS d S L ≠ .ex e S1) ∧ lkS d S L ≠ .bad := by
  unfold lkS
  refine ⟨fun e h => ?_, fun h => ?_⟩
  · split at h
    · split at h <;> cases h
    · cases h
  · split at h
    · split at h <;> cases h
    · cases h
end
end M3
/-! M3J: statements. -/
namespace M3
open PySem L2
variable {ca : CAK}
/-! ### what a statement's run is followed by -/
def R.bindS {α : Type} (r : R α) (v : Ev) (f : α → S3 → SR) : SR := match r with
  | .ok a s => f a s
  | .ex e s => .ex e v s
  | .bad => .bad
def SR.seq (r : SR) (f : SC) : SR := match r with
  | .nx v s => f v s
  | r => r
variable (ca)
def FinS (W : WX) (D : Ends) (g : Wld) (H : Hp) (r : SR) : Prop := match r with
  | .nx v S => ∀ g' H' σ', Ext g H g' H' → Sim ca g' S H' → EnvR ca g' v σ' → D.nx σ' H'
  | .bk v S => ∀ g' H' σ', Ext g H g' H' → Sim ca g' S H' → EnvR ca g' v σ' → D.bk σ' H'
  | .ct v S => ∀ g' H' σ', Ext g H g' H' → Sim ca g' S H' → EnvR ca g' v σ' → D.ct σ' H'
  | .rt d S => ∀ g' H', Ext g H g' H' → Sim ca g' S H' → ∀ x, Rep ca g' x d → D.rt x H'
  | .ex e v S => ∀ g' H' σ', Ext g H g' H' → Sim ca g' S H' → EnvR ca g' v σ' → ∀ cls od, RepX ca g' H' cls od e → W cls od σ' H'
  | .bad => False
def rdS (W : WX) (m : SC) : TS := fun D σ H => ∃ v S g, Sim ca g S H ∧ EnvR ca g v σ ∧ FinS ca W D g H (m v S)
variable {ca}
theorem FinS.mono {W : WX} {D : Ends} {g g1 : Wld} {H H1 : Hp} {r : SR} (h : FinS ca W D g H r) (x : Ext g H g1 H1) : FinS ca W D g1 H1 r := by
  cases r with
  | nx v S => exact fun g' H' σ' x' s e => h g' H' σ' (x.trans x') s e
  | bk v S => exact fun g' H' σ' x' s e => h g' H' σ' (x.trans x') s e
  | ct v S => exact fun g' H' σ' x' s e => h g' H' σ' (x.trans x') s e
  | rt d S => exact fun g' H' x' s => h g' H' (x.trans x') s
  | ex e v S => exact fun g' H' σ' x' s e' => h g' H' σ' (x.trans x') s e'
  | bad => exact h
theorem FinS.ofE {α : Type} {W : WX} {D : Ends} {g : Wld} {H : Hp} {r : R α} {v : Ev} {σ : St} {f : α → S3 → SR} (h : FinS ca W D g H (r.bindS v f)) (e : EnvR ca g v σ) :
    Fin ca g H r (fun a g' H' => ∃ S', Sim ca g' S' H' ∧ FinS ca W D g' H' (f a S')) (fun e g' H' => ∀ cls od, RepX ca g' H' cls od e → W cls od σ H') := by
  cases r with
  | ok a S => exact fun g' H' x s => ⟨S, s, FinS.mono (show FinS ca W D g H (f a S) from h) x⟩
  | ex e' S => exact fun g' H' x s => h g' H' σ x s (e.mono x.le)
  | bad => exact h
theorem FinS.seq {W : WX} {D : Ends} {g : Wld} {H : Hp} {r : SR} {f : SC} (h : FinS ca W D g H (r.seq f)) : FinS ca W { D with nx := rdS ca W f D } g H r := by
  cases r with
  | nx v S => exact fun g' H' σ' x s e => ⟨v, S, g', s, e, FinS.mono (show FinS ca W D g H (f v S) from h) x⟩
  | _ => exact h
theorem FinS.now {W : WX} {D : Ends} {g : Wld} {H : Hp} {v : Ev} {S : S3} {σ : St} (h : FinS ca W D g H (.nx v S)) (s : Sim ca g S H) (e : EnvR ca g v σ) : D.nx σ H := h g H σ (.refl _ _) s e
section
variable {X : Cx} {W : WX} {e a b c : Expr} {m ma mb mc : CE} {pos : Pos} {st : Stmt} {rest : List Stmt} {s1 s2 : SC}
/-! ### blocks -/
def nxM : SC := fun v S => .nx v S
def seqM (f r : SC) : SC := fun v S => (f v S).seq r
theorem ss_nil : PSs X [] (rdS ca W nxM) := PSs_imp pss_nil fun D σ H ⟨v, S, g, s, e, h⟩ => h.now s e
theorem ss_cons (h1 : PS X st (rdS ca W s1)) (h2 : PSs X rest (rdS ca W s2)) : PSs X (st :: rest) (rdS ca W (seqM s1 s2)) := PSs_imp (pss_cons h1 h2) fun D σ H ⟨v, S, g, s, e, h⟩ => ⟨v, S, g, s, e, h.seq⟩
theorem ss_one (h1 : PS X st (rdS ca W s1)) : PSs X [st] (rdS ca W s1) := pss_one h1
def bkM : SC := fun v S => .bk v S
def ctM : SC := fun v S => .ct v S
theorem ss_pass : PS X (.Pass pos) (rdS ca W nxM) := PS_imp ps_pass fun D σ H ⟨v, S, g, s, e, h⟩ => h.now s e
theorem ss_break : PS X (.Break pos) (rdS ca W bkM) := PS_imp ps_break fun D σ H ⟨v, S, g, s, e, h⟩ => h g H σ (.refl _ _) s e
theorem ss_continue : PS X (.Continue pos) (rdS ca W ctM) := PS_imp ps_continue fun D σ H ⟨v, S, g, s, e, h⟩ => h g H σ (.refl _ _) s e
theorem ss_doc {x j pos pos'} : PS X (.Expr (.Constant (.str x) j pos) pos') (rdS ca W nxM) := PS_imp ps_doc fun D σ H ⟨v, S, g, s, e, h⟩ => h.now s e
def exprM (m : CE) : SC := fun v S => (m v S).bindS v fun _ S1 => .nx v S1
theorem ss_expr (h : SD ca X W e m) (hs : swapsWith e none pos.line X.env = pure false := by rfl) : PS X (.Expr e pos) (rdS ca W (exprM m)) := PS_imp (ps_expr h.pe hs) fun D σ H ⟨v, S, g, s, e, h⟩ =>
  ⟨v, S, g, s, e, (FinS.ofE h e).imp (fun d g1 H1 x1 ⟨S1, s1, h1⟩ x r => h1.now s1 (e.mono x1.le)) fun _ _ _ _ z => z⟩
def retM (m : CE) : SC := fun v S => (m v S).bindS v fun d S1 => .rt d S1
theorem ss_ret (h : SD ca X W e m) : PS X (.Return (some e) pos) (rdS ca W (retM m)) := PS_imp (ps_ret h.pe) fun D σ H ⟨v, S, g, s, e, h⟩ =>
  ⟨v, S, g, s, e, (FinS.ofE h e).imp (fun d g1 H1 x1 ⟨S1, s1, h1⟩ x r => h1 g1 H1 (.refl _ _) s1 x r) fun _ _ _ _ z => z⟩
def retN : SC := fun _ S => .rt .non S
theorem ss_retN : PS X (.Return none pos) (rdS ca W retN) := PS_imp ps_retN fun D σ H ⟨v, S, g, s, e, h⟩ => h g H (.refl _ _) s _ .non
def ifS (mc : CE) (p q : SC) : SC := fun v S => (mc v S).bindS v fun x S1 => match x with
  | .bl true => p v S1
  | .bl false => q v S1
  | _ => .bad
theorem ss_if {p q : List Stmt} (hc : SD ca X W c mc) (hp : PSs X p (rdS ca W s1)) (hq : PSs X q (rdS ca W s2)) : PS X (.If c p q pos) (rdS ca W (ifS mc s1 s2)) := PS_imp (ps_if hc.pt hp hq) fun D σ H ⟨v, S, g, s, e, h⟩ => by
  refine ⟨v, S, g, s, e, (FinS.ofE h e).imp (fun d g1 H1 x1 ⟨S1, s1, h1⟩ x r => ?_) fun _ _ _ _ z => z⟩
  split at h1
  · cases r
    exact ⟨true, rfl, iteT ⟨v, S1, g1, s1, e.mono x1.le, h1⟩⟩
  · cases r
    exact ⟨false, rfl, iteF ⟨v, S1, g1, s1, e.mono x1.le, h1⟩⟩
  · exact h1.elim
/-! ### assignments -/
def asgS (m : CE) (t : GT) : SC := fun v S => (m v S).bindS v fun d S1 => match t d v S1 with
  | some (v', S') => .nx v' S'
  | none => .bad
theorem FinO.ofS {W : WX} {D : Ends} {g : Wld} {H : Hp} {o : Option (Ev × S3)} (h : FinS ca W D g H (match o with | some (v', S') => .nx v' S' | none => .bad)) {sl : List Nat} {σ : St} : FinO ca g H o (fun v' g' H' => ∀ σ', EnvR ca g' v' σ' → Off sl σ σ' → D.nx σ' H') := by
  cases o with
  | some p => exact fun g' H' x s σ' e _ => h g' H' σ' x s e
  | none => exact h
theorem ss_asg {tg : Expr} {t : GT} {sl : List Nat} (h : SD ca X W e m) (hg : PG X tg (rdG ca sl t)) (hs : swapsWithSole [tg] e pos.line X.env = pure false := by rfl) (hw : swappedStores [tg] e X.env = pure none := by rfl)
    (h1 : (assignEach [tg] X.env).map (·.2) = [assign tg X.env] := by rfl) : PS X (.Assign [tg] e pos) (rdS ca W (asgS m t)) := PS_imp (ps_asg h.pe hg hs hw h1) fun D σ H ⟨v, S, g, s, e, h⟩ =>
  ⟨v, S, g, s, e, (FinS.ofE h e).imp (fun d g1 H1 x1 ⟨S1, s1, h1⟩ x r => ⟨v, g1, S1, d, s1, e.mono x1.le, r, FinO.ofS h1⟩) fun _ _ _ _ z => z⟩
/-- a name gets a list comprehension on its line -/
theorem ss_asgN {i : Nat} {x : Str} {p' : Pos} (h : SD ca X W e m) (hN : X.N.Nodup) (hi : X.N[i]? = some x := by rfl) (hx : Loc X.env.scope x := by first | exact Or.inl rfl | exact Or.inr rfl) (hs : swapsWith e (some (.Name x p')) pos.line X.env = pure false := by rfl) (hf : X.fn x = true ∨ X.env.scope.names.lookup x = some .local := by first | exact .inl rfl | exact .inr rfl) :
    PS X (.Assign [.Name x p'] e pos) (rdS ca W (asgS m (asgN i))) := PS_imp (ps_set hN hi hx h.pe hs hf) fun D σ H ⟨v, S, g, s, e, h⟩ =>
  ⟨v, S, g, s, e, (FinS.ofE h e).imp (fun d g1 H1 x1 ⟨S1, s1, h1⟩ x r => h1.now s1 ((e.mono x1.le).set i r)) fun _ _ _ _ z => z⟩
/-- a, b = x, y: two plain names -/
def parM (i j : Nat) (ms : CA) : SC := fun v S => (ms v S).bindS v fun ds S1 => match ds with
  | [x, y] => .nx ((v.set i (some x)).set j (some y)) S1
  | _ => .bad
theorem ss_par {i j : Nat} {x y : Str} {ms : CA} {px py pt : Pos} {kt k2 pt2} (ha : PA X [a, b] (rdA ca W ms)) (hc : X.calm = true) (hN : X.N.Nodup) (hi : X.N[i]? = some x := by rfl) (hj : X.N[j]? = some y := by rfl) (hij : i ≠ j := by decide)
    (hx : X.env.scope.names.lookup x = some .local := by rfl) (hy : X.env.scope.names.lookup y = some .local := by rfl)
    (hw : swappedStores [.Tuple [.Name x px, .Name y py] kt pt] (.Tuple [a, b] k2 pt2) X.env = pure (some [x, y]) := by rfl)
    (hs : swapsWithSole [.Tuple [.Name x px, .Name y py] kt pt] (.Tuple [a, b] k2 pt2) pos.line X.env = pure false := by rfl) :
    PS X (.Assign [.Tuple [.Name x px, .Name y py] kt pt] (.Tuple [a, b] k2 pt2) pos) (rdS ca W (parM i j ms)) := PS_imp (ps_par hc hN hi hj hij hx hy ha hw hs) fun D σ H ⟨v, S, g, s, e, h⟩ => by
  refine ⟨v, S, g, s, e, (FinS.ofE h e).imp (fun d g1 H1 x1 ⟨S1, s1, h1⟩ xs r => ?_) fun _ _ _ _ z => z⟩
  split at h1
  · obtain ⟨p, q, rfl, rp, rq⟩ := r.two
    exact ⟨p, q, rfl, h1.now s1 (((e.mono x1.le).set i rp).set j rq)⟩
  · exact h1.elim
/-- t1 = t2 = e -/
def asg2S (m : CE) (t1 t2 : GT) : SC := fun v S => (m v S).bindS v fun d S1 => match t1 d v S1 with
  | some (v1, S2) => match t2 d v1 S2 with
    | some (v2, S3) => .nx v2 S3
    | none => .bad
  | none => .bad
theorem ss_asg2 {g1 g2 : Expr} {t1 t2 : GT} {sl1 sl2 : List Nat} (h : SD ca X W e m) (hg1 : PG X g1 (rdG ca sl1 t1)) (hg2 : PG X g2 (rdG ca sl2 t2)) (ha : (assignEach [g1, g2] X.env).map (·.2) = [assign g1 X.env, assign g2 X.env] := by rfl) (hw : swappedStores [g1, g2] e X.env = pure none := by rfl) :
    PS X (.Assign [g1, g2] e pos) (rdS ca W (asg2S m t1 t2)) := PS_imp (ps_asg2 h.pe hg1 hg2 ha hw) fun D σ H ⟨v, S, g, s, e, h⟩ => by
  refine ⟨v, S, g, s, e, (FinS.ofE h e).imp (fun d g1 H1 x1 ⟨S1, s1, h1⟩ x r => ⟨v, g1, S1, d, s1, e.mono x1.le, r, ?_⟩) fun _ _ _ _ z => z⟩
  split at h1
  · rename_i v1 S2 e1
    rw [e1]
    intro g2 H2 x2 s2 σ2 e2 _
    exact ⟨v1, g2, S2, d, s2, e2, r.mono x2.le, FinO.ofS (FinS.mono h1 x2)⟩
  · exact h1.elim
/-! ### fields -/
def setF (cs : List Nat) (f : Str) (o y : D) (S : S3) : Option S3 := match cellOf o with
  | some n => match S.cs n with
    | some (.ins c fs) => if cs.contains c && decide (fs.length < 1000) then some (S.set n (.ins c (putA fs f y))) else none
    | _ => none
  | none => none
def fldS (cs : List Nat) (f : Str) (mo mv : CE) : SC := fun v S => (mv v S).bindS v fun y S1 => (mo v S1).bindS v fun o S2 => match setF cs f o y S2 with
  | some S3 => .nx v S3
  | none => .bad
theorem setF_ok {g : Wld} {S S' : S3} {H : Hp} {cs : List Nat} {f : Str} {o y : D} {ov yv : V} (s : Sim ca g S H) (ro : Rep ca g ov o) (ry : Rep ca g yv y) (h : setF cs f o y S = some S') :
    ∃ a C dx fs, ov = .ref a ∧ H a = some (.ins C dx fs) ∧ (∃ c, cs.contains c = true ∧ C = ca c) ∧ fs.length < 1000 ∧ ∀ dx', Ext g H g (upd H a (.ins C dx' (putF f yv fs))) ∧ Sim ca g S' (upd H a (.ins C dx' (putF f yv fs))) := by
  unfold setF at h
  split at h
  · rename_i n en
    cases cellOf_eq en
    split at h
    · rename_i c fs hc
      split at h
      · rename_i hz
        cases h
        rw [Bool.and_eq_true] at hz
        have hl : n ∉ S.lk := s.nolk hc (fun z => z)
        obtain ⟨a, u, rfl, hph, ro', hp⟩ := s.cellOb ro hc hl
        cases ro' with
        | ins rf =>
          refine ⟨a, _, _, _, rfl, hp, ⟨c, hz.1, rfl⟩, by rw [rf.len]; exact of_decide_eq_true hz.2, fun dx' => ⟨Sim.extWrite (by rw [hp]; exact fun _ _ z => nomatch z) hph, s.write hph hc hl (.ins (RepF.put ry f rf))⟩⟩
      · cases h
    · cases h
  · cases h
theorem ss_fld {o value : Expr} {f : Str} {p' : Pos} {cs : List Nat} {mo mv : CE} (ho : SD ca X W o mo) (hv : SD ca X W value mv) (hC : ∀ c, cs.contains c = true → Cls X.K (ca c) ∧ NoAttr X.K (ca c) f) (hs : swapsWith value (some (.Attribute o f p')) pos.line X.env = pure false := by rfl) :
    PS X (.Assign [.Attribute o f p'] value pos) (rdS ca W (fldS cs f mo mv)) := PS_imp (ps_fld ho.pe hv.pe hs) fun D σ H ⟨v, S, g, s, e, h⟩ => by
  refine ⟨v, S, g, s, e, (FinS.ofE h e).imp (fun y g1 H1 x1 ⟨S1, s1, h1⟩ yv ry => ?_) fun _ _ _ _ z => z⟩
  refine ⟨v, S1, g1, s1, e.mono x1.le, (FinS.ofE h1 (e.mono x1.le)).imp (fun o g2 H2 x2 ⟨S2, s2, h2⟩ ov ro => ?_) fun _ _ _ _ z => z⟩
  split at h2
  · rename_i S3 e3
    obtain ⟨a, C, dx, fs, e1, e2, ⟨c, hc, rfl⟩, e6, q⟩ := setF_ok s2 ro (ry.mono x2.le) e3
    exact ⟨a, _, dx, fs, e1, e2, (hC c hc).1, (hC c hc).2, e6, h2 g2 _ σ (q dx).1 (q dx).2 (e.mono (x1.trans x2).le)⟩
  · exact h2.elim
/-- o.f op= value -/
def fldAug (cs : List Nat) (f : Str) (op : O2) (mo mv : CE) : SC := fun v S => (mo v S).bindS v fun o S1 => match insOf S1 o with
  | some (c, fs) => if cs.contains c then match getA fs f with
    | some x => (mv v S1).bindS v fun y S2 => match op x y S2 with
      | some (z, S3) => match setF [c] f o z S3 with
        | some S4 => .nx v S4
        | none => .bad
      | none => .bad
    | none => .bad
    else .bad
  | none => .bad
theorem ss_fldaug {o value : Expr} {f : Str} {tpos : Pos} {op : Operator} {cs : List Nat} {mo mv : CE} {fop : O2} (ho : SD ca X W o mo) (hv : SD ca X W value mv) (hop : InOp X op (rdO2 ca fop)) (hC : ∀ c, cs.contains c = true → Cls X.K (ca c) ∧ NoAttr X.K (ca c) f) :
    PS X (.AugAssign (.Attribute o f tpos) op value pos) (rdS ca W (fldAug cs f fop mo mv)) := PS_imp (ps_fldaug ho.pe hv.pe hop) fun D σ H ⟨v, S, g, s, e, h⟩ => by
  refine ⟨v, S, g, s, e, (FinS.ofE h e).imp (fun o g1 H1 x1 ⟨S1, s1, h1⟩ ov ro => ?_) fun _ _ _ _ z => z⟩
  split at h1
  · rename_i c fs hi
    split at h1
    · rename_i hc
      split at h1
      · rename_i x hx
        obtain ⟨p, dx, ws, rfl, hp, rf⟩ := s1.ins ro hi
        obtain ⟨w, ew, rw'⟩ := rf.get hx
        refine ⟨p, ca c, dx, ws, w, rfl, hp, (hC c hc).1, (hC c hc).2, ew, v, S1, g1, s1, e.mono x1.le, (FinS.ofE h1 (e.mono x1.le)).imp (fun y g2 H2 x2 ⟨S2, s2, h2⟩ yv ry => ?_) fun _ _ _ _ z => z⟩
        split at h2
        · rename_i z S3 ez
          refine ⟨g2, S2, x, y, s2, rw'.mono x2.le, ry, ?_⟩
          rw [ez]
          refine fun g3 H3 x3 s3 zv rz => ?_
          split at h2
          · rename_i S4 e4
            obtain ⟨a, C, dx', fs', e1, e2, ⟨c', hc', rfl⟩, e6, q⟩ := setF_ok s3 (ro.mono (x2.trans x3).le) rz e4
            cases e1
            have ec : c' = c := by simpa using hc'
            subst ec
            exact ⟨dx', fs', e2, e6, h2 g3 _ σ (x3.trans (q dx').1) (q dx').2 (e.mono ((x1.trans x2).trans x3).le)⟩
          · exact h2.elim
        · exact h2.elim
      · exact h1.elim
    · exact h1.elim
  · exact h1.elim
/-! ### for -/
def forL (t : GT) (b : SC) : List D → SC
  | [], v, S => .nx v S
  | d :: ds, v, S => match t d v S with
    | some (v1, S1) => match b v1 S1 with
      | .nx v2 S2 => forL t b ds v2 S2
      | .ct v2 S2 => forL t b ds v2 S2
      | .bk v2 S2 => .nx v2 S2
      | r => r
    | none => .bad
def unl (un : Option Nat) (r : SR) : SR := match un with
  | none => r
  | some n => match r with
    | .nx v S => if n ∈ S.lk then .nx v (S.unlock n) else .bad
    | .rt d S => if n ∈ S.lk then .rt d (S.unlock n) else .bad
    | _ => .bad
def forM (src : CS) (t : GT) (b : SC) : SC := fun v S => (src v S).bindS v fun p S1 => unl p.2 (forL t b p.1 v S1)
/-- what is wanted, be the dict that was walked locked or not -/
def unlA (X : Cx) (D : Ends) : Ends where
  nx := fun σ H => D.nx σ H ∨ ∃ d od u, H d = some (.frz od u) ∧ (∀ o' u', X.H_0 d ≠ some (.frz o' u')) ∧ D.nx σ (upd H d u)
  bk := fun σ H => D.bk σ H ∨ ∃ d od u, H d = some (.frz od u) ∧ (∀ o' u', X.H_0 d ≠ some (.frz o' u')) ∧ D.bk σ (upd H d u)
  ct := fun σ H => D.ct σ H ∨ ∃ d od u, H d = some (.frz od u) ∧ (∀ o' u', X.H_0 d ≠ some (.frz o' u')) ∧ D.ct σ (upd H d u)
  rt := fun v H => D.rt v H ∨ ∃ d od u, H d = some (.frz od u) ∧ (∀ o' u', X.H_0 d ≠ some (.frz o' u')) ∧ D.rt v (upd H d u)
theorem ps_unlA {t : TS} (h : PS X st t) : PS X st (fun D σ H => t (unlA X D) σ H) := by
  refine ⟨fun pins s σ H D I hw => thn (h.run pins s σ H _ I hw) fun f s1 q => ?_⟩
  cases f with
  | next =>
    obtain ⟨σ', H', I2, q⟩ := q
    rcases q with q | ⟨d, od, u, e, nf, q⟩
    · exact ⟨σ', H', I2, q⟩
    · exact ⟨σ', _, I2.unlock e nf, q⟩
  | brk =>
    obtain ⟨σ', H', I2, q⟩ := q
    rcases q with q | ⟨d, od, u, e, nf, q⟩
    · exact ⟨σ', H', I2, q⟩
    · exact ⟨σ', _, I2.unlock e nf, q⟩
  | cont =>
    obtain ⟨σ', H', I2, q⟩ := q
    rcases q with q | ⟨d, od, u, e, nf, q⟩
    · exact ⟨σ', H', I2, q⟩
    · exact ⟨σ', _, I2.unlock e nf, q⟩
  | ret v =>
    obtain ⟨x, σ', H', I2, r, q⟩ := q
    rcases q with q | ⟨d, od, u, e, nf, q⟩
    · exact ⟨x, σ', H', I2, r, q⟩
    · exact ⟨x, σ', _, I2.unlock e nf, r, q⟩
theorem FinS.unl {D : Ends} {g g1 : Wld} {H H1 : Hp} {S1 : S3} {un : Option Nat} {r : SR} (l : Lk X g H g1 H1 S1 un) (h : FinS ca W D g H (unl un r)) : FinS ca W (unlA X D) g1 H1 r := by
  cases un with
  | none =>
    have h := FinS.mono (show FinS ca W D g H r from h) (show Ext g H g1 H1 from l)
    cases r with
    | nx v S => exact fun g' H' σ' x s e => .inl (h g' H' σ' x s e)
    | bk v S => exact fun g' H' σ' x s e => .inl (h g' H' σ' x s e)
    | ct v S => exact fun g' H' σ' x s e => .inl (h g' H' σ' x s e)
    | rt d S => exact fun g' H' x s y r => .inl (h g' H' x s y r)
    | ex e v S => exact h
    | bad => exact h
  | some n =>
    cases r with
    | nx v S =>
      unfold M3.unl at h
      dsimp only at h
      split at h
      · rename_i hn
        intro g2 H2 σ2 x s e
        obtain ⟨p, o, ks, e1, nf, s2, x2⟩ := l.un x s hn
        exact .inr ⟨p, o, _, e1, nf, h g2 _ σ2 x2 s2 e⟩
      · exact h.elim
    | rt d S =>
      unfold M3.unl at h
      dsimp only at h
      split at h
      · rename_i hn
        intro g2 H2 x s y r
        obtain ⟨p, o, ks, e1, nf, s2, x2⟩ := l.un x s hn
        exact .inr ⟨p, o, _, e1, nf, h g2 _ x2 s2 y r⟩
      · exact h.elim
    | _ => exact h.elim
theorem ss_for {tg iter : Expr} {body : List Stmt} {src : CS} {t : GT} {b : SC} {sl : List Nat} (hp : PassesOwn (model X.prog X.w) X.A X.env X.xe) (hc : X.calm = true) (hi : PI X tg iter (rdI ca X W src)) (hg : PG X tg (rdG ca sl t)) (hb : PSs X body (rdS ca W b))
    (hs : ∀ x, foldedSetIterable iter X.env x = pure x := by intro _; rfl) : PS X (.For tg iter body [] pos) (rdS ca W (forM src t b)) := PS_imp (ps_unlA (ps_for hp hc hi hg hb hs)) fun D σ H ⟨v, S, g, s, e, h⟩ => by
  refine ⟨v, S, g, s, e, ?_⟩
  unfold forM at h
  cases q : src v S with
  | bad => rw [q] at h; exact h.elim
  | ex er S' =>
    rw [q] at h
    exact fun g' H' x s' => h g' H' σ x s' (e.mono x.le)
  | ok p S1 =>
    obtain ⟨ds, un⟩ := p
    rw [q] at h
    intro g1 H1 J lk le s1 wk
    have h1 : FinS ca W (unlA X D) g1 H1 (forL t b ds v S1) := FinS.unl lk h
    let P : Nat → St → Hp → Prop := fun i σ' H' => ∃ g' S' v', Ext g1 H1 g' H' ∧ Sim ca g' S' H' ∧ EnvR ca g' v' σ' ∧ FinS ca W (unlA X D) g' H' (forL t b (ds.drop i) v' S')
    refine ⟨fun i m σ' H' => m = ds.length - i ∧ i ≤ ds.length ∧ P i σ' H', ⟨ds.length, by simp, Nat.zero_le _, g1, S1, v, .refl _ _, s1, e.mono le, h1⟩, ?_⟩
    rintro i m σ' H' ⟨rfl, hi, g', S', v', x', s', e', h'⟩
    by_cases hlt : i < ds.length
    · refine .inr ⟨wk.go i g' H' S' hlt x'.w s', P (i + 1), fun σ2 H2 p2 => ⟨ds.length - (i + 1), by omega, rfl, hlt, p2⟩, fun x H2 y => ?_⟩
      obtain ⟨g2, x2, s2, r2⟩ := wk.yld i g' H' S' ds[i] x H2 (List.getElem?_eq_getElem hlt) x'.w s' y
      refine ⟨v', g2, S', ds[i], s2, e'.mono x2.le, r2, ?_⟩
      rw [List.drop_eq_getElem_cons hlt] at h'
      unfold forL at h'
      cases qt : t ds[i] v' S' with
      | none => rw [qt] at h'; exact h'.elim
      | some p =>
        obtain ⟨v1, S1'⟩ := p
        rw [qt] at h'
        refine fun g3 H3 x3 s3 σ3 e3 _ => ⟨v1, S1', g3, s3, e3, ?_⟩
        have h3 := FinS.mono h' (x2.trans x3)
        dsimp only at h3
        have x03 := (x'.trans x2).trans x3
        revert h3
        cases b v1 S1' with
        | nx v2 S2 => exact fun h3 g4 H4 σ4 x4 s4 e4 => ⟨g4, S2, v2, x03.trans x4, s4, e4, FinS.mono h3 x4⟩
        | ct v2 S2 => exact fun h3 g4 H4 σ4 x4 s4 e4 => ⟨g4, S2, v2, x03.trans x4, s4, e4, FinS.mono h3 x4⟩
        | bk v2 S2 => exact fun h3 => h3
        | rt d S2 => exact fun h3 => h3
        | ex er v2 S2 => exact fun h3 => h3
        | bad => exact fun h3 => h3
    · have ei : i = ds.length := by omega
      subst ei
      rw [List.drop_length] at h'
      exact .inl ⟨wk.stop g' H' S' x'.w s', h'.now s' e'⟩
/-! ### while -/
def whileF : Nat → CE → SC → SC
  | 0, _, _, _, _ => .bad
  | n + 1, c, b, v, S => (c v S).bindS v fun x S1 => match x with
    | .bl true => match b v S1 with
      | .nx v2 S2 => whileF n c b v2 S2
      | .ct v2 S2 => whileF n c b v2 S2
      | .bk v2 S2 => .nx v2 S2
      | r => r
    | .bl false => .nx v S1
    | _ => .bad
theorem ss_while {body : List Stmt} {b : SC} (n : Nat) (hp : PassesOwn (model X.prog X.w) X.A X.env X.xe) (hc : SD ca X W c mc) (hb : PSs X body (rdS ca W b)) : PS X (.While c body [] pos) (rdS ca W (whileF n mc b)) := PS_imp (ps_while hp hc.pt hb) fun D σ H h => by
  refine ⟨fun n σ H => rdS ca W (whileF n mc b) D σ H, ⟨n, h⟩, ?_⟩
  rintro n σ H ⟨v, S, g, s, e, h⟩
  cases n with
  | zero => exact h.elim
  | succ n =>
    unfold whileF at h
    refine ⟨v, S, g, s, e, (FinS.ofE h e).imp (fun d g1 H1 x1 ⟨S1, s1, h1⟩ x r => ?_) fun _ _ _ _ z => z⟩
    split at h1
    · cases r
      refine ⟨true, rfl, iteT ⟨fun σ' H' => rdS ca W (whileF n mc b) D σ' H', fun σ' H' z => ⟨n, Nat.lt_succ_self n, z⟩, v, S1, g1, s1, e.mono x1.le, ?_⟩⟩
      revert h1
      cases b v S1 with
      | nx v2 S2 => exact fun h3 g4 H4 σ4 x4 s4 e4 => ⟨v2, S2, g4, s4, e4, FinS.mono h3 x4⟩
      | ct v2 S2 => exact fun h3 g4 H4 σ4 x4 s4 e4 => ⟨v2, S2, g4, s4, e4, FinS.mono h3 x4⟩
      | bk v2 S2 => exact fun h3 => h3
      | rt d S2 => exact fun h3 => h3
      | ex er v2 S2 => exact fun h3 => h3
      | bad => exact fun h3 => h3
    · cases r
      exact ⟨false, rfl, iteF (h1.now s1 (e.mono x1.le))⟩
    · exact h1.elim
/-! ### raise -/
/-- raise C("..") -/
def raiseM (c : Nat) : SC := fun v S => .ex ⟨c, []⟩ v S
theorem ss_raise {W' : WX} {c : Nat} (hc : X.calm = true) (tk : Takes X W') (hW : ∀ cls d σ H, W cls d σ H → W' cls d σ H) (h : PMk X e (fun _ H Q => Q (.ref (ca c)) none H)) : PS X (.Raise (some e) none pos) (rdS ca W (raiseM c)) := PS_imp (ps_raise hc tk h) fun D σ H ⟨v, S, g, s, e, h⟩ =>
  hW _ _ _ _ (h g H σ (.refl _ _) s e _ _ ⟨rfl, rfl⟩)
end
end M3
/-! M3K: what is walked, comprehensions. -/
namespace M3
open PySem L2
variable {ca : CAK}
section
variable {X : Cx} {W : WX} {e a b c tg : Expr} {m ma mb mc : CE} {ms : CA} {pos p apos cpos tpos : Pos} {elts : List Expr} {kk : Nat}
/-- a cell that is not to change any more becomes a tree -/
def frzM (m : CE) : CE := fun v S => (m v S).bind fun d S1 => match cellOf d with
  | some n => if n ∈ S1.lk then .bad else match S1.cs n with
    | some (.lst xs) => .ok (.lst xs) (S1.kill n)
    | some (.dic ks) => .ok (.dic ks) (S1.kill n)
    | some (.ins c fs) => .ok (.ins c fs) (S1.kill n)
    | none => .bad
  | none => .ok d S1
theorem sd_frz (h : SD ca X W e m) (hw : ∀ whole, isTrue e X.env whole = (do let v ← whole; standAt e.pos; holding [v] (truthy v)) := by intro _; rfl) : SD ca X W e (frzM m) := .of (PE_imp h.pe <| by
  rintro σ H Q ⟨v, S, g, s, e, h⟩
  refine ⟨v, S, g, s, e, (Fin.seq h).imp (fun d g1 H1 x1 ⟨S1, s1, h1⟩ xv rv => ?_) fun _ _ _ _ z => z⟩
  split at h1
  · rename_i n en
    cases cellOf_eq en
    split at h1
    · exact h1.elim
    · rename_i hl
      cases hc : S1.cs n with
      | none => rw [hc] at h1; exact h1.elim
      | some ob =>
        obtain ⟨a, u, hph, ro, hp, hu, s2, x2⟩ := s1.freeze hc hl
        cases rv with
        | cell ec =>
          rw [hph] at ec
          cases ec
          rw [hc] at h1
          cases ro with
          | lst r => exact h1 _ _ x2 s2 _ (.lst upd_same (r.mono x2.le))
          | dic r => exact h1 _ _ x2 s2 _ (.dic upd_same (r.mono x2.le))
          | ins r => exact h1 _ _ x2 s2 _ (.ins upd_same (r.mono x2.le))
  · exact h1 g1 H1 (.refl _ _) s1 _ rv) hw
/-! ### sources -/
theorem pi_any (hK : X.K = ca.K) (h : SD ca X W e m) : PI X tg e (rdI ca X W (anyS m)) := by
  refine ⟨fun pins s σ H R I ⟨v, S, g, sm, ev, hh⟩ => ?_⟩
  have h0 := FinI.seq (f := anyK) hh
  unfold anyS at hh
  cases q : m v S with
  | bad => rw [q] at hh; exact hh.elim
  | ex er S' =>
    rw [q] at hh
    refine (pi_list h.pe).run pins s σ H R I ⟨v, S, g, sm, ev, ?_⟩
    rw [q]
    exact hh
  | ok d S1 =>
    rw [q] at hh
    have hh : FinI ca X W g H σ R (anyK d S1) := hh
    unfold anyK at hh
    split at hh
    · rename_i ks hk
      refine (pi_keys (pe_lockA h.pe)).run pins s σ H R I ⟨v, S, g, sm, ev, ?_⟩
      rw [q]
      refine fun g1 H1 x1 s1 xv rv => dict_ready (X := X) (Q := fun x H1 => ∃ d o, x = .ref d ∧ ((∃ kvs, H1 d = some (.frz o (.dK kvs)) ∧ R (Itk d o kvs) H1) ∨ ∃ kvs, H1 d = some (.frz o (.dT kvs)) ∧ R (Itkt d o kvs) H1)) x1 s1 rv hk (ks.map fun kd => keyD kd.1) fun p o vs H2 S3 un' el ev' hp rk lk s2 => ⟨p, o, ev', .inl ⟨vs, hp, ?_⟩⟩
      rw [el] at hh
      exact hh g1 H2 _ lk x1.le s2 (walk_keys hp rk)
    · split at hh
      · refine (pi_list h.pe).run pins s σ H R I ⟨v, S, g, sm, ev, ?_⟩
        rw [q]
        refine fun g1 H1 x1 s1 xv rv => ?_
        cases rv with
        | lst ea ra => exact ⟨_, rfl, ⟨_, .inl (s1.frz _ _ ea)⟩, hh g1 H1 _ x1 x1.le s1 (walk_list ea ra)⟩
      · refine (pi_list h.pe).run pins s σ H R I ⟨v, S, g, sm, ev, ?_⟩
        rw [q]
        refine fun g1 H1 x1 s1 xv rv => ?_
        cases rv with
        | scrK ea ra => exact ⟨_, rfl, ⟨_, .inr (hK ▸ ea)⟩, hh g1 H1 _ x1 x1.le s1 (walk_listK (hK ▸ ea) ra)⟩
        | scrF ea ra => exact ⟨_, rfl, ⟨_, .inl (s1.frz _ _ ea)⟩, hh g1 H1 _ x1 x1.le s1 (walk_list ea ra)⟩
      · refine (pi_tup h.pe).run pins s σ H R I ⟨v, S, g, sm, ev, ?_⟩
        rw [q]
        refine fun g1 H1 x1 s1 xv rv => ?_
        cases rv with
        | tup ea ra => exact ⟨_, rfl, ⟨_, SqT.of (s1.frz _ _ ea)⟩, hh g1 H1 _ x1 x1.le s1 (walk_tup ea ra)⟩
      · refine (pi_str h.pe).run pins s σ H R I ⟨v, S, g, sm, ev, ?_⟩
        rw [q]
        refine fun g1 H1 x1 s1 xv rv => ?_
        cases rv
        exact ⟨_, rfl, hh g1 H1 _ x1 x1.le s1 walk_str⟩
      · split at hh
        · rename_i n _ xs hc
          refine (pi_list (pe_lockA h.pe)).run pins s σ H R I ⟨v, S, g, sm, ev, ?_⟩
          rw [q]
          refine fun g1 H1 x1 s1 xv rv => cellL_ready (X := X) (Q := fun x H1 => ∃ a, x = .ref a ∧ (∃ xs, SqL X.K H1 a xs) ∧ R (Itl X.K a) H1) x1 s1 rv hc xs fun p o vs H2 S3 un' el ev' hp rk lk s2 => ⟨p, ev', ⟨vs, .inl (.inr ⟨o, hp⟩)⟩, ?_⟩
          rw [el] at hh
          exact hh g1 H2 _ lk x1.le s2 (walk_listZ hp rk)
        · exact hh.elim
      · exact hh.elim
theorem pi_val (h : SD ca X W e m) (hbase : attributeBase e "values" X.env (eval e X.env) = eval e X.env := by rfl) (hline : (apos.endLine == cpos.line) = true := by rfl) : PI X tg (.Call (.Attribute e "values" apos) [] [] cpos) (rdI ca X W (valS m)) := by
  refine ⟨fun pins s σ H R I ⟨v, S, g, sm, ev, hh⟩ => ?_⟩
  refine (pi_values (pe_lockA h.pe) hbase hline).run pins s σ H R I ⟨v, S, g, sm, ev, (FinI.seq hh).imp (fun d g1 H1 x1 ⟨S1, s1, x1, h1⟩ xv rv => ?_) fun _ _ _ _ z => z⟩
  split at h1
  · rename_i ks hk
    refine dict_ready (X := X) (Q := fun x H1 => ∃ d o kvs, x = .ref d ∧ H1 d = some (.frz o (.dK kvs)) ∧ R (Itd d o kvs) H1) x1 s1 rv hk (ks.map fun kd => kd.2) fun p o vs H2 S3 un' el ev' hp rk lk s2 => ⟨p, o, vs, ev', hp, ?_⟩
    rw [el] at h1
    exact h1 g1 H2 _ lk x1.le s2 (walk_vals hp rk)
  · exact h1.elim
theorem pi_itm (h : SD ca X W e m) (hbase : attributeBase e "items" X.env (eval e X.env) = eval e X.env := by rfl) (hline : (apos.endLine == cpos.line) = true := by rfl) : PI X (.Tuple elts kk tpos) (.Call (.Attribute e "items" apos) [] [] cpos) (rdI ca X W (itmS m)) := by
  refine ⟨fun pins s σ H R I ⟨v, S, g, sm, ev, hh⟩ => ?_⟩
  refine (pi_items (pe_lockA h.pe) hbase hline).run pins s σ H R I ⟨v, S, g, sm, ev, (FinI.seq hh).imp (fun d g1 H1 x1 ⟨S1, s1, x1, h1⟩ xv rv => ?_) fun _ _ _ _ z => z⟩
  split at h1
  · rename_i ks hk
    refine dict_ready (X := X) (Q := fun x H1 => ∃ d o kvs, x = .ref d ∧ H1 d = some (.frz o (.dK kvs)) ∧ R (Iti d o kvs) H1) x1 s1 rv hk (ks.map fun kd => .tup [keyD kd.1, kd.2]) fun p o vs H2 S3 un' el ev' hp rk lk s2 => ⟨p, o, vs, ev', hp, ?_⟩
    rw [el] at h1
    exact h1 g1 H2 _ lk x1.le s2 (walk_items hp rk)
  · exact h1.elim
theorem pi_enm (hg : Gl X "enumerate") (hm : X.mg "enumerate" = none) (h : SD ca X W e m) (hs : starEach [e] X.env = [(false, eval e X.env)] := by rfl) (hs2 : starEach [e] X.env = (false, eval e X.env) :: starEach [] X.env := by rfl) : PI X (.Tuple elts kk tpos) (.Call (.Name "enumerate" p) [e] [] pos) (rdI ca X W (enmS m)) := by
  refine ⟨fun pins s σ H R I ⟨v, S, g, sm, ev, hh⟩ => ?_⟩
  refine (pi_enum hg hm (pa_cons (pe_lockA h.pe) pa_nil hs2) hs).run pins s σ H R I ⟨v, S, g, sm, ev, (FinI.seq hh).imp (fun d g1 H1 x1 ⟨S1, s1, x1, h1⟩ xv rv => ?_) fun _ _ _ _ z => z⟩
  split at h1
  · cases rv with
    | lst ea ra => exact .inl ⟨_, _, rfl, .inl (s1.frz _ _ ea), h1 g1 H1 _ x1 x1.le s1 (walk_enum ea ra)⟩
  · split at h1
    · rename_i n _ xs hc
      refine cellL_ready (X := X) (Q := fun x H1 => ∃ a xs, [x] = [.ref a] ∧ SqL X.K H1 a xs ∧ R (Ite X.K a) H1) x1 s1 rv hc (enumD 0 xs) fun p o vs H2 S3 un' el ev' hp rk lk s2 => ⟨p, vs, by rw [ev'], .inl (.inr ⟨o, hp⟩), ?_⟩
      rw [el] at h1
      exact h1 g1 H2 _ lk x1.le s2 (walk_enumZ hp rk)
    · exact h1.elim
  · exact h1.elim
theorem fit62_eq {i : Int} (h : fit62 i = true) : -(2 ^ 62) ≤ i ∧ i < 2 ^ 62 := of_decide_eq_true h
theorem RepL.three {g : Wld} {vs : List V} {d e f : D} (r : RepL ca g vs [d, e, f]) : ∃ v w x, vs = [v, w, x] ∧ Rep ca g v d ∧ Rep ca g w e ∧ Rep ca g x f := by
  cases r with
  | cons r t =>
    obtain ⟨v, w, rfl, h1, h2⟩ := t.two
    exact ⟨_, _, _, rfl, r, h1, h2⟩
def rng1S (ms : CA) : CS := fun v S => (ms v S).bind fun xs S1 => match xs with
  | [.int j] => if fit62 j then .ok (intsD 0 1 j.toNat, none) S1 else .bad
  | _ => .bad
def rng2S (ms : CA) : CS := fun v S => (ms v S).bind fun xs S1 => match xs with
  | [.int i, .int j] => if fit62 i && fit62 j then .ok (intsD i 1 (j - i).toNat, none) S1 else .bad
  | _ => .bad
def rng3S (ms : CA) : CS := fun v S => (ms v S).bind fun xs S1 => match xs with
  | [.int i, .int j, .int c] => if decide (c ≠ 0) && decide (c.natAbs < 1073741824) && Builtin.Range.small i j c && decide (Builtin.Range.rangeSize i j c = ((Builtin.Range.rangeSize i j c).toNat : Int)) then .ok (intsD i c (Builtin.Range.rangeSize i j c).toNat, none) S1 else .bad
  | _ => .bad
theorem pi_rng1 (hg : Gl X "range") (hm : X.mg "range" = none) (h : PA X [a] (rdA ca W ms)) (hs : starEach [a] X.env = [(false, eval a X.env)] := by rfl) : PI X tg (.Call (.Name "range" p) [a] [] pos) (rdI ca X W (rng1S ms)) := by
  refine ⟨fun pins s σ H R I ⟨v, S, g, sm, ev, hh⟩ => ?_⟩
  refine (pi_range1 hg hm h hs).run pins s σ H R I ⟨v, S, g, sm, ev, (FinI.seq hh).imp (fun ds g1 H1 x1 ⟨S1, s1, x1, h1⟩ xs rv => ?_) fun _ _ _ _ z => z⟩
  split at h1
  · split at h1
    · rename_i hj
      obtain ⟨x, rfl, rd⟩ := rv.one
      cases rd
      exact ⟨_, rfl, (fit62_eq hj).1, (fit62_eq hj).2, h1 g1 H1 _ x1 x1.le s1 walk_range⟩
    · exact h1.elim
  · exact h1.elim
theorem pi_rng2 (hg : Gl X "range") (hm : X.mg "range" = none) (h : PA X [a, b] (rdA ca W ms)) (hs : starEach [a, b] X.env = [(false, eval a X.env), (false, eval b X.env)] := by rfl) (hs2 : starEach [b] X.env = [(false, eval b X.env)] := by rfl) : PI X tg (.Call (.Name "range" p) [a, b] [] pos) (rdI ca X W (rng2S ms)) := by
  refine ⟨fun pins s σ H R I ⟨v, S, g, sm, ev, hh⟩ => ?_⟩
  refine (pi_range2 hg hm h hs hs2).run pins s σ H R I ⟨v, S, g, sm, ev, (FinI.seq hh).imp (fun ds g1 H1 x1 ⟨S1, s1, x1, h1⟩ xs rv => ?_) fun _ _ _ _ z => z⟩
  split at h1
  · split at h1
    · rename_i hj
      rw [Bool.and_eq_true] at hj
      obtain ⟨x, y, rfl, rd, ry⟩ := rv.two
      cases rd; cases ry
      exact ⟨_, _, rfl, ⟨(fit62_eq hj.1).1, (fit62_eq hj.1).2, (fit62_eq hj.2).1, (fit62_eq hj.2).2⟩, h1 g1 H1 _ x1 x1.le s1 walk_range⟩
    · exact h1.elim
  · exact h1.elim
theorem pi_rng3 (hg : Gl X "range") (hm : X.mg "range" = none) (h : PA X [a, b, c] (rdA ca W ms)) (hs : starEach [a, b, c] X.env = (false, eval a X.env) :: starEach [b, c] X.env := by rfl) (hpl : (backTo pos (starEach [b, c] X.env)).any (·.1) = false := by rfl) : PI X tg (.Call (.Name "range" p) [a, b, c] [] pos) (rdI ca X W (rng3S ms)) := by
  refine ⟨fun pins s σ H R I ⟨v, S, g, sm, ev, hh⟩ => ?_⟩
  refine (pi_range3 hg hm h hs hpl).run pins s σ H R I ⟨v, S, g, sm, ev, (FinI.seq hh).imp (fun ds g1 H1 x1 ⟨S1, s1, x1, h1⟩ xs rv => ?_) fun _ _ _ _ z => z⟩
  split at h1
  · split at h1
    · rename_i hj
      simp only [Bool.and_eq_true, decide_eq_true_eq] at hj
      obtain ⟨x, y, z, rfl, rd, ry, rz⟩ := rv.three
      cases rd; cases ry; cases rz
      exact ⟨_, _, _, _, rfl, ⟨hj.1.1.1, hj.1.1.2, hj.1.2, hj.2⟩, h1 g1 H1 _ x1 x1.le s1 walk_rangeC⟩
    · exact h1.elim
  · exact h1.elim
/-! ### comprehensions -/
def wipeD (v : Ev) : List Nat → Ev
  | [] => v
  | i :: r => (wipeD v r).set i none
theorem EnvR.wipe {g : Wld} {v : Ev} {σ : St} (e : EnvR ca g v σ) : ∀ vs : List Nat, EnvR ca g (wipeD v vs) (L2.wipe σ vs)
  | [] => e
  | i :: r => (EnvR.wipe e r).unset i
theorem wipe_at {σ : St} {j : Nat} : ∀ {vs : List Nat}, j ∈ vs → j < σ.length → (L2.wipe σ vs)[j]? = some none
  | [], h, _ => by cases h
  | i :: r, h, hl => by
    show ((L2.wipe σ r).set i none)[j]? = _
    by_cases hj : i = j
    · subst hj
      rw [List.getElem?_set_self (by rw [wipe_length]; exact hl)]
    · rw [List.getElem?_set_ne hj]
      exact wipe_at ((List.mem_cons.mp h).resolve_left (fun z => hj z.symm)) hl
theorem wipe_off {σ σ' : St} {sl vs : List Nat} (h : Off sl σ σ') (hs : ∀ j, j ∈ sl → j ∈ vs) : L2.wipe σ' vs = L2.wipe σ vs := by
  apply List.ext_getElem?
  intro j
  by_cases hj : j ∈ vs
  · by_cases hl : j < σ.length
    · rw [wipe_at hj hl, wipe_at hj (by rw [h.1]; exact hl)]
    · rw [List.getElem?_eq_none (by rw [wipe_length, h.1]; omega), List.getElem?_eq_none (by rw [wipe_length]; omega)]
  · rw [wipe_out hj, wipe_out hj]
    exact h.2 j fun z => hj (hs j z)
theorem wipe_wipe {σ : St} (vs : List Nat) : L2.wipe (L2.wipe σ vs) vs = L2.wipe σ vs := by
  apply List.ext_getElem?
  intro j
  by_cases hj : j ∈ vs
  · by_cases hl : j < σ.length
    · rw [wipe_at hj hl, wipe_at hj (by rw [wipe_length]; exact hl)]
    · rw [List.getElem?_eq_none (by rw [wipe_length, wipe_length]; omega), List.getElem?_eq_none (by rw [wipe_length]; omega)]
  · rw [wipe_out hj]
/-- tests: one, or none -/
def yesT : CE := fun _ S => .ok (.bl true) S
variable (ca)
def WF : WX := fun _ _ _ _ => False
structure SDT (X : Cx) (ifs : List Expr) (m : CE) : Prop where
  pts : PTs X ifs (tTest (rdE ca WF m))
variable {ca}
theorem PTs_imp {X : Cx} {e : List Expr} {t t' : TT} (h : PTs X e t) (i : ∀ σ H Q, t' σ H Q → t σ H Q) : PTs X e t' := ⟨fun pins s σ H Q I q => h.run pins s σ H Q I (i σ H Q q)⟩
theorem sdt_nil : SDT ca X [] yesT := ⟨PTs_imp pts_nil fun σ H Q ⟨v, S, g, s, e, h⟩ => by
  obtain ⟨k, ek, q⟩ := h g H (.refl _ _) s _ (.bl true)
  cases ek
  exact q⟩
theorem sdt_one (h : SD ca X WF c mc) : SDT ca X [c] mc := ⟨pts_one h.pt⟩
/-- a thing beside the world comes into it as a cell -/
theorem Sim.adoptC {g : Wld} {S : S3} {H : Hp} {p : Addr} {u : HO} (s : Sim ca g S H) (hp : Out g p) (hH : H p = some u) {ob : Ob} (r : RepO ca (g.cell p) ob u) : Sim ca (g.cell p) (S.new ob) H where
  len := by show (g.ph ++ [p]).length = S.nx + 1; rw [List.length_append, s.len]; rfl
  inj := by
    show (g.ph ++ [p]).Nodup
    refine List.nodup_append.mpr ⟨s.inj, by simp, fun a ha b hb e => ?_⟩
    have hb : b = p := by simpa using hb
    subst hb e
    obtain ⟨n, hn⟩ := List.getElem?_of_mem ha
    exact hp.1 n hn
  frz := fun a w e => s.frz a w e
  cel := fun n o e => by
    have e : (if n = S.nx then some ob else S.cs n) = some o := (condN _ _ _ _).symm.trans e
    by_cases hn : n = S.nx
    · rw [if_pos hn] at e
      cases e
      refine ⟨p, u, by rw [hn, ← s.len]; exact get_snoc _ _, hp.2, r, fun m => ?_, fun _ => hH⟩
      exact absurd (s.lk_lt m) (by rw [hn]; exact Nat.lt_irrefl _)
    · rw [if_neg hn] at e
      obtain ⟨a, w, h1, h2, h3, h4⟩ := s.cel n o e
      exact ⟨a, w, get_app h1, h2, h3.mono (Sim.leCell g p), h4⟩
  old := fun n a e => by
    have e : (g.ph ++ [p])[n]? = some a := e
    by_cases hn : n < g.ph.length
    · rw [List.getElem?_append_left hn] at e
      exact s.old n a e
    · rw [List.getElem?_append_right (by omega)] at e
      have : a ∈ [p] := List.mem_of_getElem? e
      have e' : a = p := by simpa using this
      rw [e', hH]; exact fun z => nomatch z
  lkd := fun n m => by
    obtain ⟨ks, e, hb⟩ := s.lkd n m
    refine ⟨ks, ?_, hb⟩
    refine (condN _ _ _ _).trans ?_
    rw [if_neg (Nat.ne_of_lt (s.lk_lt m))]
    exact e
theorem Sim.extAdoptC {g : Wld} {H : Hp} {p : Addr} {g0 : Wld} {H0 : Hp} (x : Ext g0 H0 g H) (h0 : H0 p = none) : Ext g0 H0 (g.cell p) H where
  le := x.le.trans (Sim.leCell g p)
  fz := x.fz
  old := x.old
  nph := fun n a e => by
    have e : (g.ph ++ [p])[n]? = some a := e
    by_cases hn : n < g.ph.length
    · rw [List.getElem?_append_left hn] at e
      exact x.nph n a e
    · rw [List.getElem?_append_right (by omega)] at e
      have : a ∈ [p] := List.mem_of_getElem? e
      have e' : a = p := by simpa using this
      exact .inr (e' ▸ h0)
  nfr := x.nfr
  rest := x.rest
/-- a thing beside the world is written: later all the same -/
theorem Ext.updOut {g g' : Wld} {H H' : Hp} (x : Ext g H g' H') {p : Addr} (hp : H p = none) (o : HO) : Ext g H g' (L2.upd H' p o) := x.upd hp o
theorem pe_unlA {td : TE} (h : PE X e td) : PE X e (fun σ H Q => td σ H fun x H1 => Q x H1 ∨ ∃ d od u, H1 d = some (.frz od u) ∧ (∀ o' u', X.H_0 d ≠ some (.frz o' u')) ∧ Q x (upd H1 d u)) := by
  refine ⟨fun pins s σ H Q I hw => thn (h.run pins s σ H _ I hw) fun v s1 ⟨x, H1, I1, r1, q1⟩ => ?_⟩
  rcases q1 with q1 | ⟨d, od, u, e1, nf, q1⟩
  · exact ⟨x, H1, I1, r1, q1⟩
  · exact ⟨x, _, I1.unlock e1 nf, r1, q1⟩
def noEx {α : Type} (r : R α) : R α := match r with
  | .ex _ _ => .bad
  | r => r
theorem Fin.noEx {α : Type} {g : Wld} {H : Hp} {r : R α} {QO : α → Wld → Hp → Prop} {QE QE' : Exn → Wld → Hp → Prop} (h : Fin ca g H (noEx r) QO QE) : Fin ca g H r QO QE' := by
  cases r with
  | ok a S => exact h
  | ex e S => exact h.elim
  | bad => exact h
theorem R.bind_assoc {α β γ : Type} (r : R α) (f : α → S3 → R β) (h : β → S3 → R γ) : (r.bind f).bind h = r.bind fun a S => (f a S).bind h := by cases r <;> rfl
/-- the items of a list comprehension -/
def lcL (t : GT) (c el : CE) (v : Ev) : List D → S3 → R (List D)
  | [], S => .ok [] S
  | d :: ds, S => match t d v S with
    | some (v1, S1) => (noEx (c v1 S1)).bind fun b S2 => match b with
      | .bl true => (noEx (el v1 S2)).bind fun y S3 => (lcL t c el v ds S3).bind fun ys S4 => .ok (y :: ys) S4
      | .bl false => lcL t c el v ds S2
      | _ => .bad
    | none => .bad
/-- unlocked behind -/
def unlR {α : Type} (un : Option Nat) (r : R α) : R α := match un with
  | none => r
  | some n => match r with
    | .ok d S => if n ∈ S.lk then .ok d (S.unlock n) else .bad
    | _ => .bad
def lcM (vs : List Nat) (src : CS) (t : GT) (c el : CE) (fin : List D → S3 → R D) : CE := fun v S => (src v S).bind fun p S1 => if p.1.length ≤ lim then (unlR p.2 (lcL t c el (wipeD v vs) p.1 S1)).bind fin else .bad
def finT : List D → S3 → R D := fun xs S => .ok (.lst xs) S
def finC : List D → S3 → R D := fun xs S => .ok (.cell S.nx) (S.new (.lst xs))
theorem Fin.seqB {α β : Type} {gB g : Wld} {HB H : Hp} {r : R α} {f : α → S3 → R β} {QO : β → Wld → Hp → Prop} {QE : Exn → Wld → Hp → Prop} (h : Fin ca gB HB (r.bind f) QO QE) (x : Ext gB HB g H) :
    Fin ca g H r (fun a g' H' => ∃ S', Sim ca g' S' H' ∧ Ext g H g' H' ∧ Ext gB HB g' H' ∧ Fin ca gB HB (f a S') QO QE) QE := by
  cases r with
  | ok a S => exact fun g' H' x' s => ⟨S, s, x', x.trans x', h⟩
  | ex e S => exact fun g' H' x' s => h g' H' (x.trans x') s
  | bad => exact h
theorem Lk.none {g g1 : Wld} {H H1 : Hp} {S1 : S3} {un : Option Nat} (l : Lk X g H g1 H1 S1 un) {D : Addr} (h : H1 D = none) : H D = none := by
  cases e : H D with
  | none => rfl
  | some o =>
    cases un with
    | none => exact absurd h (Ext.old l D (by rw [e]; exact fun z => nomatch z))
    | some n =>
      obtain ⟨p, o', ks, h1, h2, _, h3, h4, h5⟩ := l
      have := h5.old D (by rw [e]; exact fun z => nomatch z)
      by_cases hp : D = p
      · rw [hp, h2] at h; cases h
      · rw [upd_ne hp] at this
        exact absurd h this
/-- what holds of a run, the walked dict unlocked behind it -/
def Un2 (X : Cx) (Z : Wld → Hp → Prop) (g2 : Wld) (H2 : Hp) : Prop := Z g2 H2 ∨ ∃ d od u, H2 d = some (.frz od u) ∧ (∀ o' u', X.H_0 d ≠ some (.frz o' u')) ∧ Z g2 (upd H2 d u)
theorem unlR_ok {α β : Type} {g g1 : Wld} {H H1 : Hp} {S1 : S3} {un : Option Nat} {r : R α} {f : α → S3 → R β} {QO : β → Wld → Hp → Prop} {QE QE' : Exn → Wld → Hp → Prop} (l : Lk X g H g1 H1 S1 un) (h : Fin ca g H ((unlR un (noEx r)).bind f) QO QE) :
    Fin ca g1 H1 r (fun a => Un2 X fun g2 H2 => ∃ S', Sim ca g2 S' H2 ∧ Ext g H g2 H2 ∧ Fin ca g H (f a S') QO QE) QE' := by
  cases un with
  | none =>
    cases r with
    | ok a S => exact fun g' H' x s => .inl ⟨S, s, Ext.trans l x, h⟩
    | ex e S => exact h.elim
    | bad => exact h
  | some n =>
    cases r with
    | ok a S =>
      have h : Fin ca g H ((if n ∈ S.lk then R.ok a (S.unlock n) else .bad).bind f) QO QE := h
      split at h
      · rename_i hn
        intro g2 H2 x s
        obtain ⟨p, o, ks, e1, nf, s2, x2⟩ := l.un x s hn
        exact .inr ⟨p, o, _, e1, nf, _, s2, x2, h⟩
      · exact h.elim
    | _ => exact h.elim
/-- how a new list, a new dict comes into the world -/
def FinOk (ca : CAK) {α β : Type} (mk : List β → HO) (rep : Wld → List β → List α → Prop) (fin : List α → S3 → R D) : Prop := ∀ {g g2 : Wld} {H H2 : Hp} {S' : S3} {D : Addr} {vs : List β} {ds : List α} {Q : VK} {QE : Exn → Wld → Hp → Prop},
  Sim ca g2 S' H2 → Ext g H g2 H2 → H D = none → Out g2 D → H2 D = some (mk vs) → rep g2 vs ds → Fin ca g H (fin ds S') (fun d g' H' => ∀ x, Rep ca g' x d → Q x H') QE → Q (.ref D) H2
theorem finT_ok : FinOk ca HO.lst (RepL ca) finT := fun s x h0 o hD r h => h _ _ (s.extAdopt x h0 o) (s.adopt o hD True.intro) _ (.lst upd_same (r.mono (Wld.leOut o.2)))
theorem finC_ok : FinOk ca HO.lst (RepL ca) finC := fun s x h0 o hD r h => h _ _ (Sim.extAdoptC x h0) (s.adoptC o hD (.lst (r.mono (Sim.leCell _ _)))) _ (.cell (by rw [← s.len]; exact get_snoc _ _))
def finDT : List (Key × D) → S3 → R D := fun xs S => .ok (.dic xs) S
def finDC : List (Key × D) → S3 → R D := fun xs S => .ok (.cell S.nx) (S.new (.dic xs))
theorem finDT_ok : FinOk ca HO.dK (RepK ca) finDT := fun s x h0 o hD r h => h _ _ (s.extAdopt x h0 o) (s.adopt o hD True.intro) _ (.dic upd_same (r.mono (Wld.leOut o.2)))
theorem finDC_ok : FinOk ca HO.dK (RepK ca) finDC := fun s x h0 o hD r h => h _ _ (Sim.extAdoptC x h0) (s.adoptC o hD (.dic (r.mono (Sim.leCell _ _)))) _ (.cell (by rw [← s.len]; exact get_snoc _ _))
theorem Un2.fin {α β : Type} {mk : List β → HO} {rep : Wld → List β → List α → Prop} {fin : List α → S3 → R D} (hf : FinOk ca mk rep fin) (hmk : ∀ vs o u, mk vs ≠ .frz o u) {g g2 : Wld} {H H2 : Hp} {D : Addr} {vs : List β} {ds : List α} {Q : VK} {QE : Exn → Wld → Hp → Prop}
    (z : Un2 X (fun g2 H2 => ∃ S', Sim ca g2 S' H2 ∧ Ext g H g2 H2 ∧ Fin ca g H (fin ds S') (fun d g' H' => ∀ x, Rep ca g' x d → Q x H') QE) g2 H2) (h0 : H D = none) (o : Out g2 D) (hD : H2 D = some (mk vs)) (r : rep g2 vs ds) :
    Q (.ref D) H2 ∨ ∃ d od u, H2 d = some (.frz od u) ∧ (∀ o' u', X.H_0 d ≠ some (.frz o' u')) ∧ Q (.ref D) (upd H2 d u) := by
  rcases z with ⟨S', s, x, h⟩ | ⟨d, od, u, e, nf, S', s, x, h⟩
  · exact .inl (hf s x h0 o hD r h)
  · have hne : D ≠ d := fun z => by rw [← z, hD] at e; exact hmk _ _ _ (Option.some.inj e)
    exact .inr ⟨d, od, u, e, nf, hf s x h0 o (by rw [upd_ne hne]; exact hD) r h⟩
def lcM' (vs : List Nat) (src : CS) (t : GT) (c el : CE) (fin : List D → S3 → R D) : CE := fun v S => (src v S).bind fun p S1 => if p.1.length ≤ lim then (unlR p.2 (noEx (lcL t c el (wipeD v vs) p.1 S1))).bind fin else .bad
theorem lc_rd {vs : List Nat} {src : CS} {t : GT} {sl : List Nat} {mt me : CE} {fin : List D → S3 → R D} (hf : FinOk ca HO.lst (RepL ca) fin) (hsl : ∀ j, j ∈ sl → j ∈ vs) : ∀ σ H Q, rdE ca W (lcM' vs src t mt me fin) σ H Q →
    tLc (rdI ca X W src) (rdG ca sl t) (tTest (rdE ca WF mt)) (rdE ca WF me) vs σ H (fun x H1 => Q x H1 ∨ ∃ d od u, H1 d = some (.frz od u) ∧ (∀ o' u', X.H_0 d ≠ some (.frz o' u')) ∧ Q x (upd H1 d u)) := by
  rintro σ H Q ⟨v, S, g, s, e, h⟩
  refine ⟨v, S, g, s, e, ?_⟩
  unfold lcM' at h
  cases q : src v S with
  | bad => rw [q] at h; exact h.elim
  | ex er S' => rw [q] at h; exact h
  | ok p S1 =>
    obtain ⟨ds, un⟩ := p
    rw [q] at h
    intro g1 H1 J lk le s1 wk D hD
    have h : Fin ca g H (if ds.length ≤ lim then (unlR un (noEx (lcL t mt me (wipeD v vs) ds S1))).bind fin else .bad) (fun d g' H' => ∀ x, Rep ca g' x d → Q x H') _ := h
    split at h
    · rename_i hz
      have h0 := lk.none hD
      have h1 := unlR_ok (QE' := fun _ _ _ => False) lk h
      clear h
      have e0 : EnvR ca g1 (wipeD v vs) (wipe σ vs) := (e.mono le).wipe vs
      let P : Nat → Hp → Prop := fun i H' => ∃ g' S' acc accV, Ext g1 H1 g' H' ∧ Sim ca g' S' H' ∧ Out g' D ∧ H' D = some (.lst accV) ∧ RepL ca g' accV acc ∧ acc.length ≤ i ∧
        Fin ca g1 H1 ((lcL t mt me (wipeD v vs) (ds.drop i) S').bind fun ys S4 => .ok (acc ++ ys) S4) (fun a => Un2 X fun g2 H2 => ∃ S', Sim ca g2 S' H2 ∧ Ext g H g2 H2 ∧ Fin ca g H (fin a S') (fun d g' H' => ∀ x, Rep ca g' x d → Q x H') (fun e g' H' => ∀ cls od, RepX ca g' H' cls od e → W cls od σ H')) (fun _ _ _ => False)
      have start : P 0 (upd H1 D (.lst [])) := by
        refine ⟨g1, S1, [], [], (Ext.refl g1 H1).upd hD _, s1.updOut (s1.freshOut hD), s1.freshOut hD, upd_same, .nil, Nat.le_refl _, ?_⟩
        rw [List.drop_zero]
        revert h1
        cases lcL t mt me (wipeD v vs) ds S1 with
        | ok a S => exact fun h1 => h1
        | ex a S => exact fun h1 => h1
        | bad => exact fun h1 => h1
      refine ⟨fun i m H' => m = ds.length - i ∧ i ≤ ds.length ∧ P i H', ⟨ds.length, by simp, Nat.zero_le _, start⟩, ?_⟩
      rintro i m H' ⟨rfl, hi, g', S', acc, accV, x', s', o', hD', r', hl, h'⟩
      by_cases hlt : i < ds.length
      · refine .inr ⟨wk.go i g' H' S' hlt x'.w s', P (i + 1), fun H2 p2 => ⟨ds.length - (i + 1), by omega, rfl, hlt, p2⟩, fun x H2 y => ?_⟩
        obtain ⟨g2, x2, s2, r2⟩ := wk.yld i g' H' S' ds[i] x H2 (List.getElem?_eq_getElem hlt) x'.w s' y
        have x12 := x'.trans x2
        refine ⟨wipeD v vs, g2, S', ds[i], s2, e0.mono x12.le, r2, ?_⟩
        rw [List.drop_eq_getElem_cons hlt] at h'
        unfold lcL at h'
        cases qt : t ds[i] (wipeD v vs) S' with
        | none => rw [qt] at h'; exact h'.elim
        | some p =>
          obtain ⟨v1, S1'⟩ := p
          rw [qt] at h'
          refine fun g3 H3 x3 s3 σ3 e3 off => ⟨(wipe_off off hsl).trans (wipe_wipe vs), v1, S1', g3, s3, e3, ?_⟩
          dsimp only at h'
          rw [R.bind_assoc] at h'
          refine (Fin.noEx (Fin.seqB h' (x12.trans x3))).imp (fun d g4 H4 x4 ⟨S4, s4, x4', x14, h4⟩ bv rb => ?_) fun _ _ _ _ z => z
          have xD : Ext g' H' g4 H4 := (x2.trans x3).trans x4
          have oD4 := xD.out o' (by rw [hD']; exact fun z => nomatch z)
          have hD4 := xD.rest D _ hD' o'
          split at h4
          · cases rb
            refine ⟨true, rfl, iteT ⟨v1, S4, g4, s4, e3.mono x4.le, ?_⟩⟩
            rw [R.bind_assoc] at h4
            refine (Fin.noEx (Fin.seqB h4 x14)).imp (fun d5 g5 H5 x5 ⟨S5, s5, x5', x15, h5⟩ yv ry => ?_) fun _ _ _ _ z => z
            have hD5 := x5.rest D _ hD4 oD4
            have oD5 := x5.out oD4 (by rw [hD4]; exact fun z => nomatch z)
            have hl5 : accV.length = acc.length := r'.len
            have l0 : acc.length < lim := Nat.lt_of_lt_of_le (Nat.lt_of_le_of_lt hl hlt) hz
            refine ⟨accV, hD5, by rw [hl5]; exact Nat.lt_of_lt_of_le l0 lim_le, g5, S5, acc ++ [d5], accV ++ [yv], x15.upd hD _, s5.updOut oD5, oD5, upd_same, (r'.mono (xD.trans x5).le).app (.cons ry .nil), by rw [List.length_append]; exact Nat.succ_le_succ hl, ?_⟩
            rw [R.bind_assoc] at h5
            revert h5
            cases lcL t mt me (wipeD v vs) (ds.drop (i + 1)) S5 with
            | ok a S =>
              intro h5
              have ea : acc ++ [d5] ++ a = acc ++ (d5 :: a) := by rw [List.append_assoc]; rfl
              show Fin ca g1 H1 (.ok (acc ++ [d5] ++ a) S) _ _
              rw [ea]
              exact h5
            | ex a S => exact fun h5 => h5
            | bad => exact fun h5 => h5
          · cases rb
            exact ⟨false, rfl, iteF ⟨g4, S4, acc, accV, x14, s4, oD4, hD4, r'.mono xD.le, Nat.le_succ_of_le hl, h4⟩⟩
          · exact h4.elim
      · have ei : i = ds.length := by omega
        subst ei
        rw [List.drop_length] at h'
        have h' : Fin ca g1 H1 (.ok (acc ++ []) S') _ _ := h'
        rw [List.append_nil] at h'
        exact .inl ⟨wk.stop g' H' S' x'.w s', Un2.fin (mk := HO.lst) (rep := RepL ca) (fin := fin) (vs := accV) (ds := acc) hf (fun _ _ _ z => nomatch z) (h' g' H' x' s') h0 o' hD' r'⟩
    · exact h.elim
theorem sd_lc {elt iter : Expr} {ifs : List Expr} {scope : Scope} {own : List (Str × Nat)} {src : CS} {t : GT} {sl : List Nat} {mt me : CE} {fin : List D → S3 → R D} (hf : FinOk ca HO.lst (RepL ca) fin) (hc : X.calm = true) (hN : X.N.Nodup) (hi : PI X tg iter (rdI ca X W src)) (ok : blkC X.N X.env.scope scope own = true)
    (hg : ∀ (s : Shared) (H : Hp) (C : Addr) (cl : List (Str × Addr)) (fp : List Addr), PG (X.blk s H scope (compEnvC scope cl C X.env) fp) tg (rdG ca sl t)) (ht : ∀ (s : Shared) (H : Hp) (C : Addr) (cl : List (Str × Addr)) (fp : List Addr), SDT ca (X.blk s H scope (compEnvC scope cl C X.env) fp) ifs mt)
    (he : ∀ (s : Shared) (H : Hp) (C : Addr) (cl : List (Str × Addr)) (fp : List Addr), SD ca (X.blk s H scope (compEnvC scope cl C X.env) fp) WF elt me) (hsl : ∀ j, j ∈ sl → j ∈ own.map (·.2) := by decide) (hs : ∀ x, foldedSetIterable iter X.env x = pure x := by intro _; rfl)
    (hw : ∀ whole, isTrue (.ListComp elt [⟨tg, iter, ifs, 0⟩] scope pos) X.env whole = (do let v ← whole; standAt (Expr.ListComp elt [⟨tg, iter, ifs, 0⟩] scope pos).pos; holding [v] (truthy v)) := by intro _; rfl) :
    SD ca X W (.ListComp elt [⟨tg, iter, ifs, 0⟩] scope pos) (lcM' (own.map (·.2)) src t mt me fin) := .of (PE_imp (pe_unlA (pe_lc hc hN hi (blkOk_by ok) hg (fun s H C cl fp => (ht s H C cl fp).pts) (fun s H C cl fp => (he s H C cl fp).pe) hs)) (lc_rd hf hsl)) hw
end
end M3
/-! M3L: dict comprehensions, comprehensions of two clauses. -/
namespace M3
open PySem L2
variable {ca : CAK}
section
variable {X : Cx} {W : WX} {e a b c tg : Expr} {m ma mb mc : CE} {ms : CA} {pos p apos cpos tpos : Pos} {elts : List Expr} {kk : Nat}
theorem nd_put {α : Type} {m : List (Key × V)} {k : Key} {v : V} (nd : (m.map (·.1)).Nodup) : ((putK m k v).map (·.1)).Nodup := by
  cases e : valV m k with
  | none => exact nd_putK _ nd e
  | some w =>
    unfold putK
    rw [valV_any, e, if_pos (show (some w).isSome = true from rfl), List.map_map]
    have : (fun x : Key × V => x.1) ∘ (fun kv : Key × V => if kv.1 = k then (kv.1, v) else kv) = fun x => x.1 := by
      funext p
      show (if p.1 = k then (p.1, v) else p).1 = p.1
      split <;> rfl
    rw [this]
    exact nd
def dcL (t : GT) (c k el : CE) (v : Ev) : List (Key × D) → List D → S3 → R (List (Key × D))
  | acc, [], S => .ok acc S
  | acc, d :: ds, S => match t d v S with
    | some (v1, S1) => (noEx (c v1 S1)).bind fun b S2 => match b with
      | .bl true => (noEx (k v1 S2)).bind fun x S3 => (noEx (el v1 S3)).bind fun y S4 => match keyOf x with
        | some kx => dcL t c k el v (putA acc kx y) ds S4
        | none => .bad
      | .bl false => dcL t c k el v acc ds S2
      | _ => .bad
    | none => .bad
def dcM (vs : List Nat) (src : CS) (t : GT) (c k el : CE) (fin : List (Key × D) → S3 → R D) : CE := fun v S => (src v S).bind fun p S1 => if p.1.length ≤ lim then (unlR p.2 (noEx (dcL t c k el (wipeD v vs) [] p.1 S1))).bind fin else .bad
theorem putA_len {κ α : Type} [DecidableEq κ] (j : κ) (x : α) : ∀ l : List (κ × α), (putA l j x).length ≤ l.length + 1
  | [] => Nat.le_refl _
  | (k, v) :: r => by
    unfold putA
    split
    · exact Nat.le_succ _
    · exact Nat.succ_le_succ (putA_len j x r)
theorem dc_rd {vs : List Nat} {src : CS} {t : GT} {sl : List Nat} {mt mk me : CE} {fin : List (Key × D) → S3 → R D} (hf : FinOk ca HO.dK (RepK ca) fin) (hsl : ∀ j, j ∈ sl → j ∈ vs) : ∀ σ H Q, rdE ca W (dcM vs src t mt mk me fin) σ H Q →
    tDc (rdI ca X W src) (rdG ca sl t) (tTest (rdE ca WF mt)) (rdE ca WF mk) (rdE ca WF me) vs σ H (fun x H1 => Q x H1 ∨ ∃ d od u, H1 d = some (.frz od u) ∧ (∀ o' u', X.H_0 d ≠ some (.frz o' u')) ∧ Q x (upd H1 d u)) := by
  rintro σ H Q ⟨v, S, g, s, e, h⟩
  refine ⟨v, S, g, s, e, ?_⟩
  unfold dcM at h
  cases q : src v S with
  | bad => rw [q] at h; exact h.elim
  | ex er S' => rw [q] at h; exact h
  | ok p S1 =>
    obtain ⟨ds, un⟩ := p
    rw [q] at h
    intro g1 H1 J lk le s1 wk D hD
    have h : Fin ca g H (if ds.length ≤ lim then (unlR un (noEx (dcL t mt mk me (wipeD v vs) [] ds S1))).bind fin else .bad) (fun d g' H' => ∀ x, Rep ca g' x d → Q x H') _ := h
    split at h
    · rename_i hz
      have h0 := lk.none hD
      have h1 := unlR_ok (QE' := fun _ _ _ => False) lk h
      clear h
      have e0 : EnvR ca g1 (wipeD v vs) (wipe σ vs) := (e.mono le).wipe vs
      let P : Nat → Hp → Prop := fun i H' => ∃ g' S' acc accV, Ext g1 H1 g' H' ∧ Sim ca g' S' H' ∧ Out g' D ∧ H' D = some (.dK accV) ∧ RepK ca g' accV acc ∧ (accV.map (·.1)).Nodup ∧ acc.length ≤ i ∧
        Fin ca g1 H1 (dcL t mt mk me (wipeD v vs) acc (ds.drop i) S') (fun a => Un2 X fun g2 H2 => ∃ S', Sim ca g2 S' H2 ∧ Ext g H g2 H2 ∧ Fin ca g H (fin a S') (fun d g' H' => ∀ x, Rep ca g' x d → Q x H') (fun e g' H' => ∀ cls od, RepX ca g' H' cls od e → W cls od σ H')) (fun _ _ _ => False)
      have start : P 0 (upd H1 D (.dK [])) := ⟨g1, S1, [], [], (Ext.refl g1 H1).upd hD _, s1.updOut (s1.freshOut hD), s1.freshOut hD, upd_same, .nil, List.nodup_nil, Nat.le_refl _, by rw [List.drop_zero]; exact h1⟩
      refine ⟨fun i m H' => m = ds.length - i ∧ i ≤ ds.length ∧ P i H', ⟨ds.length, by simp, Nat.zero_le _, start⟩, ?_⟩
      rintro i m H' ⟨rfl, hi, g', S', acc, accV, x', s', o', hD', r', nd, hl, h'⟩
      by_cases hlt : i < ds.length
      · refine .inr ⟨wk.go i g' H' S' hlt x'.w s', P (i + 1), fun H2 p2 => ⟨ds.length - (i + 1), by omega, rfl, hlt, p2⟩, fun x H2 y => ?_⟩
        obtain ⟨g2, x2, s2, r2⟩ := wk.yld i g' H' S' ds[i] x H2 (List.getElem?_eq_getElem hlt) x'.w s' y
        have x12 := x'.trans x2
        refine ⟨wipeD v vs, g2, S', ds[i], s2, e0.mono x12.le, r2, ?_⟩
        rw [List.drop_eq_getElem_cons hlt] at h'
        unfold dcL at h'
        cases qt : t ds[i] (wipeD v vs) S' with
        | none => rw [qt] at h'; exact h'.elim
        | some p =>
          obtain ⟨v1, S1'⟩ := p
          rw [qt] at h'
          refine fun g3 H3 x3 s3 σ3 e3 off => ⟨(wipe_off off hsl).trans (wipe_wipe vs), v1, S1', g3, s3, e3, ?_⟩
          dsimp only at h'
          refine (Fin.noEx (Fin.seqB h' (x12.trans x3))).imp (fun d g4 H4 x4 ⟨S4, s4, x4', x14, h4⟩ bv rb => ?_) fun _ _ _ _ z => z
          have xD : Ext g' H' g4 H4 := (x2.trans x3).trans x4
          have oD4 := xD.out o' (by rw [hD']; exact fun z => nomatch z)
          have hD4 := xD.rest D _ hD' o'
          split at h4
          · cases rb
            refine ⟨true, rfl, iteT ⟨v1, S4, g4, s4, e3.mono x4.le, ?_⟩⟩
            refine (Fin.noEx (Fin.seqB h4 x14)).imp (fun d5 g5 H5 x5 ⟨S5, s5, x5', x15, h5⟩ yv ry => ?_) fun _ _ _ _ z => z
            refine ⟨v1, S5, g5, s5, e3.mono (x4.trans x5).le, (Fin.noEx (Fin.seqB h5 x15)).imp (fun d6 g6 H6 x6 ⟨S6, s6, x6', x16, h6⟩ zv rz => ?_) fun _ _ _ _ z => z⟩
            have xx := x5.trans x6
            have hD6 := xx.rest D _ hD4 oD4
            have oD6 := xx.out oD4 (by rw [hD4]; exact fun z => nomatch z)
            have hl5 : accV.length = acc.length := r'.len
            have l0 : acc.length < lim := Nat.lt_of_lt_of_le (Nat.lt_of_le_of_lt hl hlt) hz
            split at h6
            · rename_i kx hk
              refine ⟨accV, kx, keyOf_rep ry hk, hD6, by rw [hl5]; exact Nat.lt_of_lt_of_le l0 lim_le, g6, S6, putA acc kx d6, putK accV kx zv, x16.upd hD _, s6.updOut oD6, oD6, upd_same, (r'.mono (xD.trans xx).le).put rz kx nd, nd_put (α := Nat) nd, Nat.le_trans (putA_len _ _ _) (Nat.succ_le_succ hl), h6⟩
            · exact h6.elim
          · cases rb
            exact ⟨false, rfl, iteF ⟨g4, S4, acc, accV, x14, s4, oD4, hD4, r'.mono xD.le, nd, Nat.le_succ_of_le hl, h4⟩⟩
          · exact h4.elim
      · have ei : i = ds.length := by omega
        subst ei
        rw [List.drop_length] at h'
        exact .inl ⟨wk.stop g' H' S' x'.w s', Un2.fin (mk := HO.dK) (rep := RepK ca) (fin := fin) (vs := accV) (ds := acc) hf (fun _ _ _ z => nomatch z) (h' g' H' x' s') h0 o' hD' r'⟩
    · exact h.elim
theorem sd_dc {kx vx iter : Expr} {ifs : List Expr} {scope : Scope} {own : List (Str × Nat)} {src : CS} {t : GT} {sl : List Nat} {mt mk me : CE} {fin : List (Key × D) → S3 → R D} (hf : FinOk ca HO.dK (RepK ca) fin) (hc : X.calm = true) (hN : X.N.Nodup) (hi : PI X tg iter (rdI ca X W src)) (ok : blkC X.N X.env.scope scope own = true)
    (hg : ∀ (s : Shared) (H : Hp) (C : Addr) (cl : List (Str × Addr)) (fp : List Addr), PG (X.blk s H scope (compEnvC scope cl C X.env) fp) tg (rdG ca sl t)) (ht : ∀ (s : Shared) (H : Hp) (C : Addr) (cl : List (Str × Addr)) (fp : List Addr), SDT ca (X.blk s H scope (compEnvC scope cl C X.env) fp) ifs mt)
    (hk : ∀ (s : Shared) (H : Hp) (C : Addr) (cl : List (Str × Addr)) (fp : List Addr), SD ca (X.blk s H scope (compEnvC scope cl C X.env) fp) WF kx mk)
    (he : ∀ (s : Shared) (H : Hp) (C : Addr) (cl : List (Str × Addr)) (fp : List Addr), SD ca (X.blk s H scope (compEnvC scope cl C X.env) fp) WF vx me) (hsl : ∀ j, j ∈ sl → j ∈ own.map (·.2) := by decide) (hs : ∀ x, foldedSetIterable iter X.env x = pure x := by intro _; rfl)
    (hw : ∀ whole, isTrue (.DictComp kx vx [⟨tg, iter, ifs, 0⟩] scope pos) X.env whole = (do let v ← whole; standAt (Expr.DictComp kx vx [⟨tg, iter, ifs, 0⟩] scope pos).pos; holding [v] (truthy v)) := by intro _; rfl) :
    SD ca X W (.DictComp kx vx [⟨tg, iter, ifs, 0⟩] scope pos) (dcM (own.map (·.2)) src t mt mk me fin) := .of (PE_imp (pe_unlA (pe_dc hc hN hi (blkOk_by ok) hg (fun s H C cl fp => (ht s H C cl fp).pts) (fun s H C cl fp => (hk s H C cl fp).pe) (fun s H C cl fp => (he s H C cl fp).pe) hs)) (dc_rd hf hsl)) hw
/-! ### two clauses -/
variable (ca)
def FinJ (W : WX) (g : Wld) (H : Hp) (σ : St) (Q : It → Hp → Prop) (r : R (List D × Option Nat)) : Prop := match r with
  | .ok (ds, none) S1 => ∀ g1 H1 J, Ext g H g1 H1 → Sim ca g1 S1 H1 → WalkD ca J g1 H1 ds → Q J H1
  | .ok (_, some _) _ => False
  | .ex e S' => ∀ g' H', Ext g H g' H' → Sim ca g' S' H' → ∀ cls od, RepX ca g' H' cls od e → W cls od σ H'
  | .bad => False
def rdJ (W : WX) (m : CS) : TI := fun σ H Q => ∃ v S g, Sim ca g S H ∧ EnvR ca g v σ ∧ FinJ ca W g H σ Q (m v S)
variable {ca}
theorem PI_imp {X : Cx} {tg e : Expr} {t t' : TI} (h : PI X tg e t) (i : ∀ σ H Q, t' σ H Q → t σ H Q) : PI X tg e t' := ⟨fun pins s σ H Q I q => h.run pins s σ H Q I (i σ H Q q)⟩
theorem pi_J {src : CS} (h : PI X tg e (rdI ca X W src)) : PI X tg e (rdJ ca W src) := PI_imp h fun σ H Q ⟨v, S, g, s, e, h⟩ => by
  refine ⟨v, S, g, s, e, ?_⟩
  revert h
  cases src v S with
  | ok p S1 =>
    obtain ⟨ds, un⟩ := p
    cases un with
    | none => exact fun h g1 H1 J lk _ s1 wk => h g1 H1 J lk s1 wk
    | some n => exact fun h => h.elim
  | ex e S => exact fun h => h
  | bad => exact fun h => h
/-- the inner items -/
def lc2L (t : GT) (c : CE) (v : Ev) (vs1 : List Nat) (src1 : CS) (t1 : GT) (c1 el : CE) : List D → S3 → R (List D)
  | [], S => .ok [] S
  | d :: ds, S => match t d v S with
    | some (v1, S1) => (noEx (c v1 S1)).bind fun b S2 => match b with
      | .bl true => (noEx (src1 v1 S2)).bind fun p S3 => match p.2 with
        | none => if p.1.length ≤ 1000 then (lcL t1 c1 el (wipeD v1 vs1) p.1 S3).bind fun ys S4 => (lc2L t c v vs1 src1 t1 c1 el ds S4).bind fun zs S5 => .ok (ys ++ zs) S5 else .bad
        | some _ => .bad
      | .bl false => lc2L t c v vs1 src1 t1 c1 el ds S2
      | _ => .bad
    | none => .bad
def lc2M (vs : List Nat) (src : CS) (t : GT) (c : CE) (vs1 : List Nat) (src1 : CS) (t1 : GT) (c1 el : CE) (fin : List D → S3 → R D) : CE := fun v S => (src v S).bind fun p S1 => if p.1.length ≤ 1000 then (unlR p.2 (noEx (lc2L t c (wipeD v vs) vs1 src1 t1 c1 el p.1 S1))).bind fin else .bad
theorem bind_app {r : R (List D)} {f : List D → S3 → R (List D)} (h : ∀ a S, f a S = f a S) : r.bind f = r.bind f := rfl
theorem lc2_rd {vs vs1 : List Nat} {src src1 : CS} {t t1 : GT} {sl sl1 : List Nat} {mt mt1 me : CE} {fin : List D → S3 → R D} (hf : FinOk ca HO.lst (RepL ca) fin) (hsl : ∀ j, j ∈ sl → j ∈ vs) (hsl1 : ∀ j, j ∈ sl1 → j ∈ vs1) : ∀ σ H Q, rdE ca W (lc2M vs src t mt vs1 src1 t1 mt1 me fin) σ H Q →
    tLc2 (rdI ca X W src) (rdG ca sl t) (tTest (rdE ca WF mt)) (rdJ ca WF src1) (rdG ca sl1 t1) (tTest (rdE ca WF mt1)) (rdE ca WF me) vs vs1 σ H (fun x H1 => Q x H1 ∨ ∃ d od u, H1 d = some (.frz od u) ∧ (∀ o' u', X.H_0 d ≠ some (.frz o' u')) ∧ Q x (upd H1 d u)) := by
  rintro σ H Q ⟨v, S, g, s, e, h⟩
  refine ⟨v, S, g, s, e, ?_⟩
  unfold lc2M at h
  cases q : src v S with
  | bad => rw [q] at h; exact h.elim
  | ex er S' => rw [q] at h; exact h
  | ok p S1 =>
    obtain ⟨ds, un⟩ := p
    rw [q] at h
    intro g1 H1 J lk le s1 wk D hD
    have h : Fin ca g H (if ds.length ≤ 1000 then (unlR un (noEx (lc2L t mt (wipeD v vs) vs1 src1 t1 mt1 me ds S1))).bind fin else .bad) (fun d g' H' => ∀ x, Rep ca g' x d → Q x H') _ := h
    split at h
    · rename_i hz
      have h0 := lk.none hD
      have h1 := unlR_ok (QE' := fun _ _ _ => False) lk h
      clear h
      have e0 : EnvR ca g1 (wipeD v vs) (wipe σ vs) := (e.mono le).wipe vs
      generalize hQO : (fun a => Un2 X fun g2 H2 => ∃ S', Sim ca g2 S' H2 ∧ Ext g H g2 H2 ∧ Fin ca g H (fin a S') (fun d g' H' => ∀ x, Rep ca g' x d → Q x H') (fun e g' H' => ∀ cls od, RepX ca g' H' cls od e → W cls od σ H')) = QO at h1
      let P : Nat → Hp → Prop := fun i H' => ∃ g' S' acc accV, Ext g1 H1 g' H' ∧ Sim ca g' S' H' ∧ Out g' D ∧ H' D = some (.lst accV) ∧ RepL ca g' accV acc ∧ acc.length ≤ i * 1000 ∧
        Fin ca g1 H1 ((lc2L t mt (wipeD v vs) vs1 src1 t1 mt1 me (ds.drop i) S').bind fun ys S4 => .ok (acc ++ ys) S4) QO (fun _ _ _ => False)
      have start : P 0 (upd H1 D (.lst [])) := by
        refine ⟨g1, S1, [], [], (Ext.refl g1 H1).upd hD _, s1.updOut (s1.freshOut hD), s1.freshOut hD, upd_same, .nil, Nat.zero_le _, ?_⟩
        rw [List.drop_zero]
        revert h1
        cases lc2L t mt (wipeD v vs) vs1 src1 t1 mt1 me ds S1 with
        | ok a S => exact fun h1 => h1
        | ex a S => exact fun h1 => h1
        | bad => exact fun h1 => h1
      refine ⟨fun i m H' => m = ds.length - i ∧ i ≤ ds.length ∧ P i H', ⟨ds.length, by simp, Nat.zero_le _, start⟩, ?_⟩
      rintro i m H' ⟨rfl, hi, g', S', acc, accV, x', s', o', hD', r', hl, h'⟩
      by_cases hlt : i < ds.length
      · refine .inr ⟨wk.go i g' H' S' hlt x'.w s', P (i + 1), fun H2 p2 => ⟨ds.length - (i + 1), by omega, rfl, hlt, p2⟩, fun x H2 y => ?_⟩
        obtain ⟨g2, x2, s2, r2⟩ := wk.yld i g' H' S' ds[i] x H2 (List.getElem?_eq_getElem hlt) x'.w s' y
        have x12 := x'.trans x2
        refine ⟨wipeD v vs, g2, S', ds[i], s2, e0.mono x12.le, r2, ?_⟩
        rw [List.drop_eq_getElem_cons hlt] at h'
        unfold lc2L at h'
        cases qt : t ds[i] (wipeD v vs) S' with
        | none => rw [qt] at h'; exact h'.elim
        | some p =>
          obtain ⟨v1, S1'⟩ := p
          rw [qt] at h'
          refine fun g3 H3 x3 s3 σ3 e3 off => ⟨(wipe_off off hsl).trans (wipe_wipe vs), v1, S1', g3, s3, e3, ?_⟩
          dsimp only at h'
          rw [R.bind_assoc] at h'
          refine (Fin.noEx (Fin.seqB h' (x12.trans x3))).imp (fun d g4 H4 x4 ⟨S4, s4, x4', x14, h4⟩ bv rb => ?_) fun _ _ _ _ z => z
          have xD : Ext g' H' g4 H4 := (x2.trans x3).trans x4
          have oD4 := xD.out o' (by rw [hD']; exact fun z => nomatch z)
          have hD4 := xD.rest D _ hD' o'
          split at h4
          · cases rb
            refine ⟨true, rfl, iteT ⟨v1, S4, g4, s4, e3.mono x4.le, ?_⟩⟩
            cases q1 : src1 v1 S4 with
            | bad => rw [q1] at h4; exact h4.elim
            | ex er S5 => rw [q1] at h4; exact h4.elim
            | ok p1 S5 =>
              obtain ⟨ds1, un1⟩ := p1
              rw [q1] at h4
              cases un1 with
              | some n => exact h4.elim
              | none =>
                intro g5 H5 J1 x5 s5 wk1
                have h4 : Fin ca g1 H1 (R.bind (if ds1.length ≤ 1000 then (lcL t1 mt1 me (wipeD v1 vs1) ds1 S5).bind fun ys S4 => (lc2L t mt (wipeD v vs) vs1 src1 t1 mt1 me (ds.drop (i + 1)) S4).bind fun zs S5 => .ok (ys ++ zs) S5 else .bad) fun ys S4 => .ok (acc ++ ys) S4) QO (fun _ _ _ => False) := h4
                split at h4
                · rename_i hz1
                  have xD5 : Ext g' H' g5 H5 := xD.trans x5
                  have oD5 := xD5.out o' (by rw [hD']; exact fun z => nomatch z)
                  have hD5 := xD5.rest D _ hD' o'
                  have e5 : EnvR ca g5 (wipeD v1 vs1) (wipe σ3 vs1) := (e3.mono (x4.trans x5).le).wipe vs1
                  let P1 : Nat → Hp → Prop := fun j H' => ∃ g' S' acc accV, Ext g1 H1 g' H' ∧ ExtW g5 H5 g' H' ∧ Sim ca g' S' H' ∧ Out g' D ∧ H' D = some (.lst accV) ∧ RepL ca g' accV acc ∧ acc.length ≤ i * 1000 + j ∧
                    Fin ca g1 H1 ((lcL t1 mt1 me (wipeD v1 vs1) (ds1.drop j) S').bind fun ys S4 => (lc2L t mt (wipeD v vs) vs1 src1 t1 mt1 me (ds.drop (i + 1)) S4).bind fun zs S5 => .ok (acc ++ (ys ++ zs)) S5) QO (fun _ _ _ => False)
                  have start1 : P1 0 H5 := by
                    refine ⟨g5, S5, acc, accV, x14.trans x5, .refl _ _, s5, oD5, hD5, r'.mono xD5.le, hl, ?_⟩
                    rw [List.drop_zero]
                    rw [R.bind_assoc] at h4
                    have ef : (fun (a : List M3.D) (S : S3) => ((lc2L t mt (wipeD v vs) vs1 src1 t1 mt1 me (ds.drop (i + 1)) S).bind fun zs S5 => R.ok (a ++ zs) S5).bind fun ys S4 => R.ok (acc ++ ys) S4) = fun ys S4 => (lc2L t mt (wipeD v vs) vs1 src1 t1 mt1 me (ds.drop (i + 1)) S4).bind fun zs S5 => .ok (acc ++ (ys ++ zs)) S5 := by
                      funext a S
                      rw [R.bind_assoc]
                      rfl
                    rw [ef] at h4
                    exact h4
                  refine ⟨fun j k H' => k = ds1.length - j ∧ j ≤ ds1.length ∧ P1 j H', ⟨ds1.length, by simp, Nat.zero_le _, start1⟩, ?_⟩
                  rintro j k H6 ⟨rfl, hj, g6, S6, acc6, accV6, x6, w6, s6, o6, hD6, r6, hl6, h6⟩
                  by_cases hjlt : j < ds1.length
                  · refine .inr ⟨wk1.go j g6 H6 S6 hjlt w6 s6, P1 (j + 1), fun H2 p2 => ⟨ds1.length - (j + 1), by omega, rfl, hjlt, p2⟩, fun x H7 y => ?_⟩
                    obtain ⟨g7, x7, s7, r7⟩ := wk1.yld j g6 H6 S6 ds1[j] x H7 (List.getElem?_eq_getElem hjlt) w6 s6 y
                    have w7 := w6.trans x7
                    refine ⟨wipeD v1 vs1, g7, S6, ds1[j], s7, e5.mono w7.le, r7, ?_⟩
                    rw [List.drop_eq_getElem_cons hjlt] at h6
                    unfold lcL at h6
                    cases qt1 : t1 ds1[j] (wipeD v1 vs1) S6 with
                    | none => rw [qt1] at h6; exact h6.elim
                    | some p =>
                      obtain ⟨v8, S8⟩ := p
                      rw [qt1] at h6
                      refine fun g8 H8 x8 s8 σ8 e8 off8 => ⟨(wipe_off off8 hsl1).trans (wipe_wipe vs1), v8, S8, g8, s8, e8, ?_⟩
                      dsimp only at h6
                      rw [R.bind_assoc] at h6
                      refine (Fin.noEx (Fin.seqB h6 ((x6.trans x7).trans x8))).imp (fun d g9 H9 x9 ⟨S9, s9, x9', x19, h9⟩ bv rb => ?_) fun _ _ _ _ z => z
                      have xE : Ext g6 H6 g9 H9 := (x7.trans x8).trans x9
                      have oD9 := xE.out o6 (by rw [hD6]; exact fun z => nomatch z)
                      have hD9 := xE.rest D _ hD6 o6
                      split at h9
                      · cases rb
                        refine ⟨true, rfl, iteT ⟨v8, S9, g9, s9, e8.mono x9.le, ?_⟩⟩
                        rw [R.bind_assoc] at h9
                        refine (Fin.noEx (Fin.seqB h9 x19)).imp (fun d10 g10 H10 x10 ⟨S10, s10, x10', x110, h10⟩ yv ry => ?_) fun _ _ _ _ z => z
                        have hD10 := x10.rest D _ hD9 oD9
                        have oD10 := x10.out oD9 (by rw [hD9]; exact fun z => nomatch z)
                        have hlen : accV6.length = acc6.length := r6.len
                        have l0 : acc6.length < lim := by
                          have : i < 1000 := Nat.lt_of_lt_of_le hlt hz
                          have : j < 1000 := Nat.lt_of_lt_of_le hjlt hz1
                          unfold lim
                          omega
                        refine ⟨accV6, hD10, by rw [hlen]; exact Nat.lt_of_lt_of_le l0 lim_le, g10, S10, acc6 ++ [d10], accV6 ++ [yv], x110.upd hD _, ((w6.trans xE).trans x10).upd hD10 (fun _ _ z => nomatch z) _, s10.updOut oD10, oD10, upd_same, (r6.mono (xE.trans x10).le).app (.cons ry .nil), by rw [List.length_append]; exact Nat.succ_le_succ hl6, ?_⟩
                        rw [R.bind_assoc] at h10
                        revert h10
                        cases lcL t1 mt1 me (wipeD v1 vs1) (ds1.drop (j + 1)) S10 with
                        | ok a S =>
                          intro h10
                          show Fin ca g1 H1 ((lc2L t mt (wipeD v vs) vs1 src1 t1 mt1 me (ds.drop (i + 1)) S).bind fun zs S5 => .ok (acc6 ++ [d10] ++ (a ++ zs)) S5) _ _
                          have ef : (fun (zs : List M3.D) (S5 : S3) => R.ok (acc6 ++ [d10] ++ (a ++ zs)) S5) = fun zs S5 => R.ok (acc6 ++ ((d10 :: a) ++ zs)) S5 := by
                            funext zs S5
                            rw [List.append_assoc]
                            rfl
                          rw [ef]
                          exact h10
                        | ex a S => exact fun h => h
                        | bad => exact fun h => h
                      · cases rb
                        exact ⟨false, rfl, iteF ⟨g9, S9, acc6, accV6, x19, w6.trans xE, s9, oD9, hD9, r6.mono xE.le, Nat.le_succ_of_le hl6, h9⟩⟩
                      · exact h9.elim
                  · have ej : j = ds1.length := by omega
                    subst ej
                    rw [List.drop_length] at h6
                    refine .inl ⟨wk1.stop g6 H6 S6 w6 s6, g6, S6, acc6, accV6, x6, s6, o6, hD6, r6, ?_, ?_⟩
                    · have : acc6.length ≤ i * 1000 + ds1.length := hl6
                      omega
                    · exact h6
                · exact h4.elim
          · cases rb
            exact ⟨false, rfl, iteF ⟨g4, S4, acc, accV, x14, s4, oD4, hD4, r'.mono xD.le, by omega, h4⟩⟩
          · exact h4.elim
      · have ei : i = ds.length := by omega
        subst ei
        rw [List.drop_length] at h'
        have h' : Fin ca g1 H1 (.ok (acc ++ []) S') _ _ := h'
        rw [List.append_nil] at h'
        subst hQO
        exact .inl ⟨wk.stop g' H' S' x'.w s', Un2.fin (mk := HO.lst) (rep := RepL ca) (fin := fin) (vs := accV) (ds := acc) hf (fun _ _ _ z => nomatch z) (h' g' H' x' s') h0 o' hD' r'⟩
    · exact h.elim
theorem sd_lc2 {elt iter tg1 iter1 : Expr} {ifs ifs1 : List Expr} {scope : Scope} {own : List (Str × Nat)} {vs1 : List Nat} {src src1 : CS} {t t1 : GT} {sl sl1 : List Nat} {mt mt1 me : CE} {fin : List D → S3 → R D} (hf : FinOk ca HO.lst (RepL ca) fin) (hc : X.calm = true) (hN : X.N.Nodup) (hi : PI X tg iter (rdI ca X W src)) (ok : blkC X.N X.env.scope scope own = true) (hv : ∀ i ∈ vs1, i ∈ own.map (·.2))
    (hg : ∀ (s : Shared) (H : Hp) (C : Addr) (cl : List (Str × Addr)) (fp : List Addr), PG (X.blk s H scope (compEnvC scope cl C X.env) fp) tg (rdG ca sl t)) (ht : ∀ (s : Shared) (H : Hp) (C : Addr) (cl : List (Str × Addr)) (fp : List Addr), SDT ca (X.blk s H scope (compEnvC scope cl C X.env) fp) ifs mt)
    (hi1 : ∀ (s : Shared) (H : Hp) (C : Addr) (cl : List (Str × Addr)) (fp : List Addr), PI (X.blk s H scope (compEnvC scope cl C X.env) fp) tg1 iter1 (rdI ca (X.blk s H scope (compEnvC scope cl C X.env) fp) WF src1))
    (hg1 : ∀ (s : Shared) (H : Hp) (C : Addr) (cl : List (Str × Addr)) (fp : List Addr), PG (X.blk s H scope (compEnvC scope cl C X.env) fp) tg1 (rdG ca sl1 t1)) (ht1 : ∀ (s : Shared) (H : Hp) (C : Addr) (cl : List (Str × Addr)) (fp : List Addr), SDT ca (X.blk s H scope (compEnvC scope cl C X.env) fp) ifs1 mt1)
    (he : ∀ (s : Shared) (H : Hp) (C : Addr) (cl : List (Str × Addr)) (fp : List Addr), SD ca (X.blk s H scope (compEnvC scope cl C X.env) fp) WF elt me) (hsl : ∀ j, j ∈ sl → j ∈ own.map (·.2) := by decide) (hsl1 : ∀ j, j ∈ sl1 → j ∈ vs1 := by decide) (hs : ∀ x, foldedSetIterable iter X.env x = pure x := by intro _; rfl) (hs1 : ∀ env x, foldedSetIterable iter1 env x = pure x := by intro _ _; rfl)
    (hw : ∀ whole, isTrue (.ListComp elt [⟨tg, iter, ifs, 0⟩, ⟨tg1, iter1, ifs1, 0⟩] scope pos) X.env whole = (do let v ← whole; standAt (Expr.ListComp elt [⟨tg, iter, ifs, 0⟩, ⟨tg1, iter1, ifs1, 0⟩] scope pos).pos; holding [v] (truthy v)) := by intro _; rfl) :
    SD ca X W (.ListComp elt [⟨tg, iter, ifs, 0⟩, ⟨tg1, iter1, ifs1, 0⟩] scope pos) (lc2M (own.map (·.2)) src t mt vs1 src1 t1 mt1 me fin) := .of (PE_imp (pe_unlA (pe_lc2 hc hN hi (blkOk_by ok) hv hg (fun s H C cl fp => (ht s H C cl fp).pts) (fun s H C cl fp => pi_J (hi1 s H C cl fp)) hg1 (fun s H C cl fp => (ht1 s H C cl fp).pts) (fun s H C cl fp => (he s H C cl fp).pe) hs hs1)) (lc2_rd hf hsl hsl1)) hw
end
end M3
/-! M3M: defs, calls. -/
namespace M3
open PySem L2
variable {ca : CAK}
/-! ### what a body's context has -/
structure CO (ca : CAK) (X : Cx) (W : WX) (k : Nat) : Prop where
  hK : X.K = ca.K
  calm : X.calm = true
  nd : X.N.Nodup
  tk : Takes X W
  ow : PassesOwn (model X.prog X.w) X.A X.env X.xe
  rm : Room k X.A
structure COT (ca : CAK) (X : Cx) (W : WX) (k : Nat) : Prop extends CO ca X W k where
  stk : X.stack = X.env :: X.outer
  fr : X.env.frame = some X.env.locals
theorem CO.hu {X : Cx} {W : WX} {k : Nat} (c : CO ca X W k) : X.A.units + 1 < cLine := by have := c.rm.units; omega
theorem CO.hu64 {X : Cx} {W : WX} {k : Nat} (c : CO ca X W k) : X.A.units + 64 < cLine := c.rm.units
theorem CO.blk {X : Cx} {W : WX} {k : Nat} (c : CO ca X W k) (s : Shared) (H : Hp) (scope : Scope) (cenv : Env) (fp : List Addr) : CO ca (X.blk s H scope cenv fp) WF k :=
  ⟨c.hK, c.calm, c.nd, fun u s' ⟨_, _, _, _, _, _, _, _, _, _, _, _, _, _, _, _, h⟩ => h.elim, .never, c.rm⟩
theorem COT.tr {X : Cx} {W W' : WX} {k : Nat} (c : COT ca X W k) {pn : List (Addr × Obj)} {xe : Value → Shared → Prop} (tk : Takes (X.tr pn xe) W') (ow : PassesOwn (model X.prog X.w) X.A X.env xe) : COT ca (X.tr pn xe) W' k :=
  ⟨⟨c.hK, c.calm, c.nd, tk, ow, c.rm⟩, c.stk, c.fr⟩
section
variable {P : Program} {w : World} {K : PySem.W.Frag} {mg : Str → Option Value} {base : Heap}
abbrev WD (E : XK) : WX := fun cls d _ H => E cls d H
theorem COT.of {N ps : List Str} {qual : Str} {scope : Scope} {f : Addr} {cdv : Value} {A : Around} {outer : List Env} {s : Shared} {H : Hp} {E : XK} {k : Nat} (hK : K = ca.K) (S : FnScope N ps scope) (hr : Room k (A.deeper (PyProof.Rows.envOfC qual scope s.heap.objs.size f cdv))) :
    COT ca (cxOf (L2.CX P w) P w K mg base N qual scope f cdv A outer s H E) (WD E) k :=
  ⟨⟨hK, rfl, S.nd, takes_of rfl rfl rfl rfl, passes_of rfl, hr⟩, rfl, rfl⟩
/-! ### promises -/
variable (ca)
def spM (m : Fn) : Sp := fun vs H Q E => ∃ ds S g, Sim ca g S H ∧ RepL ca g vs ds ∧ Fin ca g H (m ds S) (fun d g' H' => ∀ x, Rep ca g' x d → Q x H') (fun e g' H' => ∀ cls od, RepX ca g' H' cls od e → E cls od H')
variable {ca}
def endM (r : SR) : R D := match r with
  | .nx _ S => .ok .non S
  | .rt d S => .ok d S
  | .ex e _ S => .ex e S
  | _ => .bad
/-- a def: np parameters, n slots -/
def bodyM (np n : Nat) (b : SC) : Fn := fun ds S => if ds.length = np then endM (b (ds.map some ++ List.replicate (n - ds.length) none) S) else .bad
theorem start_rep {g : Wld} {N : List Str} {vs : List V} {ds : List D} (r : RepL ca g vs ds) : EnvR ca g (ds.map some ++ List.replicate (N.length - ds.length) none) (L2.start N vs) := by
  have hl := r.len
  refine ⟨by unfold L2.start; simp [hl], fun i d h => ?_⟩
  by_cases hi : i < ds.length
  · rw [List.getElem?_append_left (by simpa using hi), List.getElem?_map] at h
    obtain ⟨d', hd, e⟩ := Option.map_eq_some_iff.mp h
    cases e
    obtain ⟨v, hv, rv⟩ := r.get hd
    refine ⟨v, ?_, rv⟩
    unfold L2.start
    rw [List.getElem?_append_left (by rw [List.length_map, hl]; exact hi), List.getElem?_map, hv]
    rfl
  · rw [List.getElem?_append_right (by simpa using hi)] at h
    have := List.mem_of_getElem? h
    rw [List.mem_replicate] at this
    exact absurd this.2 (by simp)
theorem bodyM_fin {np n : Nat} {b : SC} {g : Wld} {H : Hp} {N : List Str} {vs : List V} {ds : List D} {S : S3} {Q : VK} {E : XK} (hn : N.length = n) (s : Sim ca g S H) (r : RepL ca g vs ds)
    (h : Fin ca g H (bodyM np n b ds S) (fun d g' H' => ∀ x, Rep ca g' x d → Q x H') (fun e g' H' => ∀ cls od, RepX ca g' H' cls od e → E cls od H')) :
    rdS ca (WD E) b { nx := fun _ H' => Q .non H', rt := Q } (L2.start N vs) H := by
  unfold bodyM at h
  split at h
  · refine ⟨_, S, g, s, start_rep r, ?_⟩
    rw [hn]
    revert h
    cases b (ds.map some ++ List.replicate (n - ds.length) none) S with
    | nx v S' => exact fun h g' H' σ' x s' e => h g' H' x s' _ .non
    | rt d S' => exact fun h => h
    | ex e v S' => exact fun h g' H' σ' x s' _ => h g' H' x s'
    | _ => exact fun h => h.elim
  · exact h.elim
theorem fn_okM {x qual : Str} {params : Arguments} {body : List Stmt} {scope : Scope} {dvs : List V} {kws : List (Str × V)} {f : Addr} {fd : FuncData} {N ps : List Str} {k n : Nat} {b : SC} (hK : K = ca.K) (F : FunD K x qual params body scope dvs kws f fd) (S : FnScope N ps scope) (hn : N.length = n)
    (hb : ∀ (cdv : Value) (A : Around) (outer : List Env) (s : Shared) (H : Hp) (E : XK), COT ca (cxOf (L2.CX P w) P w K mg base N qual scope f cdv A outer s H E) (WD E) k → PSs (cxOf (L2.CX P w) P w K mg base N qual scope f cdv A outer s H E) body (rdS ca (WD E) b)) :
    FnOk P w K mg base (L2.CX P w) (k + 1) f fd ps (spM ca (bodyM ps.length n b)) := by
  refine F.ok S (fun vs H Q E ⟨ds, S3, g, s, r, h⟩ => ?_) fun cdv A outer s H vs Q E hr ⟨ds, S3, g, sm, r, h⟩ => ⟨_, hb cdv A outer s H E (.of hK S hr), bodyM_fin hn sm r h⟩
  rw [r.len]
  unfold bodyM at h
  split at h
  · assumption
  · exact h.elim
end
/-! ### calls -/
section
variable {X : Cx} {W : WX} {e o : Expr} {es : List Expr} {mo : CE} {ms mk : CA} {m : Fn} {k c : Nat} {f : Addr} {fd : FuncData} {ps ks : List Str} {dvs : List V} {dds : List D} {ds : List Value} {x mn : Str} {p pos apos : Pos}
/-- defaults: numbers, texts, None -/
structure Dfl (ca : CAK) (K : PySem.W.Frag) (fd : FuncData) (ps : List Str) (dds : List D) : Prop where
  ex : ∃ (dvs : List V) (ds : List Value), Binds K fd ps ds ∧ Vals dvs ds ∧ ∀ g : Wld, RepL ca g dvs dds
def callM (ms : CA) (m : Fn) (dds : List D) : CE := fun v S => (ms v S).bind fun xs S1 => m (xs ++ dds) S1
theorem sp_of {g : Wld} {S : S3} {H : Hp} {σ : St} {vs : List V} {xs : List D} {Q : VK} (s : Sim ca g S H) (r : RepL ca g vs xs) (h : Fin ca g H (m xs S) (fun d g' H' => ∀ x, Rep ca g' x d → Q x H') (fun e g' H' => ∀ cls od, RepX ca g' H' cls od e → W cls od σ H')) : spM ca m vs H Q (WE W σ) := ⟨xs, S, g, s, r, h⟩
theorem sd_call {j : Nat} (C : CO ca X W k) (F : FnOk X.prog X.w X.K X.mg X.base (L2.CX X.prog X.w) j f fd ps (spM ca m)) (hj : j ≤ k) (hm : X.mg x = some (.ref f)) (hk : PySem.W.keepIn X.K (.ref f) = true) (hb : Dfl ca X.K fd ps dds) (ha : PA X (e :: es) (rdA ca W ms))
    (hg : Gl X x := by rfl) (hdb : (x == ("__debug__" : Str)) = false := by decide) (he : starEach (e :: es) X.env = (false, eval e X.env) :: starEach es X.env := by rfl) (hpl : (backTo pos (starEach es X.env)).any (·.1) = false := by rfl)
    (hw : ∀ whole, isTrue (.Call (.Name x p) (e :: es) [] pos) X.env whole = (do let v ← whole; standAt (Expr.Call (.Name x p) (e :: es) [] pos).pos; holding [v] (truthy v)) := by intro _; rfl) :
    SD ca X W (.Call (.Name x p) (e :: es) [] pos) (callM ms m dds) := by
  obtain ⟨dvs, ds, hb, hd, rd⟩ := hb.ex
  refine .of (PE_imp (pe_callSD F (C.rm.mono hj) hg hm hk hb hd (passAt C.tk) ha hdb he hpl) ?_) hw
  rintro σ H Q ⟨v, S, g, s, e, h⟩
  exact ⟨v, S, g, s, e, (Fin.seq h).imp (fun xs g1 H1 x1 ⟨S1, s1, h1⟩ vs rv => sp_of s1 (rv.app (rd g1)) h1) fun _ _ _ _ z => z⟩
/-! ### methods -/
def methM (c : Nat) (mn : Str) (mo : CE) (ms : CA) (m : Fn) (dds : List D) : CE := fun v S => (mo v S).bind fun o S1 => match insOf S1 o with
  | some (c', fs) => if c' = c ∧ getA fs mn = none then (ms v S1).bind fun xs S2 => m (o :: (xs ++ dds)) S2 else .bad
  | none => .bad
def tMethS (C : Addr) (m : Str) (sp : Sp) (dvs : List V) (E : St → XK) (ta : TE) (t : TA) : TE := fun σ H Q => ta σ H fun x H1 => ∃ a dx fs, x = .ref a ∧ H1 a = some (.ins C dx fs) ∧ fs.lookup m = none ∧
  t σ H1 fun vs H2 => sp (x :: (vs ++ dvs)) H2 Q (E σ)
theorem pe_methSD {CX : CXT} {C : Addr} {sp : Sp} {E : St → XK} {ta : TE} {t : TA} {pl : Sem Bool} (he : PE X o ta) (c : Cls X.K C) (hm : Meth X.K C mn f) (F : FnOk X.prog X.w X.K X.mg X.base CX k f fd ps sp) (hr : Room k X.A) (hb : Binds X.K fd ps ds) (hd : Vals dvs ds) (hx : ∀ σ, PassesAt CX X σ (E σ)) (ha : PA X (e :: es) t)
    (hst : starEach (e :: es) X.env = (false, eval e X.env) :: starEach es X.env := by rfl) (hpl : (backTo pos (starEach es X.env)).any (·.1) = false := by rfl)
    (ht : eval (.Call (.Attribute o mn apos) (e :: es) [] pos) X.env = (do
      let ov ← eval o X.env
      standAt apos.atName
      let (f, first) ← holding [ov] (getMethod ov mn pl)
      callWith pos f first (backTo pos (starEach (e :: es) X.env)) (backToKw pos (keywordEach [] X.env))) := by rfl) :
    PE X (.Call (.Attribute o mn apos) (e :: es) [] pos) (tMethS C mn sp dvs E ta t) := by
  refine ⟨fun pins s σ H Q I h => ?_⟩
  refine PySem.W.methodCall_KW (pl := pl) (thn (he.run pins s σ H _ I h) fun u s1 ⟨x, H1, I1, rx, a, dx, fs, ex, ea, l, q⟩ => ?_) ht
  subst ex
  obtain rfl : u = Value.ref a := rx
  refine getmeth_ok I1 ea c hm l ?_
  refine PySem.W.callWith_K (first := [.ref a]) (h₀ := X.base) I.ok.mod.kin hm.kp (thn (ha.run pos pins s1 σ H1 _ I1 q) fun us s2 ⟨vs, H2, I2, r, q2⟩ => ⟨I2.kIn, ?_⟩) hst hpl
  exact run_fnSD (us := .ref a :: us) (vs := .ref a :: vs) F hr hb hd (hx σ) I2 (.cons rfl r) q2
theorem pe_methSD0 {CX : CXT} {C : Addr} {sp : Sp} {E : St → XK} {ta : TE} {pl : Sem Bool} (he : PE X o ta) (c : Cls X.K C) (hm : Meth X.K C mn f) (F : FnOk X.prog X.w X.K X.mg X.base CX k f fd ps sp) (hr : Room k X.A) (hb : Binds X.K fd ps ds) (hd : Vals dvs ds) (hx : ∀ σ, PassesAt CX X σ (E σ))
    (ht : eval (.Call (.Attribute o mn apos) [] [] pos) X.env = (do
      let ov ← eval o X.env
      standAt apos.atName
      let (f, first) ← holding [ov] (getMethod ov mn pl)
      callWith pos f first (backTo pos (starEach [] X.env)) (backToKw pos (keywordEach [] X.env))) := by rfl) :
    PE X (.Call (.Attribute o mn apos) [] [] pos) (tMethS C mn sp dvs E ta tNil) := by
  refine ⟨fun pins s σ H Q I h => ?_⟩
  refine PySem.W.methodCall_KW (pl := pl) (thn (he.run pins s σ H _ I h) fun u s1 ⟨x, H1, I1, rx, a, dx, fs, ex, ea, l, q⟩ => ?_) ht
  subst ex
  obtain rfl : u = Value.ref a := rx
  refine getmeth_ok I1 ea c hm l ?_
  exact PySem.W.callWith_K0 (first := [.ref a]) I1.kIn hm.kp (run_fnSD (us := [.ref a]) (vs := [.ref a]) F hr hb hd (hx σ) I1 (.cons rfl .nil) q)
theorem rd_meth (dvs : List V) (rd : ∀ g : Wld, RepL ca g dvs dds) : ∀ σ H Q, rdE ca W (methM c mn mo ms m dds) σ H Q → tMethS (ca c) mn (spM ca m) dvs (WE W) (rdE ca W mo) (rdA ca W ms) σ H Q := by
  rintro σ H Q ⟨v, S, g, s, e, h⟩
  refine ⟨v, S, g, s, e, (Fin.seq h).imp (fun o g1 H1 x1 ⟨S1, s1, h1⟩ ov ro => ?_) fun _ _ _ _ z => z⟩
  split at h1
  · rename_i c' fs hi
    split at h1
    · rename_i hc
      obtain ⟨rfl, hn⟩ := hc
      obtain ⟨p, dx, ws, rfl, hp, rf⟩ := s1.ins ro hi
      refine ⟨p, dx, ws, rfl, hp, rf.none hn, v, S1, g1, s1, e.mono x1.le, (Fin.seq h1).imp (fun xs g2 H2 x2 ⟨S2, s2, h2⟩ vs rv => ?_) fun _ _ _ _ z => z⟩
      exact sp_of s2 (.cons (ro.mono x2.le) (rv.app (rd g2))) h2
    · exact h1.elim
  · exact h1.elim
theorem sd_meth {j : Nat} {pl : Sem Bool} (C : CO ca X W k) (ho : SD ca X W o mo) (hc : Cls X.K (ca c)) (hm : Meth X.K (ca c) mn f) (F : FnOk X.prog X.w X.K X.mg X.base (L2.CX X.prog X.w) j f fd ps (spM ca m)) (hj : j ≤ k) (hb : Dfl ca X.K fd ps dds) (ha : PA X (e :: es) (rdA ca W ms))
    (hst : starEach (e :: es) X.env = (false, eval e X.env) :: starEach es X.env := by rfl) (hpl : (backTo pos (starEach es X.env)).any (·.1) = false := by rfl)
    (ht : eval (.Call (.Attribute o mn apos) (e :: es) [] pos) X.env = (do
      let ov ← eval o X.env
      standAt apos.atName
      let (f, first) ← holding [ov] (getMethod ov mn pl)
      callWith pos f first (backTo pos (starEach (e :: es) X.env)) (backToKw pos (keywordEach [] X.env))) := by rfl)
    (hw : ∀ whole, isTrue (.Call (.Attribute o mn apos) (e :: es) [] pos) X.env whole = (do let v ← whole; standAt (Expr.Call (.Attribute o mn apos) (e :: es) [] pos).pos; holding [v] (truthy v)) := by intro _; rfl) :
    SD ca X W (.Call (.Attribute o mn apos) (e :: es) [] pos) (methM c mn mo ms m dds) := by
  obtain ⟨dvs, ds, hb, hd, rd⟩ := hb.ex
  exact .of (PE_imp (pe_methSD ho.pe hc hm F (C.rm.mono hj) hb hd (passAt C.tk) ha hst hpl ht) (rd_meth dvs rd)) hw
theorem sd_meth0 {j : Nat} {pl : Sem Bool} (C : CO ca X W k) (ho : SD ca X W o mo) (hc : Cls X.K (ca c)) (hm : Meth X.K (ca c) mn f) (F : FnOk X.prog X.w X.K X.mg X.base (L2.CX X.prog X.w) j f fd ps (spM ca m)) (hj : j ≤ k) (hb : Dfl ca X.K fd ps dds)
    (ht : eval (.Call (.Attribute o mn apos) [] [] pos) X.env = (do
      let ov ← eval o X.env
      standAt apos.atName
      let (f, first) ← holding [ov] (getMethod ov mn pl)
      callWith pos f first (backTo pos (starEach [] X.env)) (backToKw pos (keywordEach [] X.env))) := by rfl)
    (hw : ∀ whole, isTrue (.Call (.Attribute o mn apos) [] [] pos) X.env whole = (do let v ← whole; standAt (Expr.Call (.Attribute o mn apos) [] [] pos).pos; holding [v] (truthy v)) := by intro _; rfl) :
    SD ca X W (.Call (.Attribute o mn apos) [] [] pos) (methM c mn mo aNil m dds) := by
  obtain ⟨dvs, ds, hb, hd, rd⟩ := hb.ex
  refine .of (PE_imp (pe_methSD0 ho.pe hc hm F (C.rm.mono hj) hb hd (passAt C.tk) ht) fun σ H Q h => ?_) hw
  have h2 := rd_meth dvs rd σ H Q h
  obtain ⟨v, S, g, s, e, hf⟩ := h2
  refine ⟨v, S, g, s, e, hf.imp (fun o g1 H1 x1 q xv rx => ?_) fun _ _ _ _ z => z⟩
  obtain ⟨a, dx, fs, e1, e2, e3, v', S', g', s', e', h'⟩ := q xv rx
  exact ⟨a, dx, fs, e1, e2, e3, h' g' H1 (.refl _ _) s' [] .nil⟩
/-! ### instances made -/
def makeM (c : Nat) (ms : CA) (m : Fn) (dds : List D) : CE := fun v S => (ms v S).bind fun xs S1 => (m (.cell S1.nx :: (xs ++ dds)) (S1.new (.ins c []))).bind fun r S2 => match r with
  | .non => .ok (.cell S1.nx) S2
  | _ => .bad
def tMakeS (C : Addr) (sp : Sp) (dvs : List V) (E : St → XK) (t : TA) : TE := fun σ H Q => t σ H fun vs H1 => ∀ x dx, H1 x = none → H1 dx = none → dx ≠ x →
  sp (.ref x :: (vs ++ dvs)) (upd (upd H1 dx (.own x)) x (.ins C dx [])) (fun v H2 => v = .non ∧ Q (.ref x) H2) (E σ)
theorem run_makeS {CX : CXT} {C : Addr} {sp : Sp} {E : XK} {pins : List (Addr × Obj)} {σ : St} {H : Hp} {s : Shared} {Q : VK} {us : List Value} {vs : List V} (M : Mk X.K C f) (F : FnOk X.prog X.w X.K X.mg X.base CX k f fd ps sp) (hr : Room (k + 1) X.A) (hb : Binds X.K fd ps ds) (hd : Vals dvs ds)
    (hx : PassesAt CX X σ E) (I : Inv X pins σ H s) (r : Vals vs us)
    (h : ∀ x dx, H x = none → H dx = none → dx ≠ x → sp (.ref x :: (vs ++ dvs)) (upd (upd H dx (.own x)) x (.ins C dx [])) (fun v H2 => v = .non ∧ Q (.ref x) H2) E) :
    wpAny (model X.prog X.w) X.A (call (.ref C) us) (EP X pins σ Q) X.xe s := by
  have hq := h (s.heap.objs.size + 1) s.heap.objs.size (I.hok.fresh (Nat.le_succ _)) (I.hok.fresh (Nat.le_refl _)) (Nat.ne_of_lt (Nat.lt_succ_self _))
  have I2 := Inv.made (C := C) I
  have r2 : Vals (V.ref (s.heap.objs.size + 1) :: (vs ++ dvs)) (Value.ref (s.heap.objs.size + 1) :: (us ++ ds)) := .cons rfl (r.append hd)
  have hl : (Value.ref (s.heap.objs.size + 1) :: us ++ ds).length = ps.length := by
    have e := r2.length
    rw [F.len _ _ _ _ hq] at e
    exact e.symm
  refine wpAny_call (make_map (f := f) I.kIn M.makes M.init (beq_iff_eq.mp M.fn) (codeAny_mono (F.run _ X.stack _ _ ⟨Value.ref (s.heap.objs.size + 1) :: us, []⟩ (Value.ref (s.heap.objs.size + 1) :: (us ++ ds)) _ _ E (hr.make C us [])
    (I2.env0.make C us []) (hb _ (Value.ref (s.heap.objs.size + 1) :: us) I2.kIn hl) r2 hq) fun r s' hq' => ?_))
  cases r with
  | error e => exact hx pins _ _ e s' I2 hq'
  | ok fl =>
    cases fl with
    | ret u =>
      obtain ⟨v, H', I3, rv, ev, q3⟩ := I2.after hq'
      subst ev
      exact ⟨rv, ⟨V.ref (s.heap.objs.size + 1), H', I3, rfl, q3⟩⟩
    | next => exact False.elim hq'
    | brk => exact False.elim hq'
    | cont => exact False.elim hq'
theorem pe_makeS {CX : CXT} {C : Addr} {sp : Sp} {E : St → XK} {t : TA} (M : Mk X.K C f) (F : FnOk X.prog X.w X.K X.mg X.base CX k f fd ps sp) (hr : Room (k + 1) X.A) (hg : Gl X x) (hm : X.mg x = some (.ref C)) (hb : Binds X.K fd ps ds) (hd : Vals dvs ds) (hx : ∀ σ, PassesAt CX X σ (E σ))
    (ha : PA X (e :: es) t) (hdb : (x == ("__debug__" : Str)) = false := by decide) (he : starEach (e :: es) X.env = (false, eval e X.env) :: starEach es X.env := by rfl) (hpl : (backTo pos (starEach es X.env)).any (·.1) = false := by rfl) :
    PE X (.Call (.Name x p) (e :: es) [] pos) (tMakeS C sp dvs E t) := by
  refine ⟨fun pins s σ H Q I h => ?_⟩
  refine wpAny_Call_Name_kw (ld_glob I hg hm ?_ hdb)
  refine PySem.W.callWith_K (h₀ := X.base) I.ok.mod.kin M.kp (thn (ha.run pos pins s σ H _ I h) fun us s1 ⟨vs, H1, I1, r, q⟩ => ⟨I1.kIn, ?_⟩) he hpl
  exact run_makeS M F hr hb hd (hx σ) I1 r q
theorem make_ok {g : Wld} {S : S3} {H : Hp} {σ : St} {vs : List V} {xs : List D} {Q : VK} (rd : ∀ g : Wld, RepL ca g dvs dds) (s : Sim ca g S H) (r : RepL ca g vs xs)
    (h : Fin ca g H ((m (.cell S.nx :: (xs ++ dds)) (S.new (.ins c []))).bind fun r S2 => match r with
      | .non => .ok (.cell S.nx) S2
      | _ => .bad) (fun d g' H' => ∀ x, Rep ca g' x d → Q x H') (fun e g' H' => ∀ cls od, RepX ca g' H' cls od e → W cls od σ H')) (x dx : Addr) (hx : H x = none) (hdx : H dx = none) (hne : dx ≠ x) :
    spM ca m (.ref x :: (vs ++ dvs)) (upd (upd H dx (.own x)) x (.ins (ca c) dx [])) (fun v H2 => v = .non ∧ Q (.ref x) H2) (WE W σ) := by
  have x1 : Ext g H g (upd H dx (.own x)) := (Ext.refl g H).upd hdx _
  have s1 : Sim ca g S (upd H dx (.own x)) := s.updOut (s.freshOut hdx)
  have hx1 : (upd H dx (.own x)) x = none := by rw [upd_ne (Ne.symm hne)]; exact hx
  have x2 := x1.trans (s1.extCell (u := .ins (ca c) dx []) hx1)
  have s2 := s1.cell (ob := .ins c []) (u := .ins (ca c) dx []) hx1 (.ins .nil)
  have le := x2.le
  have hph : (g.cell x).ph[S.nx]? = some x := by rw [← s.len]; exact get_snoc _ _
  refine ⟨_, _, _, s2, .cons (.cell hph) ((r.mono le).app (rd _)), ?_⟩
  refine (Fin.seqB h x2).imp (fun d g3 H3 x3 ⟨S3, s3, _, x03, h3⟩ v rv => ?_) fun _ _ _ _ z => z
  split at h3
  · cases rv
    exact ⟨rfl, h3 g3 H3 x03 s3 _ (.cell (x3.le.ph _ _ hph))⟩
  · exact h3.elim
theorem sd_make {j : Nat} (C : CO ca X W k) (M : Mk X.K (ca c) f) (F : FnOk X.prog X.w X.K X.mg X.base (L2.CX X.prog X.w) j f fd ps (spM ca m)) (hj : j + 1 ≤ k) (hm : X.mg x = some (.ref (ca c))) (hb : Dfl ca X.K fd ps dds) (ha : PA X (e :: es) (rdA ca W ms))
    (hg : Gl X x := by rfl) (hdb : (x == ("__debug__" : Str)) = false := by decide) (he : starEach (e :: es) X.env = (false, eval e X.env) :: starEach es X.env := by rfl) (hpl : (backTo pos (starEach es X.env)).any (·.1) = false := by rfl)
    (hw : ∀ whole, isTrue (.Call (.Name x p) (e :: es) [] pos) X.env whole = (do let v ← whole; standAt (Expr.Call (.Name x p) (e :: es) [] pos).pos; holding [v] (truthy v)) := by intro _; rfl) :
    SD ca X W (.Call (.Name x p) (e :: es) [] pos) (makeM c ms m dds) := by
  obtain ⟨dvs, ds, hb, hd, rd⟩ := hb.ex
  refine .of (PE_imp (pe_makeS M F (C.rm.mono hj) hg hm hb hd (passAt C.tk) ha hdb he hpl) ?_) hw
  rintro σ H Q ⟨v, S, g, s, e, h⟩
  exact ⟨v, S, g, s, e, (Fin.seq h).imp (fun xs g1 H1 x1 ⟨S1, s1, h1⟩ vs rv => make_ok rd s1 rv h1) fun _ _ _ _ z => z⟩
end
end M3
/-! M3N: comprehensions assigned on their line, what is never come to, try, calls by their promises. -/
namespace M3
open PySem L2
variable {ca : CAK}
section
variable {X : Cx} {W : WX} {e a b c tg : Expr} {m ma mb mc : CE} {ms : CA} {pos p apos cpos tpos spos py : Pos} {elts : List Expr} {kk : Nat}
theorem ss_setLc {i : Nat} {y : Str} {elt iter : Expr} {ifs : List Expr} {scope : Scope} {own : List (Str × Nat)} {src : CS} {t : GT} {sl : List Nat} {mt me : CE} {fin : List D → S3 → R D} (hf : FinOk ca HO.lst (RepL ca) fin) (hc : X.calm = true) (hN : X.N.Nodup) (hi : PI X tg iter (rdI ca X W src)) (ok : blkC X.N X.env.scope scope own = true)
    (hg : ∀ (s : Shared) (H : Hp) (C : Addr) (cl : List (Str × Addr)) (fp : List Addr), PG (X.blk s H scope (compEnvC scope cl C X.env) fp) tg (rdG ca sl t)) (ht : ∀ (s : Shared) (H : Hp) (C : Addr) (cl : List (Str × Addr)) (fp : List Addr), SDT ca (X.blk s H scope (compEnvC scope cl C X.env) fp) ifs mt)
    (he : ∀ (s : Shared) (H : Hp) (C : Addr) (cl : List (Str × Addr)) (fp : List Addr), SD ca (X.blk s H scope (compEnvC scope cl C X.env) fp) WF elt me) (hsl : ∀ j, j ∈ sl → j ∈ own.map (·.2) := by decide)
    (hy : X.N[i]? = some y := by rfl) (hyl : X.env.scope.names.lookup y = some .local := by rfl) (hk : X.env.scope.kind = .function := by rfl) (hl : (py.line == pos.line) = true := by rfl) (ha : (scope.names.any fun (n, k) => n == y && (k == .local || k == .cell)) = false := by rfl)
    (hs : ∀ x, foldedSetIterable iter X.env x = pure x := by intro _; rfl) :
    PS X (.Assign [.Name y py] (.ListComp elt [⟨tg, iter, ifs, 0⟩] scope pos) spos) (rdS ca W (asgS (lcM' (own.map (·.2)) src t mt me fin) (asgN i))) :=
  PS_imp (ps_unlA (ps_setLc hc hN hy hyl (sw_true hk hyl hl ha) hi (blkOk_by ok) hg (fun s H C cl fp => (ht s H C cl fp).pts) (fun s H C cl fp => (he s H C cl fp).pe) hs)) fun D σ H ⟨v, S, g, s, e, h⟩ =>
    lc_rd (X := X) (W := W) hf hsl σ H (fun x H1 => D.nx (σ.set i (some x)) H1) ⟨v, S, g, s, e, (FinS.ofE h e).imp (fun d g1 H1 x1 ⟨S1, s1, h1⟩ x r => h1.now s1 ((e.mono x1.le).set i r)) fun _ _ _ _ z => z⟩
theorem ss_setLc2 {i : Nat} {y : Str} {elt iter tg1 iter1 : Expr} {ifs ifs1 : List Expr} {scope : Scope} {own : List (Str × Nat)} {vs1 : List Nat} {src src1 : CS} {t t1 : GT} {sl sl1 : List Nat} {mt mt1 me : CE} {fin : List D → S3 → R D} (hf : FinOk ca HO.lst (RepL ca) fin) (hc : X.calm = true) (hN : X.N.Nodup) (hi : PI X tg iter (rdI ca X W src)) (ok : blkC X.N X.env.scope scope own = true) (hv : ∀ i ∈ vs1, i ∈ own.map (·.2))
    (hg : ∀ (s : Shared) (H : Hp) (C : Addr) (cl : List (Str × Addr)) (fp : List Addr), PG (X.blk s H scope (compEnvC scope cl C X.env) fp) tg (rdG ca sl t)) (ht : ∀ (s : Shared) (H : Hp) (C : Addr) (cl : List (Str × Addr)) (fp : List Addr), SDT ca (X.blk s H scope (compEnvC scope cl C X.env) fp) ifs mt)
    (hi1 : ∀ (s : Shared) (H : Hp) (C : Addr) (cl : List (Str × Addr)) (fp : List Addr), PI (X.blk s H scope (compEnvC scope cl C X.env) fp) tg1 iter1 (rdI ca (X.blk s H scope (compEnvC scope cl C X.env) fp) WF src1))
    (hg1 : ∀ (s : Shared) (H : Hp) (C : Addr) (cl : List (Str × Addr)) (fp : List Addr), PG (X.blk s H scope (compEnvC scope cl C X.env) fp) tg1 (rdG ca sl1 t1)) (ht1 : ∀ (s : Shared) (H : Hp) (C : Addr) (cl : List (Str × Addr)) (fp : List Addr), SDT ca (X.blk s H scope (compEnvC scope cl C X.env) fp) ifs1 mt1)
    (he : ∀ (s : Shared) (H : Hp) (C : Addr) (cl : List (Str × Addr)) (fp : List Addr), SD ca (X.blk s H scope (compEnvC scope cl C X.env) fp) WF elt me) (hsl : ∀ j, j ∈ sl → j ∈ own.map (·.2) := by decide) (hsl1 : ∀ j, j ∈ sl1 → j ∈ vs1 := by decide)
    (hy : X.N[i]? = some y := by rfl) (hyl : X.env.scope.names.lookup y = some .local := by rfl) (hk : X.env.scope.kind = .function := by rfl) (hl : (py.line == pos.line) = true := by rfl) (ha : (scope.names.any fun (n, k) => n == y && (k == .local || k == .cell)) = false := by rfl)
    (hs : ∀ x, foldedSetIterable iter X.env x = pure x := by intro _; rfl) (hs1 : ∀ env x, foldedSetIterable iter1 env x = pure x := by intro _ _; rfl) :
    PS X (.Assign [.Name y py] (.ListComp elt [⟨tg, iter, ifs, 0⟩, ⟨tg1, iter1, ifs1, 0⟩] scope pos) spos) (rdS ca W (asgS (lc2M (own.map (·.2)) src t mt vs1 src1 t1 mt1 me fin) (asgN i))) :=
  PS_imp (ps_unlA (ps_setLc2 hc hN hy hyl (sw_true hk hyl hl ha) hi (blkOk_by ok) hv hg (fun s H C cl fp => (ht s H C cl fp).pts) (fun s H C cl fp => pi_J (hi1 s H C cl fp)) hg1 (fun s H C cl fp => (ht1 s H C cl fp).pts) (fun s H C cl fp => (he s H C cl fp).pe) hs hs1)) fun D σ H ⟨v, S, g, s, e, h⟩ =>
    lc2_rd (X := X) (W := W) hf hsl hsl1 σ H (fun x H1 => D.nx (σ.set i (some x)) H1) ⟨v, S, g, s, e, (FinS.ofE h e).imp (fun d g1 H1 x1 ⟨S1, s1, h1⟩ x r => h1.now s1 ((e.mono x1.le).set i r)) fun _ _ _ _ z => z⟩
theorem swd_true {kx vx : Expr} {gs : List Comprehension} {scope : Scope} {y : Str} {l : Nat} {env : Env} (hk : env.scope.kind = .function) (hy : env.scope.names.lookup y = some .local) (hl : (py.line == pos.line) = true)
    (ha : (scope.names.any fun (n, k) => n == y && (k == .local || k == .cell)) = false) : swapsWith (.DictComp kx vx gs scope pos) (some (.Name y py)) l env = pure true := by
  have ky : env.kindOf y = some .local := hy
  have hb : env.blockKind = .function := by unfold Env.blockKind; rw [hk]; rfl
  unfold swapsWith
  simp only [hb, ky, ha, Expr.pos, hl]
  rfl
theorem ps_setDc {i : Nat} {y : Str} {kx vx iter : Expr} {ifs : List Expr} {scope : Scope} {own : List (Str × Nat)} {wi : TI} {g : TG} {tt : TT} {tk tv : TE} (hc : X.calm = true) (hN : X.N.Nodup) (hy : X.N[i]? = some y) (hyl : X.env.scope.names.lookup y = some .local)
    (hsw : swapsWith (.DictComp kx vx [⟨tg, iter, ifs, 0⟩] scope pos) (some (.Name y py)) spos.line X.env = pure true) (hi : PI X tg iter wi) (ok : BlkOk X.N X.env.scope scope own)
    (hg : ∀ (s : Shared) (H : Hp) (C : Addr) (cl : List (Str × Addr)) (fp : List Addr), PG (X.blk s H scope (compEnvC scope cl C X.env) fp) tg g) (ht : ∀ (s : Shared) (H : Hp) (C : Addr) (cl : List (Str × Addr)) (fp : List Addr), PTs (X.blk s H scope (compEnvC scope cl C X.env) fp) ifs tt)
    (hk : ∀ (s : Shared) (H : Hp) (C : Addr) (cl : List (Str × Addr)) (fp : List Addr), PE (X.blk s H scope (compEnvC scope cl C X.env) fp) kx tk)
    (he : ∀ (s : Shared) (H : Hp) (C : Addr) (cl : List (Str × Addr)) (fp : List Addr), PE (X.blk s H scope (compEnvC scope cl C X.env) fp) vx tv) (hs : ∀ x, foldedSetIterable iter X.env x = pure x := by intro _; rfl) :
    PS X (.Assign [.Name y py] (.DictComp kx vx [⟨tg, iter, ifs, 0⟩] scope pos) spos) (tAsg (tDc wi g tt tk tv (own.map (·.2))) (gName i)) := by
  refine ⟨fun pins s σ H D I h => ?_⟩
  rw [PySem.exec_Assign_Name_used _ _ _ _ hsw]
  refine wpAny_bind (wpAny_standAt (wpAny_bind ?_))
  show wpAny _ X.A (do let _ ← comprehension (.DictComp kx vx [⟨tg, iter, ifs, 0⟩] scope pos) scope X.env (firstIterPos [⟨tg, iter, ifs, 0⟩] pos) newDict false (eval iter X.env) (some (assign (.Name y py) X.env))) _ _ s
  have h : tDc wi g tt tk tv (own.map (·.2)) σ H (fun x H1 => gName i x σ H1 D.nx) := h
  refine wpAny_bind (thn (dc_core (Qf := fun _ s' => SP X pins D .next s') hc hN I hi ok hg ht hk he hs h fun L C s' m H' I' q hn f => ?_) fun _ s' hq => wpAny_pure (wpAny_pure hq))
  show wpAny _ _ (assign (.Name y py) X.env (.ref L)) _ _ _
  refine wpAny_assign_Name (store_ok2 (v := V.ref L) I' hN hy (.inl hyl) rfl (fun s2 I2 ⟨a, sb, ha⟩ => ?_) (.inr hyl))
  obtain ⟨f0, f1, f2, f3, f4, f5⟩ := f
  have haC : C ≠ a := by
    rcases ha with z | z
    · rw [z]; exact f1
    · exact fun e => f4 y a z e.symm
  refine ⟨m, hn.sameBut sb haC, fun h3 sb3 => ?_⟩
  exact ⟨_, H', I2.turned (t' := s2.toks) (fun b o hb e => (sb3.2 b hb).trans e) f0 f1 f3 f4 f5, q⟩
theorem ss_setDc {i : Nat} {y : Str} {kx vx iter : Expr} {ifs : List Expr} {scope : Scope} {own : List (Str × Nat)} {src : CS} {t : GT} {sl : List Nat} {mt mk me : CE} {fin : List (Key × D) → S3 → R D} (hf : FinOk ca HO.dK (RepK ca) fin) (hc : X.calm = true) (hN : X.N.Nodup) (hi : PI X tg iter (rdI ca X W src)) (ok : blkC X.N X.env.scope scope own = true)
    (hg : ∀ (s : Shared) (H : Hp) (C : Addr) (cl : List (Str × Addr)) (fp : List Addr), PG (X.blk s H scope (compEnvC scope cl C X.env) fp) tg (rdG ca sl t)) (ht : ∀ (s : Shared) (H : Hp) (C : Addr) (cl : List (Str × Addr)) (fp : List Addr), SDT ca (X.blk s H scope (compEnvC scope cl C X.env) fp) ifs mt)
    (hkx : ∀ (s : Shared) (H : Hp) (C : Addr) (cl : List (Str × Addr)) (fp : List Addr), SD ca (X.blk s H scope (compEnvC scope cl C X.env) fp) WF kx mk)
    (he : ∀ (s : Shared) (H : Hp) (C : Addr) (cl : List (Str × Addr)) (fp : List Addr), SD ca (X.blk s H scope (compEnvC scope cl C X.env) fp) WF vx me) (hsl : ∀ j, j ∈ sl → j ∈ own.map (·.2) := by decide)
    (hy : X.N[i]? = some y := by rfl) (hyl : X.env.scope.names.lookup y = some .local := by rfl) (hk : X.env.scope.kind = .function := by rfl) (hl : (py.line == pos.line) = true := by rfl) (ha : (scope.names.any fun (n, k) => n == y && (k == .local || k == .cell)) = false := by rfl)
    (hs : ∀ x, foldedSetIterable iter X.env x = pure x := by intro _; rfl) :
    PS X (.Assign [.Name y py] (.DictComp kx vx [⟨tg, iter, ifs, 0⟩] scope pos) spos) (rdS ca W (asgS (dcM (own.map (·.2)) src t mt mk me fin) (asgN i))) :=
  PS_imp (ps_unlA (ps_setDc hc hN hy hyl (swd_true hk hyl hl ha) hi (blkOk_by ok) hg (fun s H C cl fp => (ht s H C cl fp).pts) (fun s H C cl fp => (hkx s H C cl fp).pe) (fun s H C cl fp => (he s H C cl fp).pe) hs)) fun D σ H ⟨v, S, g, s, e, h⟩ =>
    dc_rd (X := X) (W := W) hf hsl σ H (fun x H1 => D.nx (σ.set i (some x)) H1) ⟨v, S, g, s, e, (FinS.ofE h e).imp (fun d g1 H1 x1 ⟨S1, s1, h1⟩ x r => h1.now s1 ((e.mono x1.le).set i r)) fun _ _ _ _ z => z⟩
/-! ### what is never come to -/
def nvS : SC := fun _ _ => .bad
def nvE : CE := fun _ _ => .bad
theorem ss_nv {st : Stmt} : PS X st (rdS ca W nvS) := PS_imp ps_never fun D σ H ⟨v, S, g, s, e, h⟩ => h
theorem sss_nv {st : List Stmt} : PSs X st (rdS ca W nvS) := PSs_imp pss_never fun D σ H ⟨v, S, g, s, e, h⟩ => h
theorem sd_nv : SD ca X W e nvE := ⟨⟨fun _ _ _ _ _ _ ⟨v, S, g, s, e, h⟩ => h.elim⟩, ⟨fun _ _ _ _ _ _ ⟨v, S, g, s, e, h⟩ => h.elim⟩⟩
/-! ### try whose body lets nothing out -/
def thruM (b : SC) : SC := fun v S => match b v S with
  | .ex _ _ _ => .bad
  | r => r
theorem ss_thru {body : List Stmt} {hs : List ExceptHandler} {h0 : ExceptHandler} {s1 : SC} (hb : PSs X.nox body (rdS ca WF s1)) : PS X (.Try body (h0 :: hs) [] [] pos) (rdS ca W (thruM s1)) := PS_imp (ps_try_thru0 hb) fun D σ H ⟨v, S, g, s, e, h⟩ => by
  refine ⟨v, S, g, s, e, ?_⟩
  unfold thruM at h
  revert h
  cases s1 v S <;> first | exact fun h => h | exact fun h => h.elim
theorem COT.nox {k : Nat} (c : COT ca X W k) : COT ca X.nox WF k := ⟨⟨c.hK, c.calm, c.nd, fun u s' ⟨_, _, _, _, _, _, _, _, _, _, _, _, _, _, _, _, h⟩ => h.elim, .never, c.rm⟩, c.stk, c.fr⟩
end
/-! ### calls by their promises -/
section
variable {P : Program} {w : World} {K : PySem.W.Frag} {mg : Str → Option Value} {base : Heap}
/-- a def of the module -/
structure CalF (ca : CAK) (P : Program) (w : World) (K : PySem.W.Frag) (mg : Str → Option Value) (base : Heap) (k : Nat) (x : Str) (m : Fn) (dds : List D) : Prop where
  ex : ∃ (f : Addr) (fd : FuncData) (ps : List Str), FnOk P w K mg base (L2.CX P w) k f fd ps (spM ca m) ∧ mg x = some (.ref f) ∧ PySem.W.keepIn K (.ref f) = true ∧ Dfl ca K fd ps dds
/-- a method -/
structure CalM (ca : CAK) (P : Program) (w : World) (K : PySem.W.Frag) (mg : Str → Option Value) (base : Heap) (k c : Nat) (mn : Str) (m : Fn) (dds : List D) : Prop where
  ex : ∃ (f : Addr) (fd : FuncData) (ps : List Str), FnOk P w K mg base (L2.CX P w) k f fd ps (spM ca m) ∧ Cls K (ca c) ∧ Meth K (ca c) mn f ∧ Dfl ca K fd ps dds
/-- a class, by its __init__ -/
structure CalC (ca : CAK) (P : Program) (w : World) (K : PySem.W.Frag) (mg : Str → Option Value) (base : Heap) (k c : Nat) (x : Str) (m : Fn) (dds : List D) : Prop where
  ex : ∃ (f : Addr) (fd : FuncData) (ps : List Str), FnOk P w K mg base (L2.CX P w) k f fd ps (spM ca m) ∧ mg x = some (.ref (ca c)) ∧ Mk K (ca c) f ∧ Dfl ca K fd ps dds
end
section
variable {X : Cx} {W : WX} {e o : Expr} {es : List Expr} {mo : CE} {ms mk : CA} {m : Fn} {k j c : Nat} {dds : List D} {x mn : Str} {p pos apos : Pos}
theorem sd_callF (C : CO ca X W k) (F : CalF ca X.prog X.w X.K X.mg X.base j x m dds) (hj : j ≤ k) (ha : PA X (e :: es) (rdA ca W ms))
    (hg : Gl X x := by rfl) (hdb : (x == ("__debug__" : Str)) = false := by decide) (he : starEach (e :: es) X.env = (false, eval e X.env) :: starEach es X.env := by rfl) (hpl : (backTo pos (starEach es X.env)).any (·.1) = false := by rfl)
    (hw : ∀ whole, isTrue (.Call (.Name x p) (e :: es) [] pos) X.env whole = (do let v ← whole; standAt (Expr.Call (.Name x p) (e :: es) [] pos).pos; holding [v] (truthy v)) := by intro _; rfl) :
    SD ca X W (.Call (.Name x p) (e :: es) [] pos) (callM ms m dds) := by
  obtain ⟨f, fd, ps, F, hm, hk, hd⟩ := F.ex
  exact sd_call C F hj hm hk hd ha hg hdb he hpl hw
theorem sd_methF {pl : Sem Bool} (C : CO ca X W k) (F : CalM ca X.prog X.w X.K X.mg X.base j c mn m dds) (hj : j ≤ k) (ho : SD ca X W o mo) (ha : PA X (e :: es) (rdA ca W ms))
    (hst : starEach (e :: es) X.env = (false, eval e X.env) :: starEach es X.env := by rfl) (hpl : (backTo pos (starEach es X.env)).any (·.1) = false := by rfl)
    (ht : eval (.Call (.Attribute o mn apos) (e :: es) [] pos) X.env = (do
      let ov ← eval o X.env
      standAt apos.atName
      let (f, first) ← holding [ov] (getMethod ov mn pl)
      callWith pos f first (backTo pos (starEach (e :: es) X.env)) (backToKw pos (keywordEach [] X.env))) := by rfl)
    (hw : ∀ whole, isTrue (.Call (.Attribute o mn apos) (e :: es) [] pos) X.env whole = (do let v ← whole; standAt (Expr.Call (.Attribute o mn apos) (e :: es) [] pos).pos; holding [v] (truthy v)) := by intro _; rfl) :
    SD ca X W (.Call (.Attribute o mn apos) (e :: es) [] pos) (methM c mn mo ms m dds) := by
  obtain ⟨f, fd, ps, F, hc, hm, hd⟩ := F.ex
  exact sd_meth C ho hc hm F hj hd ha hst hpl ht hw
theorem sd_methF0 {pl : Sem Bool} (C : CO ca X W k) (F : CalM ca X.prog X.w X.K X.mg X.base j c mn m dds) (hj : j ≤ k) (ho : SD ca X W o mo)
    (ht : eval (.Call (.Attribute o mn apos) [] [] pos) X.env = (do
      let ov ← eval o X.env
      standAt apos.atName
      let (f, first) ← holding [ov] (getMethod ov mn pl)
      callWith pos f first (backTo pos (starEach [] X.env)) (backToKw pos (keywordEach [] X.env))) := by rfl)
    (hw : ∀ whole, isTrue (.Call (.Attribute o mn apos) [] [] pos) X.env whole = (do let v ← whole; standAt (Expr.Call (.Attribute o mn apos) [] [] pos).pos; holding [v] (truthy v)) := by intro _; rfl) :
    SD ca X W (.Call (.Attribute o mn apos) [] [] pos) (methM c mn mo aNil m dds) := by
  obtain ⟨f, fd, ps, F, hc, hm, hd⟩ := F.ex
  exact sd_meth0 C ho hc hm F hj hd ht hw
theorem sd_makeF (C : CO ca X W k) (F : CalC ca X.prog X.w X.K X.mg X.base j c x m dds) (hj : j + 1 ≤ k) (ha : PA X (e :: es) (rdA ca W ms))
    (hg : Gl X x := by rfl) (hdb : (x == ("__debug__" : Str)) = false := by decide) (he : starEach (e :: es) X.env = (false, eval e X.env) :: starEach es X.env := by rfl) (hpl : (backTo pos (starEach es X.env)).any (·.1) = false := by rfl)
    (hw : ∀ whole, isTrue (.Call (.Name x p) (e :: es) [] pos) X.env whole = (do let v ← whole; standAt (Expr.Call (.Name x p) (e :: es) [] pos).pos; holding [v] (truthy v)) := by intro _; rfl) :
    SD ca X W (.Call (.Name x p) (e :: es) [] pos) (makeM c ms m dds) := by
  obtain ⟨f, fd, ps, F, hm, hM, hd⟩ := F.ex
  exact sd_make C hM F hj hm hd ha hg hdb he hpl hw
/-! ### fields: which classes -/
theorem hC1 {K : PySem.W.Frag} {c : Nat} {f : Str} (h1 : Cls K (ca c)) (h2 : NoAttr K (ca c) f) : ∀ c', [c].contains c' = true → Cls K (ca c') ∧ NoAttr K (ca c') f := fun c' h => by
  have : c' = c := by simpa using h
  subst this
  exact ⟨h1, h2⟩
theorem hCc {K : PySem.W.Frag} {c : Nat} {l : List Nat} {f : Str} (h1 : Cls K (ca c)) (h2 : NoAttr K (ca c) f) (r : ∀ c', l.contains c' = true → Cls K (ca c') ∧ NoAttr K (ca c') f) : ∀ c', (c :: l).contains c' = true → Cls K (ca c') ∧ NoAttr K (ca c') f := fun c' h => by
  rw [List.contains_cons, Bool.or_eq_true] at h
  rcases h with h | h
  · have : c' = c := by simpa using h
    subst this
    exact ⟨h1, h2⟩
  · exact r c' h
end
end M3
/-! M3O: more of the text. -/
namespace M3
open PySem L2
variable {ca : CAK}
section
variable {X : Cx} {W : WX} {e a b o : Expr} {es : List Expr} {m ma mb mo : CE} {ms : CA} {pos p apos cpos : Pos}
/-! ### numbers -/
theorem sd_neg {i : Int} {j : Nat} {p1 : Pos} (hw : ∀ whole, isTrue (.UnaryOp .USub (.Constant (.int i) j p1) pos) X.env whole = (do let v ← whole; standAt (Expr.UnaryOp .USub (.Constant (.int i) j p1) pos).pos; holding [v] (truthy v)) := by intro _; rfl) : SD ca X W (.UnaryOp .USub (.Constant (.int i) j p1) pos) (xc (.int (-i))) := .of (PE_imp (pe_un un_neg (pe_int (X := X))) fun σ H Q ⟨v, S, g, s, e, h⟩ => ⟨_, rfl, h g H (.refl _ _) s _ (.int _)⟩) hw
def iaddF : O2 := fun x y S => match x, y with
  | .int i, .int j => some (.int (i + j), S)
  | _, _ => none
def isubF : O2 := fun x y S => match x, y with
  | .int i, .int j => some (.int (i - j), S)
  | _, _ => none
theorem in_addF : InOp X .Add (rdO2 ca iaddF) := by
  rintro pins s σ H x y u v Q I rx ry ⟨g, S, d, e, sm, rd, re, h⟩
  unfold iaddF at h
  split at h
  · cases rd; cases re
    exact in_add pins s σ H _ _ u v Q I rx ry ⟨_, _, rfl, rfl, h.now sm _ (.int _)⟩
  · exact h.elim
theorem in_subF : InOp X .Sub (rdO2 ca isubF) := by
  rintro pins s σ H x y u v Q I rx ry ⟨g, S, d, e, sm, rd, re, h⟩
  unfold isubF at h
  split at h
  · cases rd; cases re
    exact in_sub pins s σ H _ _ u v Q I rx ry ⟨_, _, rfl, rfl, h.now sm _ (.int _)⟩
  · exact h.elim
def augM (i : Nat) (op : O2) (me : CE) : SC := fun v S => match v[i]? with
  | some (some x) => (me v S).bindS v fun y S1 => match op x y S1 with
    | some (z, S2) => .nx (v.set i (some z)) S2
    | none => .bad
  | _ => .bad
theorem ss_aug {i : Nat} {x : Str} {op : Operator} {f : O2} {pos' : Pos} (he : SD ca X W e m) (ho : InOp X op (rdO2 ca f)) (hN : X.N.Nodup) (hi : X.N[i]? = some x := by rfl) (hx : Loc X.env.scope x := by first | exact Or.inl rfl | exact Or.inr rfl) (hf : X.fn x = true ∨ X.env.scope.names.lookup x = some .local := by first | exact .inl rfl | exact .inr rfl) :
    PS X (.AugAssign (.Name x pos') op e pos) (rdS ca W (augM i f m)) := PS_imp (ps_aug hN hi hx he.pe ho hf) fun D σ H ⟨v, S, g, s, e, h⟩ => by
  unfold augM at h
  split at h
  · rename_i x hx
    obtain ⟨y, hy, ry⟩ := e.at_ _ _ hx
    refine ⟨y, hy, v, S, g, s, e, (FinS.ofE h e).imp (fun d g1 H1 x1 ⟨S1, s1, h1⟩ zv rz => ?_) fun _ _ _ _ z => z⟩
    refine ⟨g1, S1, x, d, s1, ry.mono x1.le, rz, ?_⟩
    split at h1
    · rename_i z S2 ez
      rw [ez]
      exact fun g2 H2 x2 s2 wv rw' => h1 g2 H2 _ x2 s2 ((e.mono (x1.trans x2).le).set _ rw')
    · exact h1.elim
  · exact h.elim
/-! ### lists that change -/
def extF : List D → List D → Option (D × List D) := fun ys xs => none
/-- xs.extend(ys) -/
def extM (ma mb : CE) : CE := fun v S => (ma v S).bind fun d S1 => match lstOf S1 d with
  | none => .bad
  | some _ => (mb v S1).bind fun y S2 => match cellOf d, lstOf S2 y with
    | some n, some zs => match S2.cs n with
      | some (.lst ys) => if n ∈ S2.lk then .bad else if ys.length + zs.length ≤ lim then .ok .non (S2.set n (.lst (ys ++ zs))) else .bad
      | _ => .bad
    | _, _ => .bad
/-- extend, of a list that may be locked -/
def rExtR : V → List V → Hp → VK → Prop := fun x vs H Q => ∃ l b xs zs, x = .ref l ∧ vs = [.ref b] ∧ H l = some (.lst xs) ∧ Rd H b (.lst zs) ∧ xs.length + zs.length ≤ sizeLine ∧ Q .non (upd H l (.lst (xs ++ zs)))
theorem mt_extR : MtR X "list.extend" rExtR := by
  intro pins s σ H x vs v us Q I rx rv h
  obtain ⟨l, b, xs, zs, rfl, rfl, hH, hB, hz, q⟩ := h
  cases rx
  obtain ⟨u, rfl, ru⟩ := L2.Vals.one rv
  cases ru
  obtain ⟨z, its, n, r, hl, e⟩ := lstR I (.inl hH)
  obtain ⟨z2, its2, n2, r2, hl2, e2⟩ := lstR I hB
  have hsz : its.toArray.size + its2.toArray.size ≤ sizeLine := by rw [List.size_toArray, List.size_toArray]; omega
  have hlong : ¬ (!its.toArray.isEmpty && Builtin.List.listTooLong (its.toArray.size + its2.toArray.size)) = true := by
    rw [notLongL hsz, Bool.and_false]
    exact Bool.false_ne_true
  refine call_meets PySem.F.slot_list_extend ⟨_, e, rfl⟩ PySem.F.entry_list_extend (PySem.F.args_list_extend_2 _ _)
    (AutoSeq1.list_extend_list_list_0 l its.toArray n b its2.toArray n2 hlong (by rw [List.size_toArray]; omega) (by omega)) ⟨e, e2, ?_⟩
  refine ⟨.non, _, I.lset (its' := its ++ its2) hH e (by simp) (r.append r2) ?_, rfl, q⟩
  rw [List.length_append]
  omega
theorem sd_extend (ha : SD ca X W a ma) (hb : SD ca X W b mb) (hw : ∀ whole, isTrue (.Call (.Attribute a "extend" apos) [b] [] cpos) X.env whole = (do let v ← whole; standAt (Expr.Call (.Attribute a "extend" apos) [b] [] cpos).pos; holding [v] (truthy v)) := by intro _; rfl)
    (hbase : attributeBase a "extend" X.env (eval a X.env) = eval a X.env := by rfl)
    (hfew : ((backTo cpos (starEach [b] X.env)).all (fun x => !x.1) && (backToKw cpos (keywordEach [] X.env)).all (fun x => x.1.isSome) && decide ([b].length + ([] : List Keyword).length + (if ([] : List Keyword).isEmpty then 0 else 1) < 30)) = true := by rfl)
    (hline : (apos.endLine == cpos.line) = true := by rfl) (hs : starEach [b] X.env = (false, eval b X.env) :: starEach [] X.env := by rfl) (hplain : (backTo cpos (starEach [] X.env)).any (·.1) = false := by rfl) :
    SD ca X W (.Call (.Attribute a "extend" apos) [b] [] cpos) (extM ma mb) :=
  .of (PE_imp (pe_bm PySem.F.plainAttrs_list PySem.F.slot_list_extend PySem.F.type_list_extend mt_extR ha.pe (sda_cons hb sda_nil hs) hbase hfew hline hs hplain) <| by
  rintro σ H Q ⟨v, S, g, s, e, h⟩
  refine ⟨v, S, g, s, e, (Fin.seq h).imp (fun d g1 H1 x1 ⟨S1, s1, h1⟩ xv rv => ?_) fun _ _ _ _ z => z⟩
  split at h1
  · exact h1.elim
  · rename_i ys0 hy0
    obtain ⟨p, vs0, rfl, hp0, _⟩ := s1.lst rv hy0
    refine ⟨.inl ⟨rfl, vs0, .inl hp0⟩, v, S1, g1, s1, e.mono x1.le, ?_⟩
    refine Fin.imp (QO := fun ys g' H' => ∃ y, ys = [y] ∧ ∃ S', Sim ca g' S' H' ∧ Fin ca g' H' (match cellOf d, lstOf S' y with
      | some n, some zs => match S'.cs n with
        | some (.lst ys) => if n ∈ S'.lk then .bad else if ys.length + zs.length ≤ lim then .ok .non (S'.set n (.lst (ys ++ zs))) else .bad
        | _ => .bad
      | _, _ => .bad) (fun d g' H' => ∀ x, Rep ca g' x d → Q x H') (fun e g' H' => ∀ cls od, RepX ca g' H' cls od e → W cls od σ H')) ?_ (fun ys g2 H2 x2 ⟨y, ey, S2, s2, h2⟩ ws rw' => ?_) (fun _ _ _ _ z => z)
    · have h1' := Fin.seq h1
      unfold aCons aNil
      revert h1'
      cases mb v S1 with
      | ok y S2 => exact fun h1' g' H' x s => ⟨y, rfl, h1' g' H' x s⟩
      | ex _ _ => exact fun h1' => h1'
      | bad => exact fun h1' => h1'
    · subst ey
      obtain ⟨yv, rfl, ry⟩ := rw'.one
      split at h2
      · rename_i n zs en hz
        cases cellOf_eq en
        split at h2
        · rename_i ys hc
          split at h2
          · exact h2.elim
          rename_i hl
          split at h2
          · rename_i hlen
            obtain ⟨p', u, ep, hph, ro, hp⟩ := s2.cellOb (rv.mono x2.le) hc hl
            cases ep
            cases ro with
            | lst rl =>
              obtain ⟨b, bs, rfl, hb, rb⟩ := s2.lst ry hz
              exact ⟨p, b, _, bs, rfl, rfl, hp, hb, by rw [rl.len, rb.len]; exact Nat.le_trans hlen lim_le, h2 g2 _ (Sim.extWrite (by rw [hp]; exact fun _ _ z => nomatch z) hph) (s2.write hph hc hl (.lst (rl.app rb))) _ .non⟩
          · exact h2.elim
        · exact h2.elim
      · exact h2.elim) hw
end
end M3
/-! M3P: clear, pop, displays of dicts, f-strings, field targets, keywords. -/
namespace M3
open PySem L2
variable {ca : CAK}
section
variable {X : Cx} {W : WX} {e a b o : Expr} {es : List Expr} {m ma mb mo : CE} {ms : CA} {pos p apos cpos : Pos}
/-! ### clear, pop -/
def clrL (ma : CE) : CE := fun v S => (ma v S).bind fun d S1 => match cellOf d with
  | some n => match S1.cs n with
    | some (.lst _) => if n ∈ S1.lk then .bad else .ok .non (S1.set n (.lst []))
    | _ => .bad
  | none => .bad
def clrD (ma : CE) : CE := fun v S => (ma v S).bind fun d S1 => match cellOf d with
  | some n => match S1.cs n with
    | some (.dic _) => if n ∈ S1.lk then .bad else .ok .non (S1.set n (.dic []))
    | _ => .bad
  | none => .bad
def popL (ma : CE) : CE := fun v S => (ma v S).bind fun d S1 => match cellOf d with
  | some n => match S1.cs n with
    | some (.lst ys) => if n ∈ S1.lk then .bad else match ys[ys.length - 1]? with
      | some y => .ok y (S1.set n (.lst ys.dropLast))
      | none => .bad
    | _ => .bad
  | none => .bad
theorem mt_clearR : MtR X "list.clear" rClear := fun pins s σ H x xs v us Q I rx rv h => mt_clear pins s σ H x xs v us Q I rx rv h
theorem mt_popR : MtR X "list.pop" rPop := fun pins s σ H x xs v us Q I rx rv h => mt_pop pins s σ H x xs v us Q I rx rv h
theorem sd_clrL (ha : SD ca X W a ma) (hbase : attributeBase a "clear" X.env (eval a X.env) = eval a X.env := by rfl) (hline : (apos.endLine == cpos.line) = true := by rfl) (hw : ∀ whole, isTrue (.Call (.Attribute a "clear" apos) [] [] cpos) X.env whole = (do let v ← whole; standAt (Expr.Call (.Attribute a "clear" apos) [] [] cpos).pos; holding [v] (truthy v)) := by intro _; rfl) :
    SD ca X W (.Call (.Attribute a "clear" apos) [] [] cpos) (clrL ma) := .of (PE_imp (pe_bm0 PySem.F.plainAttrs_list PySem.F.slot_list_clear PySem.F.type_list_clear mt_clearR ha.pe hbase hline) <| by
  rintro σ H Q ⟨v, S, g, s, e, h⟩
  refine ⟨v, S, g, s, e, (Fin.seq h).imp (fun d g1 H1 x1 ⟨S1, s1, h1⟩ xv rv => ?_) fun _ _ _ _ z => z⟩
  split at h1
  · rename_i n en
    cases cellOf_eq en
    split at h1
    · rename_i ys hc
      split at h1
      · exact h1.elim
      rename_i hl
      obtain ⟨p, u, rfl, hph, ro, hp⟩ := s1.cellOb rv hc hl
      cases ro with
      | lst rl => exact ⟨.inl ⟨rfl, _, .inl (.inl hp)⟩, p, _, rfl, rfl, hp, h1 g1 _ (Sim.extWrite (by rw [hp]; exact fun _ _ z => nomatch z) hph) (s1.write hph hc hl (.lst .nil)) _ .non⟩
    · exact h1.elim
  · exact h1.elim) hw
theorem sd_popL (ha : SD ca X W a ma) (hbase : attributeBase a "pop" X.env (eval a X.env) = eval a X.env := by rfl) (hline : (apos.endLine == cpos.line) = true := by rfl) (hw : ∀ whole, isTrue (.Call (.Attribute a "pop" apos) [] [] cpos) X.env whole = (do let v ← whole; standAt (Expr.Call (.Attribute a "pop" apos) [] [] cpos).pos; holding [v] (truthy v)) := by intro _; rfl) :
    SD ca X W (.Call (.Attribute a "pop" apos) [] [] cpos) (popL ma) := .of (PE_imp (pe_bm0 PySem.F.plainAttrs_list PySem.F.slot_list_pop PySem.F.type_list_pop mt_popR ha.pe hbase hline) <| by
  rintro σ H Q ⟨v, S, g, s, e, h⟩
  refine ⟨v, S, g, s, e, (Fin.seq h).imp (fun d g1 H1 x1 ⟨S1, s1, h1⟩ xv rv => ?_) fun _ _ _ _ z => z⟩
  split at h1
  · rename_i n en
    cases cellOf_eq en
    split at h1
    · rename_i ys hc
      split at h1
      · exact h1.elim
      rename_i hl
      split at h1
      · rename_i y hy
        obtain ⟨p, u, rfl, hph, ro, hp⟩ := s1.cellOb rv hc hl
        cases ro with
        | @lst vs _ rl =>
          obtain ⟨w, hw', rw'⟩ := rl.get hy
          refine ⟨.inl ⟨rfl, _, .inl (.inl hp)⟩, p, _, w, rfl, rfl, hp, by rw [rl.len]; exact hw', h1 g1 _ (Sim.extWrite (by rw [hp]; exact fun _ _ z => nomatch z) hph) (s1.write hph hc hl (.lst ?_)) _ rw'⟩
          rw [List.dropLast_eq_take, List.dropLast_eq_take, rl.len]
          exact rl.take _
      · exact h1.elim
    · exact h1.elim
  · exact h1.elim) hw
theorem sd_clrD (ha : SD ca X W a ma) (hbase : attributeBase a "clear" X.env (eval a X.env) = eval a X.env := by rfl) (hline : (apos.endLine == cpos.line) = true := by rfl) (hw : ∀ whole, isTrue (.Call (.Attribute a "clear" apos) [] [] cpos) X.env whole = (do let v ← whole; standAt (Expr.Call (.Attribute a "clear" apos) [] [] cpos).pos; holding [v] (truthy v)) := by intro _; rfl) :
    SD ca X W (.Call (.Attribute a "clear" apos) [] [] cpos) (clrD ma) := .of (PE_imp (pe_dclear ha.pe hbase hline) <| by
  rintro σ H Q ⟨v, S, g, s, e, h⟩
  refine ⟨v, S, g, s, e, (Fin.seq h).imp (fun d g1 H1 x1 ⟨S1, s1, h1⟩ xv rv => ?_) fun _ _ _ _ z => z⟩
  split at h1
  · rename_i n en
    cases cellOf_eq en
    split at h1
    · rename_i ks hc
      split at h1
      · exact h1.elim
      · rename_i hl
        obtain ⟨p, u, rfl, hph, ro, hp⟩ := s1.cellOb rv hc hl
        cases ro with
        | dic rk => exact ⟨.inr (.inr (.inl ⟨rfl, .inl ⟨_, hp⟩⟩)), p, _, rfl, rfl, hp, h1 g1 _ (Sim.extWrite (by rw [hp]; exact fun _ _ z => nomatch z) hph) (s1.write hph hc hl (.dic .nil)) _ .non⟩
    · exact h1.elim
  · exact h1.elim) hw
/-! ### a field as a target -/
def asgFld (cs : List Nat) (f : Str) (mo : CE) : GT := fun d v S => match mo v S with
  | .ok o S1 => (setF cs f o d S1).map fun S2 => (v, S2)
  | _ => none
theorem pg_fld {f : Str} {to : TE} (ho : PE X o to) (hs : ∀ v, assign (.Attribute o f pos) X.env v = (do
      let ov ← holding [v] (eval o X.env)
      standAt pos.atName
      holding [v, ov] (setAttr ov f v)
      release [v, ov] []) := by intro _; rfl) : PG X (.Attribute o f pos) (fun v σ H Q => to σ H fun x H1 => ∃ a C dx fs, x = .ref a ∧ H1 a = some (.ins C dx fs) ∧ Cls X.K C ∧ NoAttr X.K C f ∧ fs.length < 1000 ∧ Q σ (upd H1 a (.ins C dx (putF f v fs)))) := by
  refine ⟨fun pins s σ H v u Q I r h => ?_⟩
  rw [hs]
  refine wpAny_bind (wpAny_holding (thn (ho.run pins s σ H _ I h) fun ov s1 ⟨x, H1, I1, rx, a, C, dx, fs, ex, ea, c, n, l, q⟩ => ?_))
  subst ex
  obtain rfl : ov = Value.ref a := rx
  refine wpAny_bind (wpAny_standAt (wpAny_bind (wpAny_holding (setattr_ok I1 ea c n l r fun s2 I2 => ?_))))
  exact wpAny_release ⟨σ, _, I2, q⟩
end
end M3
/-! M3Q: field targets, displays of dicts, f-strings, keywords. -/
namespace M3
open PySem L2
variable {ca : CAK}
section
variable {X : Cx} {W : WX} {e a b o : Expr} {es : List Expr} {m ma mb mo : CE} {ms mk : CA} {pos p apos cpos : Pos}
theorem sg_fld {f : Str} {cs : List Nat} (ho : SD ca X W o mo) (hC : ∀ c, cs.contains c = true → Cls X.K (ca c) ∧ NoAttr X.K (ca c) f) (hs : ∀ v, assign (.Attribute o f pos) X.env v = (do
      let ov ← holding [v] (eval o X.env)
      standAt pos.atName
      holding [v, ov] (setAttr ov f v)
      release [v, ov] []) := by intro _; rfl) : PG X (.Attribute o f pos) (rdG ca [] (asgFld cs f mo)) := PG_imp (pg_fld ho.pe hs) fun x σ H Q ⟨v, g, S, d, s, e, r, h⟩ => by
  unfold asgFld at h
  split at h
  · rename_i o1 S1 e1
    cases hp : setF cs f o1 d S1 with
    | none => rw [hp] at h; exact h.elim
    | some S2 =>
      rw [hp] at h
      refine ⟨v, S, g, s, e, ?_⟩
      rw [e1]
      intro g1 H1 x1 s1 xo ro
      obtain ⟨a, C, dx, fs, e2, e3, ⟨c, hc, rfl⟩, e4, q⟩ := setF_ok s1 ro (r.mono x1.le) hp
      exact ⟨a, _, dx, fs, e2, e3, (hC c hc).1, (hC c hc).2, e4, h g1 _ (x1.trans (q dx).1) (q dx).2 σ (e.mono x1.le) (.refl _ _)⟩
  · exact h.elim
/-! ### {k: v, ..} -/
abbrev CP := Ev → S3 → R (List (Key × D))
def pNil : CP := fun _ S => .ok [] S
def pCons (mk mv : CE) (r : CP) : CP := fun v S => (mk v S).bind fun k S1 => (mv v S1).bind fun x S2 => match keyOf k with
  | some kk => (r v S2).bind fun ps S3 => .ok ((kk, x) :: ps) S3
  | none => .bad
variable (ca)
structure SDP (X : Cx) (W : WX) (keys : List (Option Expr)) (vals : List Expr) (m : CP) : Prop where
  ex : ∃ trs : List (TE × TE), (∀ pos, PPs X pos keys vals trs) ∧ ∀ σ H (Q : List (V × V) → Hp → Prop), (∃ v S g, Sim ca g S H ∧ EnvR ca g v σ ∧ Fin ca g H (m v S) (fun ds g' H' => ∀ kvs, RepK ca g' kvs ds → Q (kvs.map fun kv => (kV kv.1, kv.2)) H') (fun e g' H' => ∀ cls od, RepX ca g' H' cls od e → W cls od σ H')) → tPairs trs σ H Q
variable {ca}
theorem sdp_nil : SDP ca X W [] [] pNil := ⟨[], fun _ => pps_nil, fun σ H Q ⟨v, S, g, s, e, h⟩ => h g H (.refl _ _) s [] .nil⟩
theorem sdp_cons {ks : List (Option Expr)} {vs : List Expr} {r : CP} (hk : SD ca X W a ma) (hv : SD ca X W b mb) (hr : SDP ca X W ks vs r) : SDP ca X W (some a :: ks) (b :: vs) (pCons ma mb r) := by
  obtain ⟨trs, h1, h2⟩ := hr.ex
  refine ⟨(rdE ca W ma, rdE ca W mb) :: trs, fun pos => pps_cons hk.pe hv.pe (h1 pos), ?_⟩
  rintro σ H Q ⟨v, S, g, s, e, h⟩
  refine ⟨v, S, g, s, e, (Fin.seq h).imp (fun k g1 H1 x1 ⟨S1, s1, h1⟩ kv rk => ?_) fun _ _ _ _ z => z⟩
  refine ⟨v, S1, g1, s1, e.mono x1.le, (Fin.seq h1).imp (fun d g3 H3 x3 ⟨S3, s3, h3⟩ dv rd => ?_) fun _ _ _ _ z => z⟩
  refine h2 σ H3 _ ?_
  split at h3
  · rename_i kk ek
    have := keyOf_rep rk ek
    subst this
    refine ⟨v, S3, g3, s3, e.mono (x1.trans x3).le, (Fin.seq h3).imp (fun ps g4 H4 x4 ⟨S4, s4, h4⟩ kvs rp => ?_) fun _ _ _ _ z => z⟩
    exact h4 g4 H4 (.refl _ _) s4 ((kk, dv) :: kvs) (.cons (rd.mono x4.le) rp)
  · exact h3.elim
def dspM' (p : CP) (fin : List (Key × D) → S3 → R D) : CE := fun v S => (p v S).bind fun ps S1 => if ps.length ≤ 15 then fin (mergeA [] ps) S1 else .bad
abbrev dspM (p : CP) : CE := dspM' p finDT
abbrev dspMC (p : CP) : CE := dspM' p finDC
theorem sd_dsp' {keys : List (Option Expr)} {vals : List Expr} {pr : CP} {fin : List (Key × D) → S3 → R D} (hf : FinOk ca HO.dK (RepK ca) fin) (hp : SDP ca X W keys vals pr) (hall : keys.all (·.isSome) = true := by rfl) (hl : keys.length = vals.length := by rfl) (h0 : keys ≠ [] := by exact fun z => nomatch z)
    (h15 : keys.length ≤ 15 := by decide) (hw : ∀ whole, isTrue (.Dict keys vals pos) X.env whole = (do let v ← whole; standAt (Expr.Dict keys vals pos).pos; holding [v] (truthy v)) := by intro _; rfl) : SD ca X W (.Dict keys vals pos) (dspM' pr fin) := by
  obtain ⟨trs, h1, h2⟩ := hp.ex
  refine .of (PE_imp (pe_disp (h1 pos) hall hl h0 h15) ?_) hw
  rintro σ H Q ⟨v, S, g, s, e, h⟩ p hpn
  have x0 : Ext g H g (upd H p (.dK [])) := (Ext.refl g H).upd hpn _
  have o0 := s.freshOut hpn
  refine h2 σ _ _ ⟨v, S, g, s.updOut o0, e, (Fin.seqB h x0).imp (fun ps g1 H1 x1 ⟨S1, s1, x1', x01, h3⟩ kvs rk => ?_) fun _ _ _ _ z => z⟩
  split at h3
  · rename_i hz
    have hD := x1.rest p _ upd_same o0
    have o1 := x1.out o0 (by rw [upd_same]; exact fun z => nomatch z)
    exact ⟨hD, kvs, rfl, by rw [rk.len]; exact hz, hf (s1.updOut o1) (x01.upd hpn _) hpn o1 upd_same (rk.merge .nil List.nodup_nil) h3⟩
  · exact h3.elim
theorem sd_dsp {keys : List (Option Expr)} {vals : List Expr} {pr : CP} (hp : SDP ca X W keys vals pr) (hall : keys.all (·.isSome) = true := by rfl) (hl : keys.length = vals.length := by rfl) (h0 : keys ≠ [] := by exact fun z => nomatch z)
    (h15 : keys.length ≤ 15 := by decide) (hw : ∀ whole, isTrue (.Dict keys vals pos) X.env whole = (do let v ← whole; standAt (Expr.Dict keys vals pos).pos; holding [v] (truthy v)) := by intro _; rfl) : SD ca X W (.Dict keys vals pos) (dspM pr) := sd_dsp' finDT_ok hp hall hl h0 h15 hw
theorem sd_dspC {keys : List (Option Expr)} {vals : List Expr} {pr : CP} (hp : SDP ca X W keys vals pr) (hall : keys.all (·.isSome) = true := by rfl) (hl : keys.length = vals.length := by rfl) (h0 : keys ≠ [] := by exact fun z => nomatch z)
    (h15 : keys.length ≤ 15 := by decide) (hw : ∀ whole, isTrue (.Dict keys vals pos) X.env whole = (do let v ← whole; standAt (Expr.Dict keys vals pos).pos; holding [v] (truthy v)) := by intro _; rfl) : SD ca X W (.Dict keys vals pos) (dspMC pr) := sd_dsp' finDC_ok hp hall hl h0 h15 hw
/-! ### f-strings -/
abbrev CF := Ev → Str → S3 → R Str
def sNil : CF := fun _ acc S => .ok acc S
def sLit (z : Str) (r : CF) : CF := fun v acc S => if (acc ++ z).length ≤ lim then r v (acc ++ z) S else .bad
def fmtD : D → Option Str
  | .str y => if y.length ≤ lim then some y else none
  | .int i => if i.natAbs.log2 < 1920 then some (toString i) else none
  | _ => none
def sVal (m : CE) (r : CF) : CF := fun v acc S => (m v S).bind fun x S1 => match fmtD x with
  | some y => if (acc ++ y).length ≤ lim then r v (acc ++ y) S1 else .bad
  | none => .bad
def fstM (r : CF) : CE := fun v S => (r v Str.empty S).bind fun z S1 => .ok (.str z) S1
variable (ca)
structure SDF (X : Cx) (W : WX) (es : List Expr) (m : CF) : Prop where
  ex : ∃ ts : List TE, PJ X es ts ∧ ∀ σ H acc (Q : Str → Hp → Prop), (∃ v S g, Sim ca g S H ∧ EnvR ca g v σ ∧ Fin ca g H (m v acc S) (fun z g' H' => Q z H') (fun e g' H' => ∀ cls od, RepX ca g' H' cls od e → W cls od σ H')) → tJs ts acc σ H Q
variable {ca}
theorem sdf_nil : SDF ca X W [] sNil := ⟨[], .nil, fun σ H acc Q ⟨v, S, g, s, e, h⟩ => h g H (.refl _ _) s⟩
theorem sdf_lit {z : Str} {j : Nat} {r : CF} (hr : SDF ca X W es r) : SDF ca X W (.Constant (.str z) j pos :: es) (sLit z r) := by
  obtain ⟨ts, h1, h2⟩ := hr.ex
  refine ⟨_ :: ts, .cons pe_str h1, ?_⟩
  rintro σ H acc Q ⟨v, S, g, s, e, h⟩
  unfold sLit at h
  split at h
  · rename_i hz
    exact ⟨z, rfl, Nat.le_trans hz lim_le, h2 σ H _ Q ⟨v, S, g, s, e, h⟩⟩
  · exact h.elim
theorem sdf_val {r : CF} (he : SD ca X W e m) (hr : SDF ca X W es r) : SDF ca X W (.FormattedValue e (-1) none pos :: es) (sVal m r) := by
  obtain ⟨ts, h1, h2⟩ := hr.ex
  refine ⟨_ :: ts, .cons (pe_fmt he.pe) h1, ?_⟩
  rintro σ H acc Q ⟨v, S, g, s, e, h⟩
  refine ⟨v, S, g, s, e, (Fin.seq h).imp (fun d g1 H1 x1 ⟨S1, s1, h3⟩ xv rv => ?_) fun _ _ _ _ z => z⟩
  split at h3
  · rename_i y hy
    split at h3
    · rename_i hz
      have fin : tJs ts (acc ++ y) σ H1 Q := h2 σ H1 _ Q ⟨v, S1, g1, s1, e.mono x1.le, h3⟩
      unfold fmtD at hy
      split at hy
      · split at hy
        · rename_i hy2
          cases hy; cases rv
          exact .inl ⟨_, rfl, Nat.le_trans hy2 lim_le, _, rfl, Nat.le_trans hz lim_le, fin⟩
        · cases hy
      · split at hy
        · rename_i hy2
          cases hy; cases rv
          exact .inr ⟨_, rfl, hy2, _, rfl, Nat.le_trans hz lim_le, fin⟩
        · cases hy
      · cases hy
    · exact h3.elim
  · exact h3.elim
theorem sd_fst {v1 v2 : Expr} {rest : List Expr} {r : CF} (hr : SDF ca X W (v1 :: v2 :: rest) r) (hw : ∀ whole, isTrue (.JoinedStr (v1 :: v2 :: rest) pos) X.env whole = (do let v ← whole; standAt (Expr.JoinedStr (v1 :: v2 :: rest) pos).pos; holding [v] (truthy v)) := by intro _; rfl) : SD ca X W (.JoinedStr (v1 :: v2 :: rest) pos) (fstM r) := by
  obtain ⟨ts, h1, h2⟩ := hr.ex
  refine .of (PE_imp (pe_joined h1) ?_) hw
  rintro σ H Q ⟨v, S, g, s, e, h⟩
  exact h2 σ H _ _ ⟨v, S, g, s, e, (Fin.seq h).imp (fun z g1 H1 x1 ⟨S1, s1, h3⟩ => h3 g1 H1 (.refl _ _) s1 _ (.str z)) fun _ _ _ _ z => z⟩
end
/-! ### methods with keywords -/
section
variable {X : Cx} {W : WX} {e o : Expr} {es : List Expr} {mo : CE} {ms mk : CA} {m : Fn} {k j c n : Nat} {mn : Str} {pos apos : Pos} {kws : List Keyword} {ks : List Str}
def cat2 {α : Type} (a b : List α) : List α := a ++ b
structure CalMK (ca : CAK) (P : Program) (w : World) (K : PySem.W.Frag) (mg : Str → Option Value) (base : Heap) (k c : Nat) (mn : Str) (m : Fn) (n : Nat) (ks : List Str) : Prop where
  ex : ∃ (f : Addr) (fd : FuncData) (ps : List Str), FnOk P w K mg base (L2.CX P w) k f fd ps (spM ca m) ∧ Cls K (ca c) ∧ Meth K (ca c) mn f ∧ KBn K fd ps n ks cat2 cat2
variable (ca)
def rdK (W : WX) (m : CA) : TA := rdA ca W m
variable {ca}
theorem PK_imp {X : Cx} {e : List Keyword} {t t' : TA} (h : PK X e t) (i : ∀ σ H Q, t' σ H Q → t σ H Q) : PK X e t' := ⟨fun pos pins s σ H Q I q => h.run pos pins s σ H Q I (i σ H Q q)⟩
theorem sdk_nil : PK X [] (rdA ca W aNil) := PK_imp pk_nil <| by
  rintro σ H Q ⟨v, S, g, s, e, h⟩
  exact h g H (.refl _ _) s _ .nil
theorem sdk_cons {ma : CE} {nm : Option Str} {kpos : Pos} (ha : SD ca X W e ma) (hr : PK X kws (rdA ca W ms)) : PK X (⟨nm, e, kpos⟩ :: kws) (rdA ca W (aCons ma ms)) := PK_imp (pk_cons ha.pe hr) <| by
  rintro σ H Q ⟨v, S, g, s, e, h⟩
  refine ⟨v, S, g, s, e, (Fin.seq h).imp (fun d g1 H1 x1 ⟨S1, s1, h1⟩ xv rv => ?_) fun _ _ _ _ z => z⟩
  refine ⟨v, S1, g1, s1, e.mono x1.le, (Fin.seq h1).imp (fun ds g2 H2 x2 ⟨S2, s2, h2⟩ xs rs => ?_) fun _ _ _ _ z => z⟩
  exact h2 g2 H2 (.refl _ _) s2 _ (.cons (rv.mono x2.le) rs)
def methKM (c : Nat) (mn : Str) (n l : Nat) (mo : CE) (ms mk : CA) (m : Fn) : CE := fun v S => (mo v S).bind fun o S1 => match insOf S1 o with
  | some (c', fs) => if c' = c ∧ getA fs mn = none then (ms v S1).bind fun xs S2 => (mk v S2).bind fun zs S3 => if xs.length + 1 = n ∧ zs.length = l then m (o :: (xs ++ zs)) S3 else .bad else .bad
  | none => .bad
theorem run_fnNS {CX : CXT} {f : Addr} {fd : FuncData} {ps : List Str} {sp : Sp} {E : XK} {g : List Value → List Value → List Value} {gV : List V → List V → List V} {pins : List (Addr × Obj)} {σ : St} {H : Hp} {s : Shared} {Q : VK} {us ws : List Value} {vs zs : List V} (F : FnOk X.prog X.w X.K X.mg X.base CX k f fd ps sp) (hr : Room k X.A) (hb : KBn X.K fd ps n ks g gV) (hx : PassesAt CX X σ E)
    (I : Inv X pins σ H s) (r : Vals vs us) (rz : Vals zs ws) (l1 : vs.length = n) (l2 : zs.length = ks.length) (h : sp (gV vs zs) H Q E) : wpAny (model X.prog X.w) X.A (call (.ref f) us (ks.zip ws)) (EP X pins σ Q) X.xe s := by
  refine wpAny_call (codeAny_mono (F.run X.A X.stack s H ⟨us, ks.zip ws⟩ (g us ws) (gV vs zs) Q E hr I.env0 (hb.to s us ws I.kIn (r.length.symm.trans l1) (rz.length.symm.trans l2)) (hb.rel r rz) h) fun r s' hq => ?_)
  cases r with
  | error e => exact hx pins H s e s' I hq
  | ok fl => cases fl with
    | ret u => exact I.after hq
    | _ => exact False.elim hq
theorem sd_methK {pl : Sem Bool} (C : CO ca X W k) (F : CalMK ca X.prog X.w X.K X.mg X.base j c mn m n ks) (hj : j ≤ k) (ho : SD ca X W o mo) (ha : PA X (e :: es) (rdA ca W ms)) (hkw : PK X kws (rdA ca W mk))
    (hall : (backToKw pos (keywordEach kws X.env)).all (·.1.isSome) = true := by rfl) (hks : (backToKw pos (keywordEach kws X.env)).filterMap (·.1) = ks := by rfl)
    (hst : starEach (e :: es) X.env = (false, eval e X.env) :: starEach es X.env := by rfl) (hpl : ((backTo pos (starEach (e :: es) X.env)).any (·.1) || (backToKw pos (keywordEach kws X.env)).any (·.1.isNone)) = false := by rfl)
    (ht : eval (.Call (.Attribute o mn apos) (e :: es) kws pos) X.env = (do
      let ov ← eval o X.env
      standAt apos.atName
      let (f, first) ← holding [ov] (getMethod ov mn pl)
      callWith pos f first (backTo pos (starEach (e :: es) X.env)) (backToKw pos (keywordEach kws X.env))) := by rfl)
    (hw : ∀ whole, isTrue (.Call (.Attribute o mn apos) (e :: es) kws pos) X.env whole = (do let v ← whole; standAt (Expr.Call (.Attribute o mn apos) (e :: es) kws pos).pos; holding [v] (truthy v)) := by intro _; rfl) :
    SD ca X W (.Call (.Attribute o mn apos) (e :: es) kws pos) (methKM c mn n ks.length mo ms mk m) := by
  obtain ⟨f, fd, ps, F, hc, hm, hb⟩ := F.ex
  refine .of ⟨fun pins s σ H Q I h => ?_⟩ hw
  obtain ⟨v, S, g, sm, ev, h⟩ := h
  refine PySem.W.methodCall_KW (pl := pl) (thn (ho.pe.run pins s σ H (fun x H1 => ∃ (p dx : Addr) (ws : List (Str × V)), x = .ref p ∧ H1 p = some (.ins (ca c) dx ws) ∧ ws.lookup mn = none ∧ rdA ca W ms σ H1 fun xs H2 => rdA ca W mk σ H2 fun zs H3 => (V.ref p :: xs).length = n ∧ zs.length = ks.length ∧ spM ca m (V.ref p :: (xs ++ zs)) H3 Q (WE W σ)) I ⟨v, S, g, sm, ev, (Fin.seq h).imp (fun o g1 H1 x1 ⟨S1, s1, h1⟩ ov ro => ?_) fun _ _ _ _ z => z⟩) fun u s1 ⟨x, H1, I1, rx, a, dx, fs, ex, ea, l, q⟩ => ?_) ht
  · split at h1
    · rename_i c' fs hi
      split at h1
      · rename_i hcn
        obtain ⟨rfl, hn⟩ := hcn
        obtain ⟨p, dx, ws, rfl, hp, rf⟩ := s1.ins ro hi
        refine ⟨p, dx, ws, rfl, hp, rf.none hn, v, S1, g1, s1, ev.mono x1.le, (Fin.seq h1).imp (fun xs g2 H2 x2 ⟨S2, s2, h2⟩ vs rv => ?_) fun _ _ _ _ z => z⟩
        refine ⟨v, S2, g2, s2, ev.mono (x1.trans x2).le, (Fin.seq h2).imp (fun zs g3 H3 x3 ⟨S3, s3, h3⟩ zv rz => ?_) fun _ _ _ _ z => z⟩
        split at h3
        · rename_i hl
          exact ⟨by rw [List.length_cons, rv.len]; exact hl.1, by rw [rz.len]; exact hl.2, sp_of s3 (.cons (ro.mono (x2.trans x3).le) ((rv.mono x3.le).app rz)) h3⟩
        · exact h3.elim
      · exact h1.elim
    · exact h1.elim
  · subst ex
    obtain rfl : u = Value.ref a := rx
    refine getmeth_ok I1 ea hc hm l ?_
    refine PySem.W.callWith_KW (first := [.ref a]) (h₀ := X.base) I.ok.mod.kin hm.kp hall (thn (ha.run pos pins s1 σ H1 _ I1 q) fun us s2 ⟨vs, H2, I2, r, q2⟩ => ?_) hpl hst
    refine thn (hkw.run pos pins s2 σ H2 _ I2 q2) fun ws s3 ⟨zs, H3, I3, rz, l1, l2, q3⟩ => ⟨I3.kIn, ?_⟩
    rw [hks]
    exact run_fnNS (us := .ref a :: us) (vs := .ref a :: vs) F (C.rm.mono hj) hb (passAt C.tk σ) I3 (.cons rfl r) rz l1 l2 q3
end
end M3
/-! M3R: sorted. -/
namespace M3
open PySem L2
variable {ca : CAK}
/-! ### by hand -/
section
variable {α : Type} (le : α → α → Bool)
def insB (x : α) : List α → List α
  | [] => [x]
  | y :: r => if le x y then x :: y :: r else y :: insB x r
def srtB : List α → List α
  | [] => []
  | x :: r => insB le x (srtB r)
variable {le}
theorem insB_perm (x : α) : ∀ l : List α, (insB le x l).Perm (x :: l)
  | [] => .refl _
  | y :: r => by
    unfold insB
    split
    · exact .refl _
    · exact ((insB_perm x r).cons y).trans (.swap x y r)
theorem srtB_perm : ∀ l : List α, (srtB le l).Perm l
  | [] => .refl _
  | x :: r => (insB_perm x _).trans ((srtB_perm r).cons x)
theorem insB_pw (tot : ∀ a b, le a b = true ∨ le b a = true) (tr : ∀ a b c, le a b = true → le b c = true → le a c = true) (x : α) : ∀ l : List α, l.Pairwise (fun a b => le a b = true) → (insB le x l).Pairwise (fun a b => le a b = true)
  | [], _ => List.pairwise_singleton _ _
  | y :: r, h => by
    obtain ⟨h1, h2⟩ := List.pairwise_cons.mp h
    unfold insB
    split
    · rename_i hxy
      refine List.pairwise_cons.mpr ⟨fun z hz => ?_, h⟩
      rcases List.mem_cons.mp hz with rfl | hz
      · exact hxy
      · exact tr _ _ _ hxy (h1 z hz)
    · rename_i hxy
      refine List.pairwise_cons.mpr ⟨fun z hz => ?_, insB_pw tot tr x r h2⟩
      rcases List.mem_cons.mp ((insB_perm x r).mem_iff.mp hz) with rfl | hz
      · exact (tot _ _).resolve_left hxy
      · exact h1 z hz
theorem srtB_pw (tot : ∀ a b, le a b = true ∨ le b a = true) (tr : ∀ a b c, le a b = true → le b c = true → le a c = true) : ∀ l : List α, (srtB le l).Pairwise (fun a b => le a b = true)
  | [] => .nil
  | x :: r => insB_pw tot tr x _ (srtB_pw tot tr r)
theorem srtB_eq (tot : ∀ a b, le a b = true ∨ le b a = true) (tr : ∀ a b c, le a b = true → le b c = true → le a c = true) (an : ∀ a b, le a b = true → le b a = true → a = b) {l m : List α} (p : m.Perm l) (s : m.Pairwise (fun a b => le a b = true)) : m = srtB le l :=
  List.Perm.eq_of_pairwise (fun a b _ _ => an a b) s (srtB_pw tot tr l) (p.trans (srtB_perm l).symm)
end
def leI (i j : Int) : Bool := decide (i ≤ j)
theorem leI_tot : ∀ a b, leI a b = true ∨ leI b a = true := fun a b => by unfold leI; simp only [decide_eq_true_eq]; omega
theorem leI_tr : ∀ a b c, leI a b = true → leI b c = true → leI a c = true := fun a b c => by unfold leI; simp only [decide_eq_true_eq]; omega
theorem leI_an : ∀ a b, leI a b = true → leI b a = true → a = b := fun a b => by unfold leI; simp only [decide_eq_true_eq]; omega
def leS (a b : Str) : Bool := !decide (b.cps.toList < a.cps.toList)
theorem leS_iff {a b : Str} : leS a b = true ↔ a.cps.toList ≤ b.cps.toList := by
  unfold leS
  rw [Bool.not_eq_true', decide_eq_false_iff_not]
  exact List.not_lt
theorem leS_tot : ∀ a b, leS a b = true ∨ leS b a = true := fun a b => by
  rw [leS_iff, leS_iff]
  exact List.le_total _ _
theorem leS_tr : ∀ a b c, leS a b = true → leS b c = true → leS a c = true := fun a b c => by
  rw [leS_iff, leS_iff, leS_iff]
  exact List.le_trans
theorem leS_an : ∀ a b, leS a b = true → leS b a = true → a = b := fun a b h1 h2 => by
  rw [leS_iff] at h1 h2
  have := List.le_antisymm h1 h2
  cases a; cases b
  exact congrArg _ (Array.toList_inj.mp this)
/-- pairs, by their first, then by their second -/
def leP (p q : Str × Str) : Bool := if p.1 = q.1 then leS p.2 q.2 else leS p.1 q.1
theorem leP_tot : ∀ a b, leP a b = true ∨ leP b a = true := fun a b => by
  unfold leP
  by_cases e : a.1 = b.1
  · rw [if_pos e, if_pos e.symm]; exact leS_tot _ _
  · rw [if_neg e, if_neg (Ne.symm e)]; exact leS_tot _ _
theorem leP_tr : ∀ a b c, leP a b = true → leP b c = true → leP a c = true := fun a b c => by
  unfold leP
  by_cases e : a.1 = b.1
  · by_cases e2 : b.1 = c.1
    · rw [if_pos e, if_pos e2, if_pos (e.trans e2)]; exact leS_tr _ _ _
    · rw [if_pos e, if_neg e2, if_neg (fun z => e2 (e.symm.trans z))]
      rw [← e]
      exact fun _ h => h
  · by_cases e2 : b.1 = c.1
    · rw [if_neg e, if_pos e2, if_neg (fun z => e (z.trans e2.symm)), e2]
      exact fun h _ => h
    · rw [if_neg e, if_neg e2]
      intro h1 h2
      by_cases e3 : a.1 = c.1
      · rw [← e3] at h2
        exact absurd (leS_an _ _ h1 h2) e
      · rw [if_neg e3]; exact leS_tr _ _ _ h1 h2
theorem leP_an : ∀ a b, leP a b = true → leP b a = true → a = b := fun a b => by
  unfold leP
  by_cases e : a.1 = b.1
  · rw [if_pos e, if_pos e.symm]
    intro h1 h2
    exact Prod.ext e (leS_an _ _ h1 h2)
  · rw [if_neg e, if_neg (Ne.symm e)]
    intro h1 h2
    exact absurd (leS_an _ _ h1 h2) e
/-! ### of data -/
def intsOf : List D → Option (List Int)
  | [] => some []
  | .int i :: r => (intsOf r).map (i :: ·)
  | _ :: _ => none
def strsOf : List D → Option (List Str)
  | [] => some []
  | .str i :: r => (strsOf r).map (i :: ·)
  | _ :: _ => none
def prsOf : List D → Option (List (Str × Str))
  | [] => some []
  | .tup [.str a, .str b] :: r => (prsOf r).map ((a, b) :: ·)
  | _ :: _ => none
def prD (p : Str × Str) : D := .tup [.str p.1, .str p.2]
def sortD (xs : List D) : Option (List D) := match intsOf xs with
  | some ns => some ((srtB leI ns).map .int)
  | none => match strsOf xs with
    | some zs => if zs.length < 64 then some ((srtB leS zs).map .str) else none
    | none => (prsOf xs).map fun ps => (srtB leP ps).map prD
theorem intsOf_rep {g : Wld} : ∀ {ds : List D} {vs : List V} {ns : List Int}, RepL ca g vs ds → intsOf ds = some ns → vs = ns.map V.int
  | [], _, bs, .nil, h => by unfold intsOf at h; cases h; rfl
  | d :: ds, _, bs, .cons r t, h => by
    unfold intsOf at h
    split at h
    · rename_i e; cases e
    · rename_i e
      cases e
      obtain ⟨cs, hc, e⟩ := Option.map_eq_some_iff.mp h
      subst e
      cases r
      rw [intsOf_rep t hc]
      rfl
    · cases h
theorem strsOf_rep {g : Wld} : ∀ {ds : List D} {vs : List V} {ns : List Str}, RepL ca g vs ds → strsOf ds = some ns → vs = ns.map V.str
  | [], _, bs, .nil, h => by unfold strsOf at h; cases h; rfl
  | d :: ds, _, bs, .cons r t, h => by
    unfold strsOf at h
    split at h
    · rename_i e; cases e
    · rename_i e
      cases e
      obtain ⟨cs, hc, e⟩ := Option.map_eq_some_iff.mp h
      subst e
      cases r
      rw [strsOf_rep t hc]
      rfl
    · cases h
theorem RepL.ints {g : Wld} : ∀ ns : List Int, RepL ca g (ns.map V.int) (ns.map D.int)
  | [] => .nil
  | n :: r => .cons (.int n) (RepL.ints r)
theorem RepL.strs {g : Wld} : ∀ ns : List Str, RepL ca g (ns.map V.str) (ns.map D.str)
  | [] => .nil
  | n :: r => .cons (.str n) (RepL.strs r)
theorem risingS_pw : ∀ (ys : List Str) (p : Str), PyProof.Rows.risingS p ys = true → (p :: ys).Pairwise (fun a b => leS a b = true)
  | [], p, _ => List.pairwise_singleton _ _
  | x :: r, p, h => by
    unfold PyProof.Rows.risingS at h
    rw [Bool.and_eq_true] at h
    have h2 := risingS_pw r x h.2
    have h1 : leS p x = true := by
      have z := h.1
      rw [PyProof.Rows.ltCps_eq] at z
      exact z
    refine List.pairwise_cons.mpr ⟨fun z hz => ?_, h2⟩
    rcases List.mem_cons.mp hz with rfl | hz
    · exact h1
    · exact leS_tr _ _ _ h1 ((List.pairwise_cons.mp h2).1 z hz)
theorem sortedS_pw : ∀ (ys : List Str), PyProof.Rows.sortedS ys = true → ys.Pairwise (fun a b => leS a b = true)
  | [], _ => .nil
  | x :: r, h => risingS_pw r x h
end M3
/-! M3S: sorted, pairs of texts. -/
namespace M3N
open PySem PyProof.Rows Srt SrtO M3
section
variable {prog : Program} {w : World} {A : Around} {s : Shared}
def IsPS (h : Heap) (v : Value) (p : Str × Str) : Prop := ∃ (a : Addr) (o : Obj) (t u : Tok) (n : Nat), v = .ref a ∧ h.get? a = some o ∧ o.cls = .type "tuple" ∧ o.data = .seq #[.str p.1 t, .str p.2 u] n
def ltP (p q : Str × Str) : Bool := !leP q p
theorem swo_P (k : Value → Str × Str) : Swo fun v u => ltP (k v) (k u) := by
  refine ⟨fun x y h => ?_, fun x y z h1 h2 => ?_⟩
  · unfold ltP at h ⊢
    rw [Bool.not_eq_true'] at h
    rw [Bool.not_eq_false']
    exact (leP_tot _ _).resolve_left (by rw [h]; exact Bool.false_ne_true)
  · unfold ltP at h1 h2 ⊢
    rw [Bool.not_eq_false'] at h1 h2 ⊢
    first
      | exact leP_tr _ _ _ h1 h2
      | exact leP_tr _ _ _ h2 h1
theorem ltP_eq (x y x' y' : Str) : ltP (x, y) (x', y') = if x = x' then decide (y.cps.toList < y'.cps.toList) else decide (x.cps.toList < x'.cps.toList) := by
  unfold ltP leP leS
  by_cases e : x = x'
  · rw [if_pos e, if_pos e.symm, Bool.not_not]
  · rw [if_neg e, if_neg (Ne.symm e), Bool.not_not]
theorem ps_cmp {vs : List Value} {k : Value → Str × Str} (hp : ∀ v ∈ vs, IsPS s.heap v (k v)) : Cmp prog w A s (tuples' true) (fun p => p.1 ∈ vs) (lt2 fun v u => ltP (k v) (k u)) := by
  intro p q hm hm'
  have h1 := hp _ hm
  have h2 := hp _ hm'
  show wpAny (model prog w) A (keyLt' (tuples' true) p.1 q.1) (fun r s' => s' = s ∧ r = ltP (k p.1) (k q.1)) (fun _ _ => False) s
  generalize k p.1 = kp at h1 ⊢
  generalize k q.1 = kq at h2 ⊢
  obtain ⟨x, y⟩ := kp
  obtain ⟨x', y'⟩ := kq
  obtain ⟨a, o, t, u, n, e, ho, hc, hd⟩ := h1
  obtain ⟨a', o', t', u', n', e', ho', hc', hd'⟩ := h2
  rw [e, e', ltP_eq]
  refine PySem.W.kat_lt ho hd ho' hd' ?_
  show PySem.W.KatLex prog w A true (decide (2 < 2)) _ [(.str x t, .str x' t'), (.str y u, .str y' u')] 0 s
  refine PySem.W.kat_cons (SeqAt.EqAt.str_str x t x' t' prog w _ _ ?_)
  refine PySem.W.kat_go (fun e1 => ?_) (fun e1 => ?_)
  · have ex : x = x' := by simpa using e1
    refine PySem.W.kat_yes (PySem.W.kat_cons (SeqAt.EqAt.str_str y u y' u' prog w _ _ ?_))
    refine PySem.W.kat_go (fun e2 => ?_) (fun e2 => ?_)
    · have ey : y = y' := by simpa using e2
      have e3 : (if x = x' then decide (y.cps.toList < y'.cps.toList) else decide (x.cps.toList < x'.cps.toList)) = false := by
        rw [if_pos ex, ey]
        exact decide_eq_false (List.lt_irrefl _)
      exact PySem.W.kat_yes (PySem.W.kat_nil ⟨rfl, e3.symm⟩)
    · have e3 : (if x = x' then decide (y.cps.toList < y'.cps.toList) else decide (x.cps.toList < x'.cps.toList)) = decide (y.cps.toList < y'.cps.toList) := if_pos ex
      refine PySem.W.kat_no (PySem.W.kat_one _ _ (PyProof.Rows.lt_str ?_))
      exact (show s = s ∧ decide (y.cps.toList < y'.cps.toList) = (if x = x' then decide (y.cps.toList < y'.cps.toList) else decide (x.cps.toList < x'.cps.toList)) from ⟨rfl, e3.symm⟩)
  · have ex : ¬ x = x' := by simpa using e1
    have e3 : (if x = x' then decide (y.cps.toList < y'.cps.toList) else decide (x.cps.toList < x'.cps.toList)) = decide (x.cps.toList < x'.cps.toList) := if_neg ex
    exact PySem.W.kat_no (oneLt_str ⟨rfl, e3.symm⟩)
theorem ps_firsts {h : Heap} : ∀ {vs : List Value} {k : Value → Str × Str}, (∀ v ∈ vs, IsPS h v (k v)) → ∃ fs : List Value, PySem.W.KatTups h vs fs ∧ fs.length = vs.length ∧ ∀ f ∈ fs, ∃ x t, f = Value.str x t
  | [], _, _ => ⟨[], .nil, rfl, fun _ hm => by simp at hm⟩
  | v :: vs, k, hp => by
    obtain ⟨fs, h1, h2, h3⟩ := ps_firsts (vs := vs) fun v' hm => hp v' (List.mem_cons_of_mem _ hm)
    obtain ⟨a, o, t, u, n, e, ho, hc, hd⟩ := hp v (List.mem_cons_self ..)
    rw [e]
    refine ⟨.str (k v).1 t :: fs, .cons ho hc hd rfl h1, by rw [List.length_cons, List.length_cons, h2], fun f hm => ?_⟩
    rcases List.mem_cons.mp hm with rfl | hm
    · exact ⟨_, t, rfl⟩
    · exact h3 f hm
theorem ps_sortable {a : Addr} {vs : List Value} {k : Value → Str × Str} (h0 : 0 < vs.length) (hp : ∀ v ∈ vs, IsPS s.heap v (k v)) (ha : ∀ o, s.heap.get? a = some o → o.cls ≠ .type "tuple") : SortableO prog w A s a vs fun v u => ltP (k v) (k u) := by
  intro h' keep
  have hp' : ∀ v ∈ vs, IsPS h' v (k v) := fun v hm => by
    obtain ⟨b, o, t, u, n, e, ho, hc, hd⟩ := hp v hm
    exact ⟨b, o, t, u, n, e, keep b o (fun z => by subst z; exact ha o ho hc) ho, hc, hd⟩
  obtain ⟨fs, h1, h2, h3⟩ := ps_firsts hp'
  refine ⟨tuples' true, fun Q E hq => ?_, ps_cmp hp'⟩
  refine PySem.W.kat_kind (T := .type "str") h1 (by omega) (fun f hm => ?_) (by rfl) ?_
  · obtain ⟨x, t, rfl⟩ := h3 f hm
    exact PySem.W.Looks.now
  · have e : (Value.type "str" != Value.type "tuple") = true := by decide +kernel
    rw [e]
    exact hq
end
end M3N
namespace M3
open PySem L2
variable {ca : CAK}
section
variable {X : Cx}
theorem isPS_det {h : Heap} {v : Value} {p q : Str × Str} (a : M3N.IsPS h v p) (b : M3N.IsPS h v q) : p = q := by
  obtain ⟨x, o, t, u, n, e, ho, _, hd⟩ := a
  obtain ⟨x', o', t', u', n', e', ho', _, hd'⟩ := b
  rw [e] at e'
  cases e'
  rw [ho] at ho'
  cases ho'
  rw [hd] at hd'
  injection hd' with h1 _
  obtain ⟨p1, p2⟩ := p
  obtain ⟨q1, q2⟩ := q
  simp only [Array.mk.injEq, List.cons.injEq, Value.str.injEq, and_true] at h1
  rw [h1.1.1, h1.2.1]
open Classical in
noncomputable def psOf (h : Heap) (v : Value) : Str × Str := if e : ∃ p, M3N.IsPS h v p then e.choose else (Str.empty, Str.empty)
theorem psOf_eq {h : Heap} {v : Value} {p : Str × Str} (a : M3N.IsPS h v p) : psOf h v = p := by
  unfold psOf
  rw [dif_pos ⟨p, a⟩]
  exact isPS_det (Exists.choose_spec (⟨p, a⟩ : ∃ p, M3N.IsPS h v p)) a
theorem prs_rep {pins : List (Addr × Obj)} {σ : L2.St} {H : Hp} {s : Shared} {g : Wld} {S : S3} (I : Inv X pins σ H s) (sm : Sim ca g S H) : ∀ {ds : List D} {vs : List V} {us : List Value} {ps : List (Str × Str)}, RepL ca g vs ds → prsOf ds = some ps → Vals vs us →
    us.map (psOf s.heap) = ps ∧ ∀ u ∈ us, M3N.IsPS s.heap u (psOf s.heap u) ∧ ∃ b, u = .ref b ∧ Rep ca g (.ref b) (prD (psOf s.heap u))
  | [], _, _, ps, .nil, h, .nil => by
    unfold prsOf at h
    cases h
    exact ⟨rfl, fun u hu => by cases hu⟩
  | _ :: _, _, [], _, .cons _ _, _, hv => nomatch hv
  | d :: ds, _, u :: us, ps, .cons r t, h, .cons rv tv => by
    unfold prsOf at h
    split at h
    · rename_i e; cases e
    · rename_i sa sb rr e
      cases e
      obtain ⟨cs, hc, e⟩ := Option.map_eq_some_iff.mp h
      subst e
      obtain ⟨h1, h2⟩ := prs_rep I sm t hc tv
      obtain ⟨a, ws, rfl, ha, rw'⟩ := sm.tup r
      obtain ⟨x, y, rfl, rx, ry⟩ := rw'.two
      cases rx
      cases ry
      cases rv
      obtain ⟨_, its2, r2, o, ho, hcl, n, hd⟩ := I.hok _ _ ha
      have key : ∃ t u, its2 = [.str sa t, .str sb u] := by
        cases r2 with
        | cons p q => cases q with
          | cons p' q' =>
            cases q'
            obtain ⟨t1, rfl⟩ := p
            obtain ⟨t2, rfl⟩ := p'
            exact ⟨t1, t2, rfl⟩
      obtain ⟨t1, t2, rfl⟩ := key
      have ip : M3N.IsPS s.heap (.ref a) (sa, sb) := ⟨a, o, t1, t2, n, rfl, ho, hcl, hd⟩
      have ek := psOf_eq ip
      refine ⟨by rw [List.map_cons, ek, h1], fun u hu => ?_⟩
      rcases List.mem_cons.mp hu with rfl | hu
      · rw [ek]
        exact ⟨ip, a, rfl, r⟩
      · exact h2 u hu
    · cases h
theorem repL_back {g : Wld} {h : Heap} : ∀ {us : List Value}, (∀ u ∈ us, ∃ b, u = .ref b ∧ Rep ca g (.ref b) (prD (psOf h u))) → RepL ca g (us.map backV) (us.map fun u => prD (psOf h u))
  | [], _ => .nil
  | u :: us, k => by
    obtain ⟨b, e, r⟩ := k u List.mem_cons_self
    rw [List.map_cons, List.map_cons]
    refine .cons ?_ (repL_back fun v hv => k v (List.mem_cons_of_mem _ hv))
    rw [e] at r ⊢
    exact r
theorem call_sortAny {pins : List (Addr × Obj)} {s : Shared} {σ : L2.St} {H : Hp} {v : V} {us : List Value} {Q : VK} {g : Wld} {S : S3} {d : D} {xs ys : List D} (I : Inv X pins σ H s) (r : L2.Vals [v] us) (sm : Sim ca g S H) (rd : Rep ca g v d) (h : lstOf S d = some xs) (hs : sortD xs = some ys)
    (q : ∀ vs, RepL ca g vs ys → ∀ p, H p = none → Q (.ref p) (upd H p (.lst vs))) : wpAny (model X.prog X.w) X.A (call (.builtin "sorted") us) (EP X pins σ Q) X.xe s := by
  obtain ⟨a, vs, rfl, ha, ra⟩ := sm.lst rd h
  unfold sortD at hs
  split at hs
  · rename_i ns hn
    cases hs
    have ev := intsOf_rep ra hn
    exact cr_sortedI pins s σ H _ us Q I r ⟨a, ns, rfl, .inl (ev ▸ ha), fun ns' p h1 h2 h3 => by
      have e : ns' = srtB leI ns := srtB_eq leI_tot leI_tr leI_an h1 (h2.imp fun {x y} z => decide_eq_true z)
      exact q _ (by rw [e]; exact RepL.ints _) p h3⟩
  · split at hs
    · rename_i zs hz
      split at hs
      · rename_i h64
        cases hs
        have ev := strsOf_rep ra hz
        exact cr_sortedS pins s σ H _ us Q I r ⟨a, zs, rfl, .inl (ev ▸ ha), h64, fun zs' p h1 h2 h3 => by
          have e : zs' = srtB leS zs := srtB_eq leS_tot leS_tr leS_an h1 (sortedS_pw _ h2)
          exact q _ (by rw [e]; exact RepL.strs _) p h3⟩
      · cases hs
    · obtain ⟨ps, hp, e⟩ := Option.map_eq_some_iff.mp hs
      subst e
      obtain ⟨its, rv, hl, hz⟩ := I.list (.inl ha)
      rw [L2.Vals.ref1 r]
      obtain ⟨h1, h2⟩ := prs_rep I sm ra hp rv
      refine SrtO.sorted_ord (M3N.swo_P (psOf s.heap)) hl.isList (by rw [← rv.length]; exact hz) (fun hlen h₁ a' ha' keep => ?_) fun out hsr hst => ?_
      · refine M3N.ps_sortable (by omega) (fun u hu => ?_) (fun o ho => ?_)
        · obtain ⟨b, o, t, u', n, e, ho, hc, hd⟩ := (h2 u hu).1
          exact ⟨b, o, t, u', n, e, (keep b o ho).2, hc, hd⟩
        · have ho : h₁.get? a' = some o := ho
          rw [ha'] at ho
          cases ho
          show Value.type "list" ≠ Value.type "tuple"
          decide
      · obtain ⟨ep, he'⟩ := PyProof.Rows.sortedAll_at s.heap its out.toArray
        have h3 : ∀ u ∈ out, ∃ b, u = .ref b ∧ Rep ca g (.ref b) (prD (psOf s.heap u)) := fun u hu => (h2 u (hst.perm.mem_iff.mp hu)).2
        have e : out.map (psOf s.heap) = srtB leP ps := by
          refine srtB_eq leP_tot leP_tr leP_an ?_ ?_
          · rw [← h1]; exact hst.perm.map _
          · refine List.pairwise_map.mpr (hsr.imp fun {x y} z => ?_)
            have z : M3N.ltP (psOf s.heap y) (psOf s.heap x) = false := z
            unfold M3N.ltP at z
            rw [Bool.not_eq_false'] at z
            exact z
        have hlen : (out.map backV).length ≤ sizeLine := by rw [List.length_map, hst.perm.length_eq, ← rv.length]; exact hz
        refine ⟨.ref _, upd H (s.heap.objs.size + 1) (.lst (out.map backV)), I.laid (t' := s.toks) (fun _ _ => PyProof.Rows.sortedAll_old) (Nat.le_succ _) ⟨hlen, out, ep, vals_back (fun u hu => let ⟨b, e, _⟩ := h3 u hu; ⟨b, e⟩), he'⟩, rfl, q _ ?_ _ (I.hok.fresh (Nat.le_succ _))⟩
        have e2 : (srtB leP ps).map prD = out.map fun u => prD (psOf s.heap u) := by
          rw [← e, List.map_map]
          rfl
        rw [e2]
        exact repL_back h3
def sortF : OL := fun ds S => match ds with
  | [d] => match lstOf S d with
    | some xs => (sortD xs).map fun ys => (.lst ys, S)
    | none => none
  | _ => none
def sortC : OL := fun ds S => match ds with
  | [d] => match lstOf S d with
    | some xs => (sortD xs).map fun ys => (.cell S.nx, S.new (.lst ys))
    | none => none
  | _ => none
theorem call_sortF : CallR X (.builtin "sorted") (rdOL ca sortF) := by
  intro pins s σ H xs us Q I r ⟨g, S, ds, sm, rl, h⟩
  unfold sortF at h
  split at h
  · obtain ⟨v, rfl, rd⟩ := rl.one
    split at h
    · rename_i ys hy
      cases q : sortD ys with
      | none => rw [q] at h; exact h.elim
      | some zs => rw [q] at h; exact call_sortAny I r sm rd hy q fun vs rv => newLst sm rv h
    · exact h.elim
  · exact h.elim
theorem call_sortC : CallR X (.builtin "sorted") (rdOL ca sortC) := by
  intro pins s σ H xs us Q I r ⟨g, S, ds, sm, rl, h⟩
  unfold sortC at h
  split at h
  · obtain ⟨v, rfl, rd⟩ := rl.one
    split at h
    · rename_i ys hy
      cases q : sortD ys with
      | none => rw [q] at h; exact h.elim
      | some zs => rw [q] at h; exact call_sortAny I r sm rd hy q fun vs rv => newLstC sm rv h
    · exact h.elim
  · exact h.elim
end
end M3
/-! M3T: the number of unlike texts, by a set comprehension. -/
namespace M3N
open PySem L2
/-- a set of texts in the making -/
def SetT (P : Program) (w : World) (a : Addr) (S : Str → Bool) (n : Nat) : HO := .ext fun h => h.SetOf (strKind P w) a S n
section
variable {P : Program} {w : World}
theorem setOf_keep {h h' : Heap} {a : Addr} {S : Str → Bool} {n : Nat} (x : h.SetOf (strKind P w) a S n) (k : ∀ o, h.get? a = some o → h'.get? a = some o) : h'.SetOf (strKind P w) a S n := by
  obtain ⟨o, es, ep, t, ho, r⟩ := x
  exact ⟨o, es, ep, t, k o ho, r⟩
theorem setT_new {H : Hp} {h : Heap} {a : Addr} {S : Str → Bool} {n : Nat} (x : h.SetOf (strKind P w) a S n) : ObjOk P w H h a (SetT P w a S n) := by
  have ⟨o, _, _, _, ho, _⟩ := x
  exact ⟨x, ⟨o, ho⟩, fun h1 h2 p k => setOf_keep p k⟩
variable {A : Around} {E : Value → Shared → Prop} {s : Shared}
theorem add_text {a : Addr} {S : Str → Bool} {n : Nat} {y : Str} {t : Tok} {Q : Value → Shared → Prop} (hS : s.heap.SetOf (strKind P w) a S n) (room : n + 1 < scanBound)
    (hQ : ∀ h' tk, Heap.SameBut a s.heap h' → h'.SetOf (strKind P w) a (fun j => S j || decide (j = y)) (if S y = true then n else n + 1) → Q .none { s with heap := h', toks := tk }) :
    wpAny (model P w) A (call (.builtin "set.add") [.ref a, .str y t]) Q E s := by
  have hk : (strKind P w).is y (.str y t) = true := by show (y == y) = true; exact beq_self_eq_true y
  refine wpAny_call_entry F.slot_set_add hS.typeIs F.entry_set_add ?_ (F.args_set_add_2 _ _)
  unfold Builtin.«set.add» Builtin.Frozenset.oneOther
  simp only [List.isEmpty_nil, bind_assoc]
  unfold Builtin.Frozenset.addrOf setAdd
  refine wpAny_bind (wpAny_pure ?_)
  try dsimp only
  refine wpAny_bind (wpAny_pure ?_)
  try dsimp only
  refine wpAny_bind (wpAny_holding ?_)
  refine wpAny_bind ((strKind P w).pyHash hk ?_)
  refine wpAny_setAddHashed_of hk rfl hS room fun h' sb r => ?_
  show wpAny _ _ (ret Value.none) _ _ _
  exact wpAny_pure ⟨_, rfl, hQ h' _ sb r⟩
end
section
variable {X : Cx} {pins : List (Addr × Obj)} {σ : L2.St} {H : Hp} {s : Shared} {E : Value → Shared → Prop}
theorem put_text {D : Addr} {S : Str → Bool} {n : Nat} {y : Str} {u : Value} {Q : Value → Shared → Prop} (I : Inv X pins σ H s) (hD : H D = some (SetT X.prog X.w D S n)) (room : n + 1 < scanBound) (r : RelV (.str y) u)
    (h : ∀ s', Inv X pins σ (upd H D (SetT X.prog X.w D (fun j => S j || decide (j = y)) (if S y = true then n else n + 1))) s' → Q .none s') : wpAny (model X.prog X.w) X.A (call (.builtin "set.add") [.ref D, u]) Q E s := by
  obtain ⟨t, rfl⟩ := r
  refine add_text (I.hok D _ hD).1 room fun h' tk sb new => h _ ?_
  have ⟨o, _, _, _, ho, _⟩ := new
  exact I.write (e := D) (t' := tk) (by rw [hD]; trivial) (.inl rfl) (fun b u hb hu => (sb.2 b hb).trans hu) ⟨o, ho⟩ (setT_new new)
end
section
variable {X : Cx}
/-- {elt for tg in iter}, texts: D the new set, W by the turn and a measure -/
def tSt (P : Program) (w : World) (wi : TI) (g : TG) (te : TE) (vs : List Nat) : TE := fun σ H Q => wi σ H fun J H1 => ∀ D, H1 D = none → ∃ W : Nat → Nat → Hp → Prop, (∃ m, W 0 m (upd H1 D (SetT P w D (fun _ => false) 0))) ∧ ∀ i m H, W i m H →
  (J.stop i H ∧ Q (.ref D) H) ∨ (J.go i H ∧ ∃ Nx : Hp → Prop, (∀ H', Nx H' → ∃ m', m' < m ∧ W (i + 1) m' H') ∧ ∀ x H', J.yld i H x H' → g x (wipe σ vs) H' fun σ2 H2 => wipe σ2 vs = wipe σ vs ∧ te σ2 H2 fun y H4 =>
    ∃ (z : Str) (S : Str → Bool) (n : Nat), y = .str z ∧ H4 D = some (SetT P w D S n) ∧ n + 1 < scanBound ∧ Nx (upd H4 D (SetT P w D (fun j => S j || decide (j = z)) (if S z = true then n else n + 1))))
/-- what lies behind one turn of the block -/
def Behind (X : Cx) (σ0 : L2.St) (tn : Nat → Heap → Prop) (fp : List Addr) (W : Nat → Nat → Hp → Prop) (n : Nat) (s : Shared) : Prop := ∃ i H, Inv X [] σ0 H s ∧ tn i s.heap ∧ (∀ b ∈ fp, H b = none) ∧ W i n H
theorem fp_blk {X : Cx} {s0 s : Shared} {H0 H : Hp} {scope : Scope} {ce : Env} {fp : List Addr} {σ : L2.St} (I : Inv (X.blk s0 H0 scope ce fp) [] σ H s) (n : ∀ b ∈ fp, H b = none) : ∀ b ∈ fp, FpOk (X.blk s0 H0 scope ce fp) [] H b :=
  fun b hb => ⟨n b hb, (I.ok.exf b hb).1, I.ok.exfs b hb, .inl hb, fun x c e => (I.ok.exf b hb).2 x c e, fun p hp => by cases (show p ∈ ([] : List (Addr × Obj)) from hp)⟩
theorem pe_st {elt tg iter : Expr} {scope : Scope} {own : List (Str × Nat)} {pos : Pos} {wi : TI} {g : TG} {te : TE} (hc : X.calm = true) (hN : X.N.Nodup) (hi : PI X tg iter wi) (ok : BlkOk X.N X.env.scope scope own)
    (hg : ∀ (s : Shared) (H : Hp) (C : Addr) (cl : List (Str × Addr)) (fp : List Addr), PG (X.blk s H scope (compEnvC scope cl C X.env) fp) tg g)
    (he : ∀ (s : Shared) (H : Hp) (C : Addr) (cl : List (Str × Addr)) (fp : List Addr), PE (X.blk s H scope (compEnvC scope cl C X.env) fp) elt te) (hs : ∀ x, foldedSetIterable iter X.env x = pure x) :
    PE X (.SetComp elt [⟨tg, iter, [], 0⟩] scope pos) (tSt X.prog X.w wi g te (own.map (·.2))) := by
  refine ⟨fun pins s σ H Q I h => ?_⟩
  rw [PpSet.eval_SetComp]
  have clo : ∀ y ∈ scope.names, y.2 = .free → ∃ c, X.env.cells.lookup y.1 = some c := fun y hy e => (ok.free y hy e).elim (fun k => I.ok.has _ (.inl k)) fun k => I.ok.has _ (.inr k)
  refine wpAny_comprehension_free (use := none) rfl hs (closure_ok clo) ok.kind (fun y hy e => by rw [ok.uniq y hy, e]) (thn (hi.run pins s σ H _ I h) fun xv s1 hx => thn hx fun itv s2 h2 => ?_)
  obtain ⟨it, fp, tn, J, H2, rfl, I2, T, st2, f2, q⟩ := h2
  refine wpAny_newSet_of (knd := strKind X.prog X.w) fun led fresh => newEnv_comp ?_
  obtain ⟨W, ⟨m0, w0⟩, turn⟩ := q s2.heap.objs.size (I2.hok.fresh (Nat.le_refl _))
  have J3 : Inv X pins σ (upd H2 s2.heap.objs.size (SetT X.prog X.w s2.heap.objs.size (fun _ => false) 0)) { s2 with heap := s2.heap.push { cls := .type "set", dict := none, data := .set #[] 0 (.fresh 0 0 led) } } :=
    I2.laid (t' := s2.toks) (fun b o e => Heap.get?_push_of_some _ e) (Nat.le_refl _) (setT_new fresh)
  have lt2 : ∀ b ∈ fp, b < s2.heap.objs.size := fun b hb => let ⟨_, e, _⟩ := T.obj _ _ st2 b hb; Heap.lt_size e
  generalize hD : s2.heap.objs.size = D at *
  generalize hs3 : ({ s2 with heap := s2.heap.push { cls := .type "set", dict := none, data := .set #[] 0 (.fresh 0 0 led) } } : Shared) = s3 at *
  have size3 : s3.heap.objs.size = D + 1 := by rw [← hs3, ← hD]; exact Heap.size_push ..
  have st3 : tn 0 s3.heap := T.keep _ _ _ st2 fun b _ o e => by rw [← hs3]; exact Heap.get?_push_of_some _ e
  generalize hH3 : upd H2 D (SetT X.prog X.w D (fun _ => false) 0) = H3 at *
  have n3 : ∀ b ∈ fp, H3 b = none := fun b hb => by rw [← hH3, upd_ne (Nat.ne_of_lt (lt2 b hb))]; exact (f2 b hb).1
  have f3 : ∀ b ∈ fp, FpOk X pins H3 b ∧ b < s3.heap.objs.size := fun b hb => ⟨⟨n3 b hb, (f2 b hb).2⟩, by rw [size3]; exact Nat.lt_succ_of_lt (lt2 b hb)⟩
  have I4 := block_start J3 ok hN f3
  have pg := hg s3 H3 s3.heap.objs.size (cellsFrom (s3.heap.objs.size + 1) scope.names (cloFrom X.env.cells scope.names [])) fp
  have pe := he s3 H3 s3.heap.objs.size (cellsFrom (s3.heap.objs.size + 1) scope.names (cloFrom X.env.cells scope.names [])) fp
  have eh : s3.heap = s2.heap.push { cls := .type "set", dict := none, data := .set #[] 0 (.fresh 0 0 led) } := by rw [← hs3]
  show codeAny _ _ (.compStart (.SetComp elt [⟨tg, iter, [], 0⟩] scope pos) 0 (.ref it) (.ref D) (compEnvC scope (cellsFrom (s3.heap.objs.size + 1) scope.names (cloFrom X.env.cells scope.names [])) s3.heap.objs.size X.env)) (compPost (model X.prog X.w) X.A X.xe none (EP X pins σ Q) (.ref D) s3.heap.objs.size) { s3 with heap := pushCells (s3.heap.push { cls := .type "dict", data := .dict #[] }) scope.names }
  generalize hce : compEnvC scope (cellsFrom (s3.heap.objs.size + 1) scope.names (cloFrom X.env.cells scope.names [])) s3.heap.objs.size X.env = ce at I4 pg pe ⊢
  have cL : ce.locals = s3.heap.objs.size := by rw [← hce]; rfl
  generalize hs4 : ({ s3 with heap := pushCells (s3.heap.push { cls := .type "dict", data := .dict #[] }) scope.names } : Shared) = s4 at I4 ⊢
  have st4 : tn 0 s4.heap := T.keep _ _ _ st3 fun b _ o e => by rw [← hs4]; exact pushCells_keeps _ _ _ _ (Heap.get?_push_of_some _ e)
  have loop : codeAny (model X.prog X.w) X.A (.compLoop (.SetComp elt [⟨tg, iter, [], 0⟩] scope pos) 0 (.ref it) (.ref D) ce) (compPost (model X.prog X.w) X.A X.xe none (EP X pins σ Q) (.ref D) s3.heap.objs.size) s4 := by
    refine PpSet.compLoopS_any (Behind (X.blk s3 H3 scope ce fp) (wipe σ (own.map (·.2))) tn fp W) ?_ m0 ⟨0, H3, I4, st4, n3, w0⟩
    rintro n s5 ⟨i, H5, I5, st5, n5, w5⟩
    rcases turn i n H5 w5 with ⟨stop, qq⟩ | ⟨go, Nx, hNx, step⟩
    · refine thnF (T.done (X.blk s3 H3 scope ce fp) rfl rfl rfl hc i [] s5 _ H5 (fun _ _ => False) I5 (fp_blk I5 n5) st5 stop) fun r s6 ⟨hr, I6⟩ => ?_
      subst hr
      have I7 : Inv X pins σ H5 s6 := J3.call' (ch := fp) I6.os I6.base I6.hok I6.bare fun b hb => by
        obtain ⟨⟨_, k1, _, k2, k3, k4⟩, _⟩ := f3 b hb
        exact ⟨k2, k1, k3, k4⟩
      obtain ⟨m, hn, _⟩ := I6.loc
      have hn : s6.heap.Ns ce.locals m := hn
      have nC : H5 ce.locals = none := I6.free
      rw [cL] at hn nC
      obtain ⟨k0, k1, k2, k3, k4, k5⟩ := J3.fpOk (Nat.le_refl _) nC
      exact ⟨m, hn, fun h'' sb => ⟨.ref D, H5, I7.turned (t' := s6.toks) (fun b o hb e => (sb.2 b hb).trans e) k0 k1 k3 k4 k5, rfl, qq⟩⟩
    · refine thnF (T.item (X.blk s3 H3 scope ce fp) rfl rfl rfl hc i [] s5 _ H5 (fun _ _ => False) I5 (fp_blk I5 n5) st5 go) fun r s6 ⟨u, hr, h6⟩ => ?_
      subst hr
      refine thnF h6 fun _ s7 ⟨x, H7, I7, r7, y7, st7, n7⟩ => ?_
      refine thnF (pg.run _ s7 _ H7 x u _ (I7.pinned (fp_blk I7 n7) (T.obj _ _ st7)) r7 (step x H7 y7)) fun _ s8 ⟨σ8, H8, I8, hw8, q8⟩ => ?_
      refine wpAny_tests_nil ?_
      rw [if_pos rfl]
      refine thnF (pe.run _ s8 σ8 H8 _ I8 q8) fun z s9 ⟨yv, H9, I9, r9, zt, S0, n0, ey, hD9, hz9, nx⟩ => ?_
      subst ey
      refine put_text (X := X.blk s3 H3 scope ce fp) I9 hD9 hz9 r9 fun s10 I10 => ?_
      obtain ⟨m', hm, w'⟩ := hNx _ nx
      have pin : ∀ b ∈ fp, ∀ o, s7.heap.get? b = some o → s10.heap.get? b = some o ∧ (upd H9 D (SetT X.prog X.w D (fun j => S0 j || decide (j = zt)) (if S0 zt = true then n0 else n0 + 1))) b = none := fun b hb o e => by
        have z := I10.pin (b, o) (List.mem_append_right _ (List.mem_append_right _ (mem_pinsAt hb e)))
        exact ⟨z.1, z.2.1⟩
      refine ⟨m', hm, i + 1, _, (I10.unpinned (pins := [])).weak (by rw [← hw8, wipe_length]) (fun j v e => ?_), T.keep _ _ _ st7 fun b hb o e => (pin b hb o e).1, fun b hb => ?_, w'⟩
      · rw [← hw8] at e
        exact (wipe_some e).1
      · obtain ⟨o, e, _⟩ := T.obj _ _ st7 b hb
        exact (pin b hb o e).2
  exact PpSet.codeAny_compStart_set loop (T.self X.A 0 _ _ _ st4 loop)
end
end M3N

namespace M3
open PySem L2
variable {ca : CAK}
/-- how many unlike texts, beside the seen ones -/
def dstF (seen : List Str) : List Str → Nat
  | [] => 0
  | z :: r => (if z ∈ seen then 0 else 1) + dstF (z :: seen) r
def stL (t : GT) (el : CE) (v : Ev) : List D → S3 → R (List Str)
  | [], S => .ok [] S
  | d :: ds, S => match t d v S with
    | some (v1, S1) => (noEx (el v1 S1)).bind fun y S2 => match y with
      | .str z => (stL t el v ds S2).bind fun zs S3 => .ok (z :: zs) S3
      | _ => .bad
    | none => .bad
def lenSt (vs : List Nat) (src : CS) (t : GT) (el : CE) : CE := fun v S => (src v S).bind fun p S1 => if p.1.length ≤ 1000 then (unlR p.2 (noEx (stL t el (wipeD v vs) p.1 S1))).bind fun zs S2 => .ok (.int (dstF [] zs : Nat)) S2 else .bad
section
variable {X : Cx} {W : WX} {pos p spos : Pos}
theorem call_lenT : CallR X (.builtin "len") (fun xs H Q => ∃ D S n, xs = [.ref D] ∧ H D = some (M3N.SetT X.prog X.w D S n) ∧ n ≤ 1000 ∧ Q (.int (n : Nat)) H) := by
  intro pins s σ H xs us Q I r ⟨D, S, n, ex, hD, hn, q⟩
  subst ex
  rw [L2.Vals.ref1 r]
  obtain ⟨o, es, ep, t, ho, hex, hd, _, _, _, hf, hn2⟩ := (I.hok D _ hD).1
  exact call_len_set ho hex hd hf (by rw [hn2]; omega) ⟨.int n, H, I.tok _, ⟨_, by rw [hn2]⟩, q⟩
theorem sd_lenSt {elt tg iter : Expr} {scope : Scope} {own : List (Str × Nat)} {src : CS} {t : GT} {sl : List Nat} {me : CE} (hc : X.calm = true) (hN : X.N.Nodup) (hi : PI X tg iter (rdI ca X W src)) (ok : blkC X.N X.env.scope scope own = true)
    (hg : ∀ (s : Shared) (H : Hp) (C : Addr) (cl : List (Str × Addr)) (fp : List Addr), PG (X.blk s H scope (compEnvC scope cl C X.env) fp) tg (rdG ca sl t))
    (he : ∀ (s : Shared) (H : Hp) (C : Addr) (cl : List (Str × Addr)) (fp : List Addr), SD ca (X.blk s H scope (compEnvC scope cl C X.env) fp) WF elt me) (hgl : Gl X "len") (hm : X.mg "len" = none) (hv : bootBuiltins "len" = some (.builtin "len")) (hsl : ∀ j, j ∈ sl → j ∈ own.map (·.2) := by decide) (hs : ∀ x, foldedSetIterable iter X.env x = pure x := by intro _; rfl)
    (h1 : starEach [.SetComp elt [⟨tg, iter, [], 0⟩] scope pos] X.env = (false, eval (.SetComp elt [⟨tg, iter, [], 0⟩] scope pos) X.env) :: starEach [] X.env := by rfl)
    (hw : ∀ whole, isTrue (.Call (.Name "len" p) [.SetComp elt [⟨tg, iter, [], 0⟩] scope pos] [] spos) X.env whole = (do let v ← whole; standAt (Expr.Call (.Name "len" p) [.SetComp elt [⟨tg, iter, [], 0⟩] scope pos] [] spos).pos; holding [v] (truthy v)) := by intro _; rfl) :
    SD ca X W (.Call (.Name "len" p) [.SetComp elt [⟨tg, iter, [], 0⟩] scope pos] [] spos) (lenSt (own.map (·.2)) src t me) := by
  refine .of (PE_imp (pe_unlA (pe_callB call_lenT hgl hm hv (pa_cons (M3N.pe_st hc hN hi (blkOk_by ok) hg (fun s H C cl fp => (he s H C cl fp).pe) hs) pa_nil h1) (by decide) (by decide) h1 rfl)) ?_) hw
  rintro σ H Q ⟨v, S, g, s, e, h⟩
  show M3N.tSt X.prog X.w (rdI ca X W src) (rdG ca sl t) (rdE ca WF me) (own.map (·.2)) σ H (fun x H1 => ∃ (D : Addr) (S : Str → Bool) (n : Nat), [x] = [V.ref D] ∧ H1 D = some (M3N.SetT X.prog X.w D S n) ∧ n ≤ 1000 ∧ (Q (V.int ↑n) H1 ∨ ∃ d od u, H1 d = some (.frz od u) ∧ (∀ o' u', X.H_0 d ≠ some (.frz o' u')) ∧ Q (V.int ↑n) (upd H1 d u)))
  refine ⟨v, S, g, s, e, ?_⟩
  generalize hvs : own.map (·.2) = vs at *
  unfold lenSt at h
  cases q : src v S with
  | bad => rw [q] at h; exact h.elim
  | ex er S' => rw [q] at h; exact h
  | ok p S1 =>
    obtain ⟨ds, un⟩ := p
    rw [q] at h
    intro g1 H1 J lk le s1 wk D hD
    have h : Fin ca g H (if ds.length ≤ 1000 then (unlR un (noEx (stL t me (wipeD v vs) ds S1))).bind fun zs S2 => .ok (.int (dstF [] zs : Nat)) S2 else .bad) (fun d g' H' => ∀ x, Rep ca g' x d → Q x H') _ := h
    split at h
    · rename_i hz
      have h0 := lk.none hD
      have h1 := unlR_ok (QE' := fun _ _ _ => False) lk h
      clear h
      have e0 : EnvR ca g1 (wipeD v vs) (wipe σ vs) := (e.mono le).wipe vs
      let QO : Nat → Wld → Hp → Prop := fun k => Un2 X fun g2 H2 => ∃ S', Sim ca g2 S' H2 ∧ Ext g H g2 H2 ∧ Fin ca g H (.ok (.int (k : Nat)) S') (fun d g' H' => ∀ x, Rep ca g' x d → Q x H') (fun e g' H' => ∀ cls od, RepX ca g' H' cls od e → W cls od σ H')
      let P : Nat → Hp → Prop := fun i H' => ∃ g' S' seen Sf n, Ext g1 H1 g' H' ∧ Sim ca g' S' H' ∧ Out g' D ∧ H' D = some (M3N.SetT X.prog X.w D Sf n) ∧ (∀ j, Sf j = decide (j ∈ seen)) ∧ n ≤ i ∧
        Fin ca g1 H1 ((stL t me (wipeD v vs) (ds.drop i) S').bind fun zs S4 => .ok (n + dstF seen zs) S4) QO (fun _ _ _ => False)
      have start : P 0 (upd H1 D (M3N.SetT X.prog X.w D (fun _ => false) 0)) := by
        refine ⟨g1, S1, [], _, 0, (Ext.refl g1 H1).upd hD _, s1.updOut (s1.freshOut hD), s1.freshOut hD, upd_same, fun j => by simp, Nat.le_refl _, ?_⟩
        rw [List.drop_zero]
        revert h1
        cases stL t me (wipeD v vs) ds S1 with
        | ok a S =>
          intro h1
          show Fin ca g1 H1 (.ok (0 + dstF [] a) S) _ _
          rw [Nat.zero_add]
          exact h1
        | ex a S => exact fun h1 => h1
        | bad => exact fun h1 => h1
      refine ⟨fun i m H' => m = ds.length - i ∧ i ≤ ds.length ∧ P i H', ⟨ds.length, by simp, Nat.zero_le _, start⟩, ?_⟩
      rintro i m H' ⟨rfl, hi, g', S', seen, Sf, n, x', s', o', hD', hSf, hl, h'⟩
      by_cases hlt : i < ds.length
      · refine .inr ⟨wk.go i g' H' S' hlt x'.w s', P (i + 1), fun H2 p2 => ⟨ds.length - (i + 1), by omega, rfl, hlt, p2⟩, fun x H2 y => ?_⟩
        obtain ⟨g2, x2, s2, r2⟩ := wk.yld i g' H' S' ds[i] x H2 (List.getElem?_eq_getElem hlt) x'.w s' y
        have x12 := x'.trans x2
        refine ⟨wipeD v vs, g2, S', ds[i], s2, e0.mono x12.le, r2, ?_⟩
        rw [List.drop_eq_getElem_cons hlt] at h'
        unfold stL at h'
        cases qt : t ds[i] (wipeD v vs) S' with
        | none => rw [qt] at h'; exact h'.elim
        | some p =>
          obtain ⟨v1, S1'⟩ := p
          rw [qt] at h'
          refine fun g3 H3 x3 s3 σ3 e3 off => ⟨(wipe_off off hsl).trans (wipe_wipe vs), v1, S1', g3, s3, e3, ?_⟩
          dsimp only at h'
          rw [R.bind_assoc] at h'
          refine (Fin.noEx (Fin.seqB h' (x12.trans x3))).imp (fun d g4 H4 x4 ⟨S4, s4, x4', x14, h4⟩ yv ry => ?_) fun _ _ _ _ z => z
          have xD : Ext g' H' g4 H4 := (x2.trans x3).trans x4
          have oD4 := xD.out o' (by rw [hD']; exact fun z => nomatch z)
          have hD4 := xD.rest D _ hD' o'
          cases d with
          | str z =>
            cases ry
            have h4 : Fin ca g1 H1 (((stL t me (wipeD v vs) (ds.drop (i + 1)) S4).bind fun zs S3 => .ok (z :: zs) S3).bind fun zs S4 => .ok (n + dstF seen zs) S4) QO (fun _ _ _ => False) := h4
            refine ⟨z, Sf, n, rfl, hD4, by have : i < 1000 := Nat.lt_of_lt_of_le hlt hz; have : scanBound = 4096 := (by rfl); omega, g4, S4, z :: seen, _, _, x14.upd hD _, s4.updOut oD4, oD4, upd_same, fun j => ?_, ?_, ?_⟩
            · rw [hSf j]
              by_cases e1 : j ∈ seen <;> by_cases e2 : j = z <;> simp [e1, e2]
            · split <;> omega
            · rw [R.bind_assoc] at h4
              revert h4
              cases stL t me (wipeD v vs) (ds.drop (i + 1)) S4 with
              | ok a S =>
                intro h4
                have ea : (if Sf z = true then n else n + 1) + dstF (z :: seen) a = n + dstF seen (z :: a) := by
                  have ed : dstF seen (z :: a) = (if z ∈ seen then 0 else 1) + dstF (z :: seen) a := rfl
                  rw [hSf z, ed]
                  by_cases e1 : z ∈ seen
                  · rw [if_pos e1, if_pos (decide_eq_true e1), Nat.zero_add]
                  · rw [if_neg e1, if_neg (by rw [decide_eq_false e1]; exact Bool.false_ne_true)]; omega
                show Fin ca g1 H1 (.ok ((if Sf z = true then n else n + 1) + dstF (z :: seen) a) S) _ _
                rw [ea]
                exact h4
              | ex a S => exact fun h => h
              | bad => exact fun h => h
          | _ => exact h4.elim
      · have ei : i = ds.length := by omega
        subst ei
        rw [List.drop_length] at h'
        have h' : Fin ca g1 H1 (.ok (n + 0) S') QO _ := h'
        rw [Nat.add_zero] at h'
        refine .inl ⟨wk.stop g' H' S' x'.w s', D, Sf, n, rfl, hD', by omega, ?_⟩
        rcases h' g' H' x' s' with ⟨S2, s2, x2, h2⟩ | ⟨d, od, u, e1, nf, S2, s2, x2, h2⟩
        · exact .inl (h2 g' H' x2 s2 _ (.int _))
        · exact .inr ⟨d, od, u, e1, nf, h2 g' _ x2 s2 _ (.int _)⟩
    · exact h.elim
end
end M3
/-! M3U: str of data; defs that are run where no text is being made. -/
namespace M3
open PySem L2
variable {ca : CAK}
/-! ### data as it is read -/
def pdFlat : D → Option PyData
  | .non => some .none
  | .bl b => some (.bool b)
  | .int i => if i.natAbs.log2 < 1920 then some (.int i) else none
  | .str z => some (.str z)
  | _ => none
def pdAll (f : D → Option PyData) : List D → Option (List PyData)
  | [] => some []
  | d :: r => match f d, pdAll f r with
    | some x, some xs => some (x :: xs)
    | _, _ => none
/-- lists and tuples, no dicts -/
def pdN (S : S3) : Nat → D → Option PyData
  | 0, _ => none
  | n + 1, d => match pdFlat d with
    | some x => some x
    | none => match d with
      | .tup xs => (pdAll (pdN S n) xs).map .tuple
      | d => match lstOf S d with
        | some xs => (pdAll (pdN S n) xs).map .list
        | none => none
def pdKv : List (Key × D) → Option (List (PyData × PyData))
  | [] => some []
  | (k, d) :: r => match keyP k, pdFlat d, pdKv r with
    | some a, some b, some c => some ((a, b) :: c)
    | _, _, _ => none
/-- a dict of flat values, or no dict at all -/
def pdOf (S : S3) (d : D) : Option PyData := match dicOf S d with
  | some ks => (pdKv ks).map .dict
  | none => pdN S 6 d
/-- no longer than this is the text of a dict with symbolic numbers -/
def lenKv : List (Key × D) → Option Nat
  | [] => some 0
  | (k, d) :: r => match keyP k, pdFlatY (fun _ => 0) d, lenKv r with
    | some a, some b, some n => some (a.shown.length + 2 + (b.shown.length + 10) + n)
    | _, _, _ => none
def strF : OL := fun ds S => match ds with
  | [.str z] => some (.str z, S)
  | [d] => match pdFlat d with
    | some _ => none
    | none => match pdOf S d with
      | some p => if p.shown.length ≤ lim then some (.str p.shown, S) else none
      | none => match dicOf S d with
        | some ks => match lenKv ks with
          | some n => if n + 2 * ks.length + 3 ≤ lim then some (.txt ks, S) else none
          | none => none
        | none => none
  | _ => none
theorem flatY_of {y : Nat → Int} {d : D} {p : PyData} (h : pdFlat d = some p) : pdFlatY y d = some p := by
  cases d <;> first | exact h | cases h
theorem pdKv_Y {y : Nat → Int} : ∀ {ks : List (Key × D)} {ps : List (PyData × PyData)}, pdKv ks = some ps → pdKvY y ks = some ps
  | [], _, h => h
  | (k, d) :: r, ps, h => by
    unfold pdKv at h
    split at h
    · rename_i a b c e1 e2 e3
      cases h
      unfold pdKvY
      rw [e1, flatY_of e2, pdKv_Y e3]
    · cases h
theorem flatY_len {y : Nat → Int} (hy : ∀ k, 0 ≤ y k ∧ y k < 10 ^ 10) {d : D} {b : PyData} (h : pdFlatY (fun _ => 0) d = some b) : ∃ c, pdFlatY y d = some c ∧ c.shown.length ≤ b.shown.length + 10 := by
  cases d with
  | sym k =>
    cases h
    refine ⟨_, rfl, ?_⟩
    have z := PyProof.Rows.toString_length_le (hy k).1 (by decide : 0 < 10) (hy k).2
    simp only [PyData.shown]
    exact Nat.le_trans z (Nat.le_add_left _ _)
  | non => exact ⟨b, h, Nat.le_add_right _ _⟩
  | bl x => exact ⟨b, h, Nat.le_add_right _ _⟩
  | int i => exact ⟨b, h, Nat.le_add_right _ _⟩
  | str z => exact ⟨b, h, Nat.le_add_right _ _⟩
  | _ => cases h
theorem lenKv_ok {y : Nat → Int} (hy : ∀ k, 0 ≤ y k ∧ y k < 10 ^ 10) : ∀ {ks : List (Key × D)} {n : Nat}, lenKv ks = some n → ∃ ps, pdKvY y ks = some ps ∧ ((PyData.shownKv ps).map (·.length)).sum ≤ n ∧ (PyData.shownKv ps).length = ks.length
  | [], n, h => by
    cases h
    exact ⟨[], rfl, by simp [PyData.shownKv], by simp [PyData.shownKv]⟩
  | (k, d) :: r, n, h => by
    unfold lenKv at h
    split at h
    · rename_i a b c e1 e2 e3
      cases h
      obtain ⟨ps, h1, h2, h3⟩ := lenKv_ok hy e3
      obtain ⟨b', k1, k2⟩ := flatY_len hy e2
      refine ⟨(a, b') :: ps, by unfold pdKvY; rw [e1, k1, h1], ?_, by simp only [PyData.shownKv, List.length_cons, h3]⟩
      simp only [PyData.shownKv, List.map_cons, List.sum_cons]
      have e : (a.shown ++ (": " : Str) ++ b'.shown).length = a.shown.length + 2 + b'.shown.length := by
        rw [Str.length_append, Str.length_append]; rfl
      rw [e]
      omega
    · cases h
section
variable {X : Cx} {pins : List (Addr × Obj)} {σ : L2.St} {H : Hp} {s : Shared} {g : Wld} {S : S3}
theorem flat_reads {v : V} {u : Value} {d : D} {p : PyData} (r : Rep ca g v d) (ru : RelV v u) (h : pdFlat d = some p) : Reads s.heap u p [] ∧ p.showable = true ∧ p.hasDict = false ∧ p.depth = 0 := by
  cases d with
  | non => cases h; cases r; cases (show u = .none from ru); exact ⟨.none, by simp [PyData.showable], by simp [PyData.hasDict], by simp [PyData.depth]⟩
  | bl b => cases h; cases r; cases (show u = .bool b from ru); exact ⟨.bool b, by simp [PyData.showable], by simp [PyData.hasDict], by simp [PyData.depth]⟩
  | int i =>
    have h : (if i.natAbs.log2 < 1920 then some (PyData.int i) else none) = some p := h
    split at h
    · rename_i hz
      cases h; cases r
      obtain ⟨t, rfl⟩ := (show ∃ t, u = .int i t from ru)
      exact ⟨.int i t, by simp [PyData.showable, hz], by simp [PyData.hasDict], by simp [PyData.depth]⟩
    · cases h
  | str z => cases h; cases r; obtain ⟨t, rfl⟩ := (show ∃ t, u = .str z t from ru); exact ⟨.str z t, by simp [PyData.showable], by simp [PyData.hasDict], by simp [PyData.depth]⟩
  | _ => cases h
theorem flatY_reads {v : V} {u : Value} {d : D} {p : PyData} (r : Rep ca g v d) (ru : RelV v u) (h : pdFlatY ca.sy d = some p) : Reads s.heap u p [] ∧ p.showable = true ∧ p.hasDict = false ∧ p.depth = 0 := by
  cases d with
  | sym k =>
    cases h; cases r
    obtain ⟨t, rfl⟩ := (show ∃ t, u = .int (ca.sy k) t from ru)
    have hz : (ca.sy k).natAbs.log2 < 1920 := by
      have z := ca.syB k
      have z1 : (ca.sy k).natAbs < 2 ^ 1920 := Nat.lt_of_lt_of_le (m := 10 ^ 10) (by omega) (by decide +kernel)
      by_cases h0 : (ca.sy k).natAbs = 0
      · rw [h0]; decide
      · exact (Nat.log2_lt h0).mpr z1
    exact ⟨.int _ t, by simp [PyData.showable, hz], by simp [PyData.hasDict], by simp [PyData.depth]⟩
  | non => exact flat_reads (s := s) r ru (d := .non) h
  | bl b => exact flat_reads (s := s) r ru (d := .bl b) h
  | int i => exact flat_reads (s := s) r ru (d := .int i) h
  | str z => exact flat_reads (s := s) r ru (d := .str z) h
  | _ => cases h
theorem all_reads {f : D → Option PyData} {n : Nat} (hf : ∀ v u d p, Rep ca g v d → RelV v u → f d = some p → ∃ as, Reads s.heap u p as ∧ p.showable = true ∧ p.hasDict = false ∧ p.depth ≤ n) : ∀ {ds : List D} {vs : List V} {us : List Value} {ps : List PyData}, RepL ca g vs ds → Vals vs us → pdAll f ds = some ps →
    ∃ as, ReadsAll s.heap us ps as ∧ PyData.showableAll ps = true ∧ PyData.hasDictAll ps = false ∧ PyData.depthAll ps ≤ n
  | [], _, _, ps, .nil, .nil, h => by
    unfold pdAll at h
    cases h
    exact ⟨_, .nil, by simp [PyData.showableAll], by simp [PyData.hasDictAll], by simp [PyData.depthAll]⟩
  | d :: ds, _, [], ps, .cons r t, rv, h => nomatch rv
  | d :: ds, _, u :: us, ps, .cons r t, .cons ru tu, h => by
    unfold pdAll at h
    split at h
    · rename_i x xs e1 e2
      cases h
      obtain ⟨as, h1, h2, h3, h4⟩ := hf _ _ _ _ r ru e1
      obtain ⟨bs, k1, k2, k3, k4⟩ := all_reads hf t tu e2
      exact ⟨_, .cons h1 k1, by simp [PyData.showableAll, h2, k2], by simp [PyData.hasDictAll, h3, k3], by simp only [PyData.depthAll]; omega⟩
    · cases h
theorem pdN_reads (I : Inv X pins σ H s) (sm : Sim ca g S H) : ∀ (n : Nat) (v : V) (u : Value) (d : D) (p : PyData), Rep ca g v d → RelV v u → pdN S n d = some p → ∃ as, Reads s.heap u p as ∧ p.showable = true ∧ p.hasDict = false ∧ p.depth ≤ n
  | 0, v, u, d, p, r, ru, h => by unfold pdN at h; cases h
  | n + 1, v, u, d, p, r, ru, h => by
    unfold pdN at h
    split at h
    · rename_i x e
      cases h
      obtain ⟨h1, h2, h3, h4⟩ := flat_reads (s := s) r ru e
      exact ⟨_, h1, h2, h3, by omega⟩
    · split at h
      · obtain ⟨ps, e, e2⟩ := Option.map_eq_some_iff.mp h
        subst e2
        obtain ⟨a, vs, rfl, ha, ra⟩ := sm.tup r
        cases (show u = Value.ref a from ru)
        obtain ⟨_, its, rv, o, ho, hc, k, hd⟩ := I.hok a _ ha
        obtain ⟨as, h1, h2, h3, h4⟩ := all_reads (s := s) (fun v u d p => pdN_reads I sm n v u d p) ra rv e
        exact ⟨_, .tuple ho hc hd (by simpa using h1), by simp [PyData.showable, h2], by simp [PyData.hasDict, h3], by simp only [PyData.depth]; omega⟩
      · split at h
        · rename_i xs ex
          obtain ⟨ps, e, e2⟩ := Option.map_eq_some_iff.mp h
          subst e2
          obtain ⟨a, vs, rfl, ha, ra⟩ := sm.lst r ex
          cases (show u = Value.ref a from ru)
          obtain ⟨its, rv, ⟨o, k, ho, hc, hdn, hd⟩, _⟩ := I.list (.inl ha)
          obtain ⟨as, h1, h2, h3, h4⟩ := all_reads (s := s) (fun v u d p => pdN_reads I sm n v u d p) ra rv e
          exact ⟨_, .list ho hc hd (by simpa using h1), by simp [PyData.showable, h2], by simp [PyData.hasDict, h3], by simp only [PyData.depth]; omega⟩
        · cases h
theorem key_reads {k : Key} {u : Value} {p : PyData} (ru : keyIs k u = true) (h : keyP k = some p) : Reads s.heap u p [] ∧ p.showable = true ∧ p.hasDict = false ∧ p.depth = 0 := by
  rcases keyIs_shape ru with ⟨i, t, rfl, rfl⟩ | ⟨x, t, rfl, rfl⟩
  · have h : (if i.natAbs.log2 < 1920 then some (PyData.int i) else none) = some p := h
    split at h
    · rename_i hz
      cases h
      exact ⟨.int i t, by simp [PyData.showable, hz], by simp [PyData.hasDict], by simp [PyData.depth]⟩
    · cases h
  · cases h
    exact ⟨.str x t, by simp [PyData.showable], by simp [PyData.hasDict], by simp [PyData.depth]⟩
theorem kv_reads {P : Program} {w : World} : ∀ {ks : List (Key × D)} {kvs : List (Key × V)} {rs : List (Key × Value)} {es : List DictEntry} {ps : List (PyData × PyData)}, RepK ca g kvs ks → KV kvs rs → PySem.Pairs (mixKind P w) es rs → pdKvY ca.sy ks = some ps →
    ReadsAll s.heap (es.map (·.key)) (ps.map (·.1)) [] ∧ ReadsAll s.heap (es.map (·.val)) (ps.map (·.2)) [] ∧ PyData.showableKv ps = true ∧ PyData.depthKv ps = 0 := by
  intro ks
  induction ks with
  | nil =>
    intro kvs rs es ps rk kv pr h
    cases rk
    cases kv
    cases pr
    unfold pdKvY at h
    cases h
    exact ⟨.nil, .nil, by simp [PyData.showableKv], by simp [PyData.depthKv]⟩
  | cons kd ks ih =>
    intro kvs rs es ps rk kv pr h
    obtain ⟨k, d⟩ := kd
    cases rk with
    | cons r t =>
      cases kv with
      | cons e te =>
        cases pr with
        | cons hk hv pt =>
          unfold pdKvY at h
          split at h
          · rename_i a b c e1 e2 e3
            cases h
            obtain ⟨h1, h2, h3, h4⟩ := ih t te pt e3
            obtain ⟨ek, ev⟩ := e
            dsimp only at ek ev
            subst ek
            obtain ⟨k1, k2, k3, k4⟩ := key_reads (s := s) hk e1
            obtain ⟨f1, f2, f3, f4⟩ := flatY_reads (s := s) r ev e2
            exact ⟨.cons (as := []) (bs := []) k1 h1, .cons (as := []) (bs := []) (by dsimp only; rw [hv]; exact f1) h2, by simp [PyData.showableKv, k2, f2, h3], by simp only [PyData.depthKv]; omega⟩
          · cases h
theorem call_strF (hg : X.A.guards = some []) (hu : X.A.units + 64 < cLine) : CallR X (.type "str") (rdOL ca strF) := by
  intro pins s σ H xs us Q I r ⟨g, S, ds, sm, rl, h⟩
  unfold strF at h
  split at h
  · obtain ⟨v, rfl, rd⟩ := rl.one
    cases rd
    obtain ⟨u, eu, ru⟩ := L2.Vals.one r
    subst eu
    obtain ⟨t, rfl⟩ := (show ∃ t, u = .str _ t from ru)
    exact PySem.P.str_of_str ⟨.str _, H, I, ⟨t, rfl⟩, h.now sm _ (.str _)⟩
  · rename_i d _
    obtain ⟨v, rfl, rd⟩ := rl.one
    split at h
    · exact h.elim
    rename_i hfl
    split at h
    · rename_i p hp
      split at h
      · rename_i hz
        obtain ⟨u, eu, ru⟩ := L2.Vals.one r
        subst eu
        have fin : ∀ h' t tk, (∀ b o, s.heap.get? b = some o → h'.get? b = some o) → EP X pins σ Q (.str p.shown t) { s with heap := h', toks := tk } := fun h' t tk kp => ⟨.str p.shown, H, I.kept kp, ⟨t, rfl⟩, h.now sm _ (.str _)⟩
        unfold pdOf at hp
        split at hp
        · rename_i ks hk
          obtain ⟨ps, e, e2⟩ := Option.map_eq_some_iff.mp hp
          subst e2
          obtain ⟨a, kvs, rfl, ha, rk⟩ := sm.dic rd hk
          cases (show u = Value.ref a from ru)
          obtain ⟨_, hs, rs, kv, o, es, ep, ho, hx, hdt, _, pr, _⟩ := dk_rd I.hok ha
          obtain ⟨h1, h2, h3, h4⟩ := kv_reads (s := s) rk kv pr (pdKv_Y e)
          have rd' : Reads s.heap (.ref a) (.dict ps) (a :: [] ++ []) := .dict ho hx.1 hdt h1 h2
          refine PySem.str_of_reads rd' (by simp [PyData.showable, h3]) (fun _ hm => ?_) hg (by simp only [PyData.depth]; omega) (fun _ _ q => q) fin (Nat.le_trans hz lim_le)
          have : sysModules = a := by simpa using hm
          rw [this] at hs
          simp at hs
        · obtain ⟨as, h1, h2, h3, h4⟩ := pdN_reads I sm 6 v u d p rd ru hp
          have ⟨a, ea⟩ : ∃ a, u = .ref a := by
            cases rd with
            | non => cases hfl
            | bl b => cases hfl
            | str z => cases hfl
            | int i =>
              unfold pdN at hp
              rw [hfl] at hp
              cases hp
            | sym k =>
              unfold pdN at hp
              rw [hfl] at hp
              cases hp
            | txt e =>
              unfold pdN at hp
              rw [hfl] at hp
              cases hp
            | _ => exact ⟨_, ru⟩
          subst ea
          exact PySem.str_of_reads h1 h2 (PyData.noDict_hsm h3) hg (by omega) (fun _ _ q => q) fin (Nat.le_trans hz lim_le)
      · exact h.elim
    · split at h
      · rename_i ks hk
        split at h
        · rename_i n hn
          split at h
          · rename_i hz
            obtain ⟨u, eu, ru⟩ := L2.Vals.one r
            subst eu
            obtain ⟨ps, e, h5, h6⟩ := lenKv_ok ca.syB hn
            have hl : (PyData.dict ps).shown.length ≤ lim := by
              simp only [PyData.shown]
              exact Nat.le_trans (dictText_len_le _) (by rw [h6]; omega)
            have fin : ∀ h' t tk, (∀ b o, s.heap.get? b = some o → h'.get? b = some o) → EP X pins σ Q (.str (PyData.dict ps).shown t) { s with heap := h', toks := tk } := fun h' t tk kp => ⟨.str _, H, I.kept kp, ⟨t, rfl⟩, h.now sm _ (.txt e)⟩
            obtain ⟨a, kvs, rfl, ha, rk⟩ := sm.dic rd hk
            cases (show u = Value.ref a from ru)
            obtain ⟨_, hs, rs, kv, o, es, ep, ho, hx, hdt, _, pr, _⟩ := dk_rd I.hok ha
            obtain ⟨h1, h2, h3, h4⟩ := kv_reads (s := s) rk kv pr e
            have rd' : Reads s.heap (.ref a) (.dict ps) (a :: [] ++ []) := .dict ho hx.1 hdt h1 h2
            refine PySem.str_of_reads rd' (by simp [PyData.showable, h3]) (fun _ hm => ?_) hg (by simp only [PyData.depth]; omega) (fun _ _ q => q) fin (Nat.le_trans hl lim_le)
            have : sysModules = a := by simpa using hm
            rw [this] at hs
            simp at hs
          · exact h.elim
        · exact h.elim
      · exact h.elim
  · exact h.elim
end
end M3
/-! M3V: defs that are run where no text is being made; the law's end. -/
namespace M3N
open PySem PyProof.Rows L2
/-- a def's promise where no text is being made -/
structure FnG (P : Program) (w : World) (K : PySem.W.Frag) (mg : Str → Option Value) (base : Heap) (CX : CXT) (k : Nat) (f : Addr) (fd : FuncData) (ps : List Str) (sp : Sp) : Prop where
  len : ∀ vs H Q E, sp vs H Q E → vs.length = ps.length
  run : ∀ (A : Around) (outer : List Env) (s : Shared) (H : Hp) (args : Args) (us : List Value) (vs : List V) (Q : VK) (E : XK), Room k A → A.guards = some [] → Env0 P w K mg base A outer s H → BindsTo s fd args (ps.zip us) → Vals vs us → sp vs H Q E →
    codeAny (model P w) A (.call (.ref f) args) (CR CX outer P w H s Q E) s
section
variable {P : Program} {w : World} {K : PySem.W.Frag} {mg : Str → Option Value} {base : Heap} {x qual : Str} {params : Arguments} {body : List Stmt} {scope : Scope} {dvs : List V} {kws : List (Str × V)} {f : Addr} {fd : FuncData}
theorem fn_ofG {CX : CXT} {N ps : List Str} {k : Nat} {sp : Sp} (F : FunD K x qual params body scope dvs kws f fd) (S : FnScope N ps scope) (len : ∀ vs H Q E, sp vs H Q E → vs.length = ps.length)
    (hbody : ∀ (cdv : Value) (A : Around) (outer : List Env) (s : Shared) (H : Hp) (vs : List V) (Q : VK) (E : XK), Room k (A.deeper (envOfC qual scope s.heap.objs.size f cdv)) → (A.deeper (envOfC qual scope s.heap.objs.size f cdv)).guards = some [] → sp vs H Q E →
      ∃ t, PSs (cxOf CX P w K mg base N qual scope f cdv A outer s H E) body t ∧ t { nx := fun _ H' => Q .non H', rt := Q } (L2.start N vs) H) : FnG P w K mg base CX (k + 1) f fd ps sp := by
  obtain ⟨oc, od, dV, kV, doc, pm, an, cdv, ct, osl, rfl, lk, hcd, _, _⟩ := F.ex
  refine ⟨len, fun A outer s H args us vs Q E hr hg e0 hb r hsp => ?_⟩
  have old : ∀ b o, base.get? b = some o → s.heap.get? b = some o := fun b o e => (e0.bs b o e).1
  have KX : K.In s.heap := e0.mod.kin.keeps old
  have lim : s.heap.NoLimit := e0.mod.nolimit.keeps old
  refine codeAny_call_function hr.depth (KX _ _ lk) rfl S.co S.gen rfl (PySem.W.codeRec_of KX hcd) (hb _ _ _ _ ?_)
  refine wpAny_newFunctionEnv_cells S.kind (fun ⟨n, v⟩ hy => (S.par n (List.of_mem_zip hy).1).imp id fun q => ⟨q, PySem.W.cellsFrom_some _ _ _ (.inl q)⟩) fun env he s1 x => ?_
  subst he
  refine ⟨lim.keeps x.toInCall.keep, codeAny_func ?_⟩
  obtain ⟨t, ht, hq⟩ := hbody cdv A outer s H vs Q E (hr.deeper _) hg hsp
  refine wpAny_mono (ht.run [] s1 (L2.start N vs) H _ (inv_start S hr.hd e0 (len _ _ _ _ hsp) r x) hq) (fun fl s' hs => ?_) fun e s' hs => hs
  cases fl with
  | ret u => obtain ⟨v, σ', H', J, rv, q⟩ := hs; exact ⟨v, H', J.os, J.bare, J.base, J.hok, rv, q⟩
  | next => obtain ⟨σ', H', J, q⟩ := hs; exact ⟨V.non, H', J.os, J.bare, J.base, J.hok, rfl, q⟩
  | brk => obtain ⟨_, _, _, q⟩ := hs; exact False.elim q
  | cont => obtain ⟨_, _, _, q⟩ := hs; exact False.elim q
end
section
variable {X : Cx} {CX : CXT} {k : Nat} {f : Addr} {fd : FuncData} {ps : List Str} {sp : Sp} {E : L2.St → XK} {x : Str} {p pos : Pos} {e : Expr} {es : List Expr} {t : TA}
theorem pe_callG (F : FnG X.prog X.w X.K X.mg X.base CX k f fd ps sp) (hr : Room k X.A) (hgd : X.A.guards = some []) (hg : Gl X x) (hm : X.mg x = some (.ref f)) (hk : PySem.W.keepIn X.K (.ref f) = true) (hb : Binds X.K fd ps []) (hx : ∀ σ, PassesAt CX X σ (E σ))
    (ha : PA X (e :: es) t) (hdb : (x == ("__debug__" : Str)) = false := by decide) (he : starEach (e :: es) X.env = (false, eval e X.env) :: starEach es X.env := by rfl) (hpl : (backTo pos (starEach es X.env)).any (·.1) = false := by rfl) :
    PE X (.Call (.Name x p) (e :: es) [] pos) (tCallS sp E t) := by
  refine ⟨fun pins s σ H Q I h => wpAny_Call_Name_kw (ld_glob I hg hm (PySem.W.callWith_K (h₀ := X.base) I.ok.mod.kin hk (thn (ha.run pos pins s σ H _ I h) fun us s1 ⟨vs, H1, I1, r, q⟩ => ⟨I1.kIn, ?_⟩) he hpl) hdb)⟩
  have b := hb s1 us I1.kIn (by rw [List.append_nil, ← r.length]; exact F.len _ _ _ _ q)
  rw [List.append_nil] at b
  refine wpAny_call (codeAny_mono (F.run X.A X.stack s1 H1 ⟨us, []⟩ us vs Q (E σ) hr hgd I1.env0 b r q) fun r s' hq => ?_)
  cases r with
  | error e => exact hx σ pins H1 s1 e s' I1 hq
  | ok fl => cases fl with
    | ret u => exact I1.after hq
    | _ => exact False.elim hq
end
end M3N
namespace M3
open PySem L2
variable {ca : CAK}
structure COG (ca : CAK) (X : Cx) (W : WX) (k : Nat) : Prop extends COT ca X W k where
  gd : X.A.guards = some []
section
variable {P : Program} {w : World} {K : PySem.W.Frag} {mg : Str → Option Value} {base : Heap}
theorem fn_okG {x qual : Str} {params : Arguments} {body : List Stmt} {scope : Scope} {dvs : List V} {kws : List (Str × V)} {f : Addr} {fd : FuncData} {N ps : List Str} {k n : Nat} {b : SC} (hK : K = ca.K) (F : FunD K x qual params body scope dvs kws f fd) (S : FnScope N ps scope) (hn : N.length = n)
    (hb : ∀ (cdv : Value) (A : Around) (outer : List Env) (s : Shared) (H : Hp) (E : XK), COG ca (cxOf (L2.CX P w) P w K mg base N qual scope f cdv A outer s H E) (WD E) k → PSs (cxOf (L2.CX P w) P w K mg base N qual scope f cdv A outer s H E) body (rdS ca (WD E) b)) :
    M3N.FnG P w K mg base (L2.CX P w) (k + 1) f fd ps (spM ca (bodyM ps.length n b)) := by
  refine M3N.fn_ofG F S (fun vs H Q E ⟨ds, S3, g, s, r, h⟩ => ?_) fun cdv A outer s H vs Q E hr hg ⟨ds, S3, g, sm, r, h⟩ => ⟨_, hb cdv A outer s H E ⟨.of hK S hr, hg⟩, bodyM_fin hn sm r h⟩
  rw [r.len]
  unfold bodyM at h
  split at h
  · assumption
  · exact h.elim
/-- a def of the module, where no text is being made -/
structure CalG (ca : CAK) (P : Program) (w : World) (K : PySem.W.Frag) (mg : Str → Option Value) (base : Heap) (k : Nat) (x : Str) (m : Fn) : Prop where
  ex : ∃ (f : Addr) (fd : FuncData) (ps : List Str), M3N.FnG P w K mg base (L2.CX P w) k f fd ps (spM ca m) ∧ mg x = some (.ref f) ∧ PySem.W.keepIn K (.ref f) = true ∧ Binds K fd ps []
end
section
variable {X : Cx} {W : WX} {e : Expr} {es : List Expr} {ms : CA} {m : Fn} {k j : Nat} {x : Str} {p pos : Pos}
theorem sd_callG (C : CO ca X W k) (gd : X.A.guards = some []) (F : CalG ca X.prog X.w X.K X.mg X.base j x m) (hj : j ≤ k) (ha : PA X (e :: es) (rdA ca W ms))
    (hg : Gl X x := by rfl) (hdb : (x == ("__debug__" : Str)) = false := by decide) (he : starEach (e :: es) X.env = (false, eval e X.env) :: starEach es X.env := by rfl) (hpl : (backTo pos (starEach es X.env)).any (·.1) = false := by rfl)
    (hw : ∀ whole, isTrue (.Call (.Name x p) (e :: es) [] pos) X.env whole = (do let v ← whole; standAt (Expr.Call (.Name x p) (e :: es) [] pos).pos; holding [v] (truthy v)) := by intro _; rfl) :
    SD ca X W (.Call (.Name x p) (e :: es) [] pos) (callM ms m []) := by
  obtain ⟨f, fd, ps, F, hm, hk, hb⟩ := F.ex
  refine .of (PE_imp (M3N.pe_callG F (C.rm.mono hj) gd hg hm hk hb (passAt C.tk) ha hdb he hpl) ?_) hw
  rintro σ H Q ⟨v, S, g, s, e, h⟩
  refine ⟨v, S, g, s, e, (Fin.seq h).imp (fun xs g1 H1 x1 ⟨S1, s1, h1⟩ vs rv => ?_) fun _ _ _ _ z => z⟩
  rw [List.append_nil] at h1
  exact sp_of s1 rv h1
end
end M3

/-! ### the law's end -/
namespace M3
open PySem L2
/-- the store ahead of all -/
def S0 : S3 := ⟨fun _ => none, 0, []⟩
theorem scr_rep {ca : CAK} {g : Wld} : ∀ ns : List Int, RepL ca g (ns.map V.int) (ns.map D.int) := RepL.ints
/-- from a heap in which nothing but the script may be tracked -/
theorem law_runG {ca : CAK} {P : Program} {w : World} {K : PySem.W.Frag} {mg mb : Str → Option Value} {k : Nat} {fa a : Addr} {fd : FuncData} {x : Str} {m : Fn} {s₁ : Shared} {vs : List Value} {ns : List Int} {H : Hp} {g : Wld}
    (hK : K = ca.K) (KX : K.In s₁.heap) (hns : s₁.heap.Ns mainGlobals mg) (hb : s₁.heap.Ns builtinsNs mb) (hbb : ∀ x : Str, x ≠ "__name__" → mb x = bootBuiltins x) (hlim : s₁.heap.NoLimit) (hg : s₁.gens = #[])
    (ha : s₁.heap.get? a = some { cls := .type "list", data := .seq vs.toArray }) (hr : Room k callerA)
    (F : ∀ base : Heap, K.In base → base.Ns mainGlobals mg → M3N.FnG P w K mg base (L2.CX P w) k fa fd [x] (spM ca m)) (hbind : ∀ (s : Shared) (u : Value), BindsTo s fd ⟨[u], []⟩ [(x, u)])
    (hm : ∃ S', m [.scr (ns.map .int)] S0 = .ok (.bl true) S') (sm : Sim ca g S0 H) (rp : Rep ca g (.ref a) (.scr (ns.map .int)))
    (hOk : HOk P w H s₁.heap) (hA : ∀ b, H b ≠ none → b = a ∧ ∃ o xs, H b = some (.frz o (.lst xs))) (hKa : H a ≠ none → K.lookup a = none) :
    codeAny (model P w) callerA (.call (.ref fa) ⟨[.ref a], []⟩) (fun r s' => r = .ok (.ret (.bool true)) ∧ OldK s₁.heap s'.heap ∧ s'.os = s₁.os ∧ PyProof.Rows.AllBare s'.gens) s₁ := by
  have free : ∀ {b : Addr} {o : Obj}, s₁.heap.get? b = some o → H b = none → (hidT s₁.heap H).get? b = some o := fun e n => hidT_get e n
  have off : ∀ {b : Addr}, b ≠ a → H b = none := fun {b} n => by
    cases q : H b with
    | none => rfl
    | some u => exact absurd (hA b (by rw [q]; exact fun z => nomatch z)).1 n
  have dct : ∀ {b : Addr} {o : Obj} {es : Array DictEntry} {ep : Nat}, s₁.heap.get? b = some o → o.data = .dict es ep → H b = none := fun {b o es ep} e d => off fun z => by
    subst z
    rw [ha] at e
    cases e
    cases (show Data.seq vs.toArray _ = Data.dict es ep from d)
  have nsB : ∀ {b : Addr} {m : Str → Option Value}, s₁.heap.Ns b m → (hidT s₁.heap H).Ns b m := fun ⟨o, es, ep, e, d, r⟩ => ⟨o, es, ep, free e (dct e d), d, r⟩
  have KB : K.In (hidT s₁.heap H) := fun b o e => free (KX b o e) (by
    by_cases hb' : b = a
    · cases q : H b with
      | none => rfl
      | some u => rw [hb'] at e q; rw [hKa (by rw [q]; exact fun z => nomatch z)] at e; cases e
    · exact off hb')
  obtain ⟨mc, l1, l2⟩ := hlim
  have e0 : Env0 P w K mg (hidT s₁.heap H) callerA [] s₁ H := ⟨rfl, ⟨KB, nsB hns, ⟨mb, nsB hb, hbb⟩, ⟨mc, nsB l1, l2⟩⟩, fun b o e => of_hidT e, Nat.le_of_eq (hidT_size _ _), trivial, fun b z => (by cases (show b ∈ ([] : List Addr) from z)), hOk, PyProof.Rows.AllBare.of_eq hg⟩
  obtain ⟨S', hm⟩ := hm
  have sp : spM ca m [.ref a] H (fun v _ => v = .bl true) fun _ _ _ => False := ⟨_, S0, g, sm, .cons rp .nil, by rw [hm]; exact fun g' H' _ _ x r => by cases r; rfl⟩
  refine codeAny_mono ((F _ KB (nsB hns)).run callerA [] s₁ H ⟨[.ref a], []⟩ [.ref a] [.ref a] _ _ hr rfl e0 (hbind s₁ (.ref a)) (.cons rfl .nil) sp) fun r s' h => ?_
  cases r with
  | error e =>
    obtain ⟨_, _, _, _, _, _, _, _, _, _, _, _, _, _, _, z⟩ := (show L2.CX P w [] H s₁ (fun _ _ _ => False) e s' from h)
  | ok fl => cases fl with
    | ret u =>
      obtain ⟨v, H', os, bare, un, hok', r', q⟩ := h
      have q' : v = .bl true := q
      subst q'
      cases (show u = Value.bool true from r')
      refine ⟨rfl, OldK.of_keep fun b o e => ?_, os, bare⟩
      cases q : H b with
      | none => exact un.keep b o e q (fun z => by cases (show b ∈ ([] : List Addr) from z)) (fun z => by cases (show b ∈ ([] : List Addr) from z))
      | some u =>
        obtain ⟨_, ob, xs, z⟩ := hA b (by rw [q]; exact fun z => nomatch z)
        have e1 := (hOk b _ z).1
        have e2 := (hok' b _ (un.frzs b ob _ z)).1
        rw [e] at e1
        cases e1
        exact e2
    | _ => exact False.elim h
/-- the head's last goal, by the law's machine -/
theorem walk_ofG {l : PySem.W.OpenLaw} {n k : Nat} {q : Program} {loose : List Str} {XP : (Str → Option Value) → Heap → Prop} {YP : World → Heap → Prop} {d : DefRec} {x : Str} {m : Fn}
    (hn : l.most = some n) (hn2 : n ≤ sizeLine) (hdf : d.params.defaults = []) (hr : Room k callerA)
    (hm : ∀ ns : List Int, ns.length ≤ n → ∃ S', m [.scr (ns.map .int)] S0 = .ok (.bl true) S')
    (F : ∀ (w : World) (mg : Str → Option Value) (fa : Addr) (h : Heap), YP w h → h.Ns mainGlobals mg → mg d.name = some (.ref fa) →
      ∃ (ca : CAK) (fd : FuncData), ca.K.In h ∧ (∀ (s : Shared) (u : Value), BindsTo s fd ⟨[u], []⟩ [(x, u)]) ∧ ∀ base : Heap, ca.K.In base → base.Ns mainGlobals mg → M3N.FnG l.prog w ca.K mg base (L2.CX l.prog w) k fa fd [x] (spM ca m)) :
    PySem.W.WalkO q loose XP YP l.row.toRowW d [] (fun f vs => PySem.call f vs) := by
  refine Att.attach_call hn hdf fun w s₀ s₁ mg mb fa o pm cd doc a vs ns G Y ho hd hcd hmg hobj hints hlen hg => ?_
  obtain ⟨ca, fd, KX, hb, hF⟩ := F w mg fa _ Y G.T.g hmg
  have rv := vals_ints hints
  have hl : ns.length ≤ sizeLine := Nat.le_trans hlen hn2
  have lenV := hints.length
  cases hk : ca.K.lookup a with
  | some o =>
    have e := KX a o hk
    rw [hobj] at e
    cases e
    refine law_runG (H := fun _ => none) (g := ⟨[], fun _ => none⟩) rfl KX G.T.g G.T.b G.T.builtins G.T.nolimit hg hobj hr hF hb (hm ns hlen) ⟨rfl, List.nodup_nil, fun b u z => (nomatch z), fun n o z => (nomatch z), fun n b z => by simp at z, fun n z => (nomatch z)⟩ (.scrK ⟨_, vs.toArray, _, hk, rfl, rfl, rfl, by rw [List.size_toArray, lenV]; exact hl, by simpa using rv⟩ (RepL.ints ns)) (fun b u z => (nomatch z)) (fun b z => absurd rfl z) (fun z => absurd rfl z)
  | none =>
    have at_ : ∀ b, (if b = a then some (HO.frz { cls := .type "list", data := .seq vs.toArray } (.lst (ns.map V.int))) else none) ≠ none → b = a := fun b z => by
      by_cases hb' : b = a
      · exact hb'
      · exact absurd (if_neg hb') z
    refine law_runG (H := fun b => if b = a then some (.frz { cls := .type "list", data := .seq vs.toArray } (.lst (ns.map V.int))) else none) (g := ⟨[], fun b => if b = a then some (.lst (ns.map V.int)) else none⟩) rfl KX G.T.g G.T.b G.T.builtins G.T.nolimit hg hobj hr hF hb (hm ns hlen)
      ⟨rfl, List.nodup_nil, fun b u z => ?_, fun n o z => (nomatch z), fun n b z => by simp at z, fun n z => (nomatch z)⟩ (.scrF (if_pos rfl) (RepL.ints ns)) (fun b u z => ?_) (fun b z => ⟨at_ b z, _, _, if_pos (at_ b z)⟩) (fun _ => hk)
    · by_cases hb' : b = a
      · subst hb'
        have z' := (if_pos rfl).symm.trans z
        cases z'
        exact .inr ⟨_, if_pos rfl⟩
      · have z' := (if_neg hb').symm.trans z
        cases z'
    · by_cases hb' : b = a
      · have z' := (if_pos hb').symm.trans z
        cases z'
        subst hb'
        exact ⟨hobj, by rw [List.length_map]; exact hl, vs, _, rv, hobj⟩
      · have z' := (if_neg hb').symm.trans z
        cases z'
end M3
/-! M3W: is True. -/
namespace M3
open PySem L2
variable {ca : CAK}
section
variable {X : Cx}
def isF2 : O2 := fun x y S => match x, y with
  | .bl a, .bl b => some (.bl (a == b), S)
  | x, y => isF x y S
def isNotF2 : O2 := fun x y S => match x, y with
  | .bl a, .bl b => some (.bl (!(a == b)), S)
  | x, y => isNotF x y S
theorem op_isF2 : OpR X (compareOp .Is) (rdO2 ca isF2) := by
  intro pins s σ H x y v u Q I rx ry ⟨g, S, d, e, sm, rd, re, h⟩
  unfold isF2 at h
  split at h
  · cases rd; cases re
    cases (show v = Value.bool _ from rx)
    cases (show u = Value.bool _ from ry)
    refine wpAny_is_plain rfl (fin_bl I (h.now sm _ (.bl _)) ?_)
    rename_i a b
    cases a <;> cases b <;> rfl
  · exact op_isF pins s σ H x y v u Q I rx ry ⟨g, S, d, e, sm, rd, re, h⟩
theorem op_isNotF2 : OpR X (compareOp .IsNot) (rdO2 ca isNotF2) := by
  intro pins s σ H x y v u Q I rx ry ⟨g, S, d, e, sm, rd, re, h⟩
  unfold isNotF2 at h
  split at h
  · cases rd; cases re
    cases (show v = Value.bool _ from rx)
    cases (show u = Value.bool _ from ry)
    refine wpAny_isNot_plain rfl (fin_bl I (h.now sm _ (.bl _)) ?_)
    rename_i a b
    cases a <;> cases b <;> rfl
  · exact op_isNotF pins s σ H x y v u Q I rx ry ⟨g, S, d, e, sm, rd, re, h⟩
end
end M3
/-! M3X: how defs bind their arguments. -/
namespace M3
open PySem L2
variable {ca : CAK}
section
variable {K : PySem.W.Frag} {x qual : Str} {params : Arguments} {body : List Stmt} {scope : Scope} {kws : List (Str × V)} {f : Addr} {fd : FuncData} {ps : List Str}
theorem dfl0 (h : Binds K fd ps []) : Dfl ca K fd ps [] := ⟨[], [], h, .nil, fun _ => .nil⟩
theorem dflK {dds : List D} (h : ∃ ds, Vals (kws.map (·.2)) ds ∧ Binds K fd ps ds) (r : ∀ g : Wld, RepL ca g (kws.map (·.2)) dds) : Dfl ca K fd ps dds := by
  obtain ⟨ds, h1, h2⟩ := h
  exact ⟨_, ds, h2, h1, r⟩
/-- every keyword-only parameter is given, by its name -/
theorem kbn_of {n : Nat} {ks : List Str} (F : FunD K x qual params body scope [] kws f fd)
    (h : ∀ (kV doc pm : Value) (an : Option Addr) (cdv ct : Value) (us ws : List Value), us.length = n → ws.length = ks.length → bindArgs (PySem.W.fnOf x qual params body scope .none kV doc pm an cdv ct) ⟨us, ks.zip ws⟩ = pure (ps.zip (us ++ ws))) : KBn K fd ps n ks cat2 cat2 := by
  obtain ⟨oc, od, dV, kV, doc, pm, an, cdv, ct, osl, rfl, lk, hcd, hD, _⟩ := F.ex
  rcases hD with ⟨_, rfl⟩ | ⟨e, _⟩
  · exact ⟨fun s us ws _ l1 l2 => .of_eq (h kV doc pm an cdv ct us ws l1 l2), fun r1 r2 => r1.append r2⟩
  · exact absurd rfl e
end
end M3
/-! M3Y: a def that is handed one whole number, run once for all numbers. -/
namespace M3
open PySem L2
variable {ca : CAK}
abbrev CAK.at_ (ca : CAK) (n : Int) (h : 0 ≤ n ∧ n < 10 ^ 10) : CAK := ⟨ca.f, ca.K, fun _ => n, fun _ => h⟩
def symFn (m : Fn) : Fn := fun ds S => match ds with
  | [.int n] => if 0 ≤ n ∧ n < 10 ^ 10 then (match m [.sym 0] S0 with
    | .ok (.bl b) _ => .ok (.bl b) S
    | _ => .bad) else .bad
  | _ => .bad
theorem frz_some {H : Hp} {a : Addr} {u : HO} (h : FrzAs H a u) : H a ≠ none := by
  cases u with
  | lst xs => rcases h with h | ⟨o, h⟩ <;> (rw [h]; exact fun z => nomatch z)
  | dK ks => rcases h with h | ⟨o, h⟩ <;> (rw [h]; exact fun z => nomatch z)
  | tup xs => rw [show H a = _ from h]; exact fun z => nomatch z
  | ins C dx fs => rw [show H a = _ from h]; exact fun z => nomatch z
  | _ => exact h.elim
theorem Sim.grow {g : Wld} {S : S3} {H H' : Hp} (s : Sim ca g S H) (k : ∀ a o, H a = some o → H' a = some o) : Sim ca g S H' := by
  have eq : ∀ a, H a ≠ none → H' a = H a := fun a n => by
    cases e : H a with
    | none => exact absurd e n
    | some o => exact k a o e
  refine ⟨s.len, s.inj, fun a u e => (s.frz a u e).of_eq (eq a (frz_some (s.frz a u e))), fun n ob e => ?_, fun n a e => ?_, s.lkd⟩
  · obtain ⟨a, u, h1, h2, h3, h4⟩ := s.cel n ob e
    exact ⟨a, u, h1, h2, h3, h4.of_eq (eq a (s.old n a h1))⟩
  · rw [eq a (s.old n a e)]; exact s.old n a e
theorem Ext.grow {g : Wld} {H H' : Hp} (k : ∀ a o, H a = some o → H' a = some o) : Ext g H g H' where
  le := .refl g
  fz := fun a o u e => k a _ e
  old := fun a n => by
    cases e : H a with
    | none => exact absurd e n
    | some o => rw [k a o e]; exact fun z => nomatch z
  nph := fun _ _ e => .inl e
  nfr := fun _ _ e => .inl e
  rest := fun a o e _ => k a o e
theorem sim0 {H : Hp} : Sim ca ⟨[], fun _ => none⟩ S0 H := ⟨rfl, List.nodup_nil, fun _ _ z => (nomatch z), fun _ _ z => (nomatch z), fun n a z => by simp at z, fun _ z => (nomatch z)⟩
theorem sp_sym {m : Fn} {vs : List V} {H : Hp} {Q : VK} {E : XK} (h : spM ca (symFn m) vs H Q E) : ∃ n hn, spM (ca.at_ n hn) m vs H Q E := by
  obtain ⟨ds, S, g, s, r, h⟩ := h
  unfold symFn at h
  split at h
  · rename_i n
    split at h
    · rename_i hn
      obtain ⟨v, rfl, rv⟩ := r.one
      cases rv
      refine ⟨n, hn, [.sym 0], S0, ⟨[], fun _ => none⟩, sim0, .cons (.sym (ca := ca.at_ n hn) 0) .nil, ?_⟩
      split at h
      · rename_i b S' e
        rw [e]
        intro g' H' x' s' x rx
        cases rx
        have k : ∀ a o, H a = some o → H' a = some o := fun a o q => x'.rest a o q ⟨fun n z => by simp at z, rfl⟩
        exact h g H' (.grow k) (s.grow k) _ (.bl b)
      · exact h.elim
    · exact h.elim
  · exact h.elim
section
variable {P : Program} {w : World} {K : PySem.W.Frag} {mg : Str → Option Value} {base : Heap} {k : Nat} {f : Addr} {fd : FuncData} {ps : List Str} {m : Fn}
theorem fnOk_sym (F : ∀ n hn, FnOk P w K mg base (L2.CX P w) k f fd ps (spM (ca.at_ n hn) m)) : FnOk P w K mg base (L2.CX P w) k f fd ps (spM ca (symFn m)) :=
  ⟨fun vs H Q E q => by
    obtain ⟨n, hn, z⟩ := sp_sym q
    exact (F n hn).len _ _ _ _ z, fun A outer s H args us vs Q E hr he hb hv hs => by
    obtain ⟨n, hn, z⟩ := sp_sym hs
    exact (F n hn).run A outer s H args us vs Q E hr he hb hv z⟩
theorem fnG_sym (F : ∀ n hn, M3N.FnG P w K mg base (L2.CX P w) k f fd ps (spM (ca.at_ n hn) m)) : M3N.FnG P w K mg base (L2.CX P w) k f fd ps (spM ca (symFn m)) :=
  ⟨fun vs H Q E q => by
    obtain ⟨n, hn, z⟩ := sp_sym q
    exact (F n hn).len _ _ _ _ z, fun A outer s H args us vs Q E hr hg he hb hv hs => by
    obtain ⟨n, hn, z⟩ := sp_sym hs
    exact (F n hn).run A outer s H args us vs Q E hr hg he hb hv z⟩
end
end M3
/-! M4A: the machine run by simp: each part applied to slots and a store. -/
namespace M3
open PySem L2
/-- a mark that keeps simp out of what follows -/
inductive Tg {α : Type} (k : α) : Type where
  | mk
def bd {α β : Type} (r : R α) (k : α → S3 → R β) (_ : Tg k) : R β := r.bind k
def bs {α : Type} (r : R α) (v : Ev) (k : α → S3 → SR) (_ : Tg k) : SR := r.bindS v k
section
variable {α β : Type} {a b c ma mb mc m mk mx mo mv : CE} {ms : CA} {v : Ev} {S : S3} {f f' : O2} {i j : Nat} {d x : D}
@[simp] theorem bd_ok (x : α) (S : S3) (k : α → S3 → R β) (t : Tg k) : bd (R.ok x S) k t = k x S := rfl
@[simp] theorem bd_ex (x : Exn) (S : S3) (k : α → S3 → R β) (t : Tg k) : bd (R.ex x S) k t = .ex x S := rfl
@[simp] theorem bd_bad (k : α → S3 → R β) (t : Tg k) : bd (R.bad : R α) k t = .bad := rfl
@[simp] theorem bs_ok (x : α) (S : S3) (v : Ev) (k : α → S3 → SR) (t : Tg k) : bs (R.ok x S) v k t = k x S := rfl
@[simp] theorem bs_ex (x : Exn) (S : S3) (v : Ev) (k : α → S3 → SR) (t : Tg k) : bs (R.ex x S) v k t = .ex x v S := rfl
@[simp] theorem bs_bad (v : Ev) (k : α → S3 → SR) (t : Tg k) : bs (R.bad : R α) v k t = .bad := rfl
@[simp] theorem sq_nx (v : Ev) (S : S3) (f : SC) : (SR.nx v S).seq f = f v S := rfl
@[simp] theorem sq_rt (d : D) (S : S3) (f : SC) : (SR.rt d S).seq f = .rt d S := rfl
@[simp] theorem sq_ex (e : Exn) (v : Ev) (S : S3) (f : SC) : (SR.ex e v S).seq f = .ex e v S := rfl
@[simp] theorem sq_bk (v : Ev) (S : S3) (f : SC) : (SR.bk v S).seq f = .bk v S := rfl
@[simp] theorem sq_ct (v : Ev) (S : S3) (f : SC) : (SR.ct v S).seq f = .ct v S := rfl
@[simp] theorem sq_bad (f : SC) : SR.bad.seq f = .bad := rfl
@[simp] theorem lift_s (x : α) (S : S3) : lift (some (x, S)) = .ok x S := rfl
@[simp] theorem lift_n : lift (none : Option (α × S3)) = .bad := rfl
@[simp] theorem xv_ap : xv i v S = (match v[i]? with | some (some d) => R.ok d S | _ => .bad) := rfl
@[simp] theorem xc_ap : xc d v S = .ok d S := rfl
@[simp] theorem b1_ap {f : O1} : b1 ma f v S = bd (ma v S) (fun x S1 => lift (f x S1)) .mk := rfl
@[simp] theorem b2_ap : b2 ma mb f v S = bd (ma v S) (fun x S1 => bd (mb v S1) (fun y S2 => lift (f x y S2)) .mk) .mk := rfl
@[simp] theorem ch2_ap : ch2 ma mb mc f f' v S = bd (ma v S) (fun x S1 => bd (mb v S1) (fun y S2 => bd (lift (f x y S2)) (fun z S3 => match z with
  | .bl true => bd (mc v S3) (fun w S4 => lift (f' y w S4)) .mk
  | .bl false => .ok (.bl false) S3
  | _ => .bad) .mk) .mk) .mk := rfl
@[simp] theorem notM_ap : notM ma v S = bd (ma v S) (fun x S1 => match x with
  | .bl b => .ok (.bl (!b)) S1
  | _ => .bad) .mk := rfl
@[simp] theorem andM_ap : andM ma mb v S = bd (ma v S) (fun x S1 => match x with
  | .bl true => mb v S1
  | .bl false => .ok (.bl false) S1
  | _ => .bad) .mk := rfl
@[simp] theorem orM_ap : orM ma mb v S = bd (ma v S) (fun x S1 => match x with
  | .bl true => .ok (.bl true) S1
  | .bl false => mb v S1
  | _ => .bad) .mk := rfl
@[simp] theorem ifM_ap : ifM mc ma mb v S = bd (mc v S) (fun x S1 => match x with
  | .bl true => ma v S1
  | .bl false => mb v S1
  | _ => .bad) .mk := rfl
@[simp] theorem aNil_ap : aNil v S = .ok [] S := rfl
@[simp] theorem aCons_ap {r : CA} : aCons m r v S = bd (m v S) (fun x S1 => bd (r v S1) (fun xs S2 => .ok (x :: xs) S2) .mk) .mk := rfl
@[simp] theorem cb_ap {f : OL} : cb ms f v S = bd (ms v S) (fun xs S1 => lift (f xs S1)) .mk := rfl
@[simp] theorem tupM_ap : tupM ms v S = bd (ms v S) (fun xs S1 => if xs.length ≤ lim then .ok (.tup xs) S1 else .bad) .mk := rfl
@[simp] theorem lstM_ap : lstM ms v S = bd (ms v S) (fun xs S1 => if xs.length ≤ lim then .ok (.lst xs) S1 else .bad) .mk := rfl
@[simp] theorem lstMC_ap : lstMC ms v S = bd (ms v S) (fun xs S1 => if xs.length ≤ lim then .ok (.cell S1.nx) (S1.new (.lst xs)) else .bad) .mk := rfl
@[simp] theorem dicM_ap : dicM v S = .ok (.dic []) S := rfl
@[simp] theorem dicMC_ap : dicMC v S = .ok (.cell S.nx) (S.new (.dic [])) := rfl
@[simp] theorem seqM_ap {f r : SC} : seqM f r v S = (f v S).seq r := rfl
@[simp] theorem nxM_ap : nxM v S = .nx v S := rfl
@[simp] theorem bkM_ap : bkM v S = .bk v S := rfl
@[simp] theorem ctM_ap : ctM v S = .ct v S := rfl
@[simp] theorem exprM_ap : exprM m v S = bs (m v S) v (fun _ S1 => .nx v S1) .mk := rfl
@[simp] theorem retM_ap : retM m v S = bs (m v S) v (fun d S1 => .rt d S1) .mk := rfl
@[simp] theorem retN_ap : retN v S = .rt .non S := rfl
@[simp] theorem ifS_ap {p q : SC} : ifS mc p q v S = bs (mc v S) v (fun x S1 => match x with
  | .bl true => p v S1
  | .bl false => q v S1
  | _ => .bad) .mk := rfl
@[simp] theorem asgS_ap {t : GT} : asgS m t v S = bs (m v S) v (fun d S1 => match t d v S1 with
  | some (v', S') => .nx v' S'
  | none => .bad) .mk := rfl
@[simp] theorem asgN_ap : asgN i d v S = some (v.set i (some d), S) := rfl
@[simp] theorem asgNil_ap {ds : List D} : asgNil ds v S = (match ds with | [] => some (v, S) | _ => none) := rfl
@[simp] theorem asgCons_ap {t : GT} {r : GTs} {ds : List D} : asgCons t r (d :: ds) v S = (match t d v S with | some (v', S') => r ds v' S' | none => none) := rfl
@[simp] theorem asgT_ap {n : Nat} {r : GTs} {ds : List D} : asgT n r (.tup ds) v S = if ds.length = n then r ds v S else none := rfl
@[simp] theorem endM_nx : endM (.nx v S) = .ok .non S := rfl
@[simp] theorem endM_rt : endM (.rt d S) = .ok d S := rfl
@[simp] theorem endM_ex {e : Exn} : endM (.ex e v S) = .ex e S := rfl
@[simp] theorem endM_bad : endM .bad = .bad := rfl
@[simp] theorem bodyM_ap {np n : Nat} {b : SC} {ds : List D} : bodyM np n b ds S = if ds.length = np then endM (b (ds.map some ++ List.replicate (n - ds.length) none) S) else .bad := rfl
@[simp] theorem callM_ap {m : Fn} {dds : List D} : callM ms m dds v S = bd (ms v S) (fun xs S1 => m (xs ++ dds) S1) .mk := rfl
@[simp] theorem methM_ap {cl : Nat} {mn : Str} {m : Fn} {dds : List D} : methM cl mn mo ms m dds v S = bd (mo v S) (fun o S1 => match insOf S1 o with
  | some (c', fs) => if c' = cl ∧ getA fs mn = none then bd (ms v S1) (fun xs S2 => m (o :: (xs ++ dds)) S2) .mk else .bad
  | none => .bad) .mk := rfl
@[simp] theorem makeM_ap {cl : Nat} {m : Fn} {dds : List D} : makeM cl ms m dds v S = bd (ms v S) (fun xs S1 => bd (m (.cell S1.nx :: (xs ++ dds)) (S1.new (.ins cl []))) (fun r S2 => match r with
  | .non => .ok (.cell S1.nx) S2
  | _ => .bad) .mk) .mk := rfl
@[simp] theorem forM_ap {src : CS} {t : GT} {b : SC} : forM src t b v S = bs (src v S) v (fun p S1 => unl p.2 (forL t b p.1 v S1)) .mk := rfl
@[simp] theorem anyS_ap : anyS m v S = bd (m v S) (anyK) .mk := rfl
@[simp] theorem unl_n {r : SR} : unl none r = r := rfl
@[simp] theorem rng1_ap : rng1S ms v S = bd (ms v S) (fun xs S1 => match xs with
  | [.int j] => if fit62 j then .ok (intsD 0 1 j.toNat, none) S1 else .bad
  | _ => .bad) .mk := rfl
@[simp] theorem slM_ap {l h : Ev → S3 → R (Option Int)} : slM m l h v S = bd (m v S) (fun x S1 => bd (l v S1) (fun lo S2 => bd (h v S2) (fun hi S3 => lift (slB x lo hi S3)) .mk) .mk) .mk := rfl
@[simp] theorem oNo_ap : oNo v S = .ok none S := rfl
@[simp] theorem oSo_ap : oSo m v S = bd (m v S) (fun x S1 => match x with
  | .int i => .ok (some i) S1
  | _ => .bad) .mk := rfl
/-! ### arithmetic -/
@[simp] theorem add_ii {p q : Int} : addF (.int p) (.int q) S = some (.int (p + q), S) := rfl
@[simp] theorem sub_ii {p q : Int} : subF (.int p) (.int q) S = some (.int (p - q), S) := rfl
@[simp] theorem mul_ii {p q : Int} : mulF (.int p) (.int q) S = if small64 p || small64 q then some (.int (p * q), S) else none := rfl
@[simp] theorem fdiv_ii {p q : Int} : fdivF (.int p) (.int q) S = if 0 < q ∧ q < 1073741824 then some (.int (p / q), S) else none := rfl
@[simp] theorem mod_ii {p q : Int} : modF (.int p) (.int q) S = if 0 < q then some (.int (p % q), S) else none := rfl
@[simp] theorem pow_ii {p q : Int} : powF (.int p) (.int q) S = if 0 ≤ q ∧ q ≤ 1000000 ∧ p.natAbs < 2 ^ 64 then some (.int (p ^ q.toNat), S) else none := rfl
@[simp] theorem cmp_ii {r : Int → Int → Bool} {p q : Int} : cmpF r (.int p) (.int q) S = some (.bl (r p q), S) := rfl
@[simp] theorem iadd_ii {p q : Int} : iaddF (.int p) (.int q) S = some (.int (p + q), S) := rfl
@[simp] theorem isub_ii {p q : Int} : isubF (.int p) (.int q) S = some (.int (p - q), S) := rfl
end
end M3
/-! The machines of the defs, printed by gen.py. -/
namespace K8
open PySem L2 M3

def N_is_whole : List Str := ["thing"]
def b_is_whole : SC := (retM (andM (b1 (xv 0) (isiF "int")) (notM (b1 (xv 0) (isiF "bool")))))
def m_is_whole : Fn := bodyM 1 1 b_is_whole
def N_is_name : List Str := ["thing", "sign"]
def b_is_name : SC := (retM (andM (b1 (xv 0) (isiF "str")) (andM (ch2 (xc (.int 1)) (cb (aCons (xv 0) aNil) lenF) (xc (.int 8)) leF leF) (cb (aCons (lcM' [1] (anyS (xv 0)) (asgN 1) yesT (b2 (xv 1) (xc (.str "abcdefghijklmnopqrstuvwxyz")) inO) finT) aNil) allF))))
def m_is_name : Fn := bodyM 1 2 b_is_name
def N_are_unlike_names : List Str := ["thing", "one"]
def b_are_unlike_names : SC := (seqM (ifS (orM (notM (b1 (xv 0) (isiF "list"))) (notM (cb (aCons (lcM' [1] (anyS (xv 0)) (asgN 1) yesT (callM (aCons (xv 1) aNil) m_is_name []) finT) aNil) allF))) (retM (xc (.bl false))) nxM)
 (retM (b2 (lenSt [1] (anyS (xv 0)) (asgN 1) (xv 1)) (cb (aCons (xv 0) aNil) lenF) eqO)))
def m_are_unlike_names : Fn := bodyM 1 2 b_are_unlike_names
def N_is_kind : List Str := ["thing", "fields", "fixed", "field"]
def b_is_kind : SC := (seqM (ifS (orM (notM (b1 (xv 0) (isiF "tuple"))) (b2 (cb (aCons (xv 0) aNil) lenF) (xc (.int 2)) neO)) (retM (xc (.bl false))) nxM)
 (seqM (asgS (xv 0) (asgT 2 (asgCons (asgN 1) (asgCons (asgN 2) asgNil))))
 (seqM (ifS (orM (notM (callM (aCons (xv 1) aNil) m_are_unlike_names [])) (notM (callM (aCons (xv 2) aNil) m_are_unlike_names []))) (retM (xc (.bl false))) nxM)
 (retM (andM (ch2 (xc (.int 1)) (cb (aCons (xv 1) aNil) lenF) (xc (.int 5)) leF leF) (andM (b2 (xc (.str "id")) (xv 1) notInO) (cb (aCons (lcM' [3] (anyS (xv 2)) (asgN 3) yesT (b2 (xv 3) (xv 1) inO) finT) aNil) allF)))))))
def m_is_kind : Fn := bodyM 1 4 b_is_kind
def N_Thing_init : List Str := ["self", "number", "kind", "numbers", "key"]
def b_Thing_init : SC := (seqM (fldS [14, 16] "number" (xv 0) (xv 1))
 (seqM (fldS [14, 16] "sort_of" (xv 0) (xv 2))
 (seqM (fldS [14, 16] "numbers" (xv 0) (cb (aCons (xv 3) aNil) dictF))
 (seqM (fldS [14, 16] "key" (xv 0) (xv 4))
 (fldS [14] "times" (xv 0) (xc (.int 1)))))))
def m_Thing_init : Fn := bodyM 5 5 b_Thing_init
def N_Land_init : List Str := ["self", "kinds", "kind"]
def b_Land_init : SC := (seqM (ifS (orM (notM (b1 (xv 1) (isiF "dict"))) (notM (ch2 (xc (.int 1)) (cb (aCons (xv 1) aNil) lenF) (xc (.int 5)) leF leF))) nvS nxM)
 (seqM (ifS (notM (cb (aCons (lcM' [2] (anyS (xv 1)) (asgN 2) yesT (andM (callM (aCons (xv 2) aNil) m_is_name []) (callM (aCons (b2 (xv 1) (xv 2) idxO) aNil) m_is_kind [])) finT) aNil) allF)) nvS nxM)
 (seqM (fldS [15] "kinds_there" (xv 0) (dcM [2] (anyS (xv 1)) (asgN 2) yesT (xv 2) (tupM (aCons (cb (aCons (b2 (b2 (xv 1) (xv 2) idxO) (xc (.int 0)) idxO) aNil) listF) (aCons (cb (aCons (b2 (b2 (xv 1) (xv 2) idxO) (xc (.int 1)) idxO) aNil) listF) aNil))) finDT))
 (seqM (fldS [15] "things" (xv 0) dicMC)
 (seqM (fldS [15] "made_so_far" (xv 0) (xc (.int 0)))
 (seqM (fldS [15] "deeds_done" (xv 0) (xc (.int 0)))
 (seqM (fldS [15] "failing" (xv 0) dicMC)
 (fldS [15] "asked" (xv 0) (xc (.int 0))))))))))
def m_Land_init : Fn := bodyM 2 3 b_Land_init
def N_Land_check_kind : List Str := ["self", "kind"]
def b_Land_check_kind : SC := (ifS (orM (notM (b1 (xv 1) (isiF "str"))) (b2 (xv 1) (b1 (xv 0) (fldF [15] "kinds_there")) notInO)) nvS nxM)
def m_Land_check_kind : Fn := bodyM 2 2 b_Land_check_kind
def N_Land_thing_of : List Str := ["self", "thing"]
def b_Land_thing_of : SC := (seqM (ifS (orM (notM (callM (aCons (xv 1) aNil) m_is_whole [])) (b2 (xv 1) (b1 (xv 0) (fldF [15] "things")) notInO)) nvS nxM)
 (retM (b2 (b1 (xv 0) (fldF [15] "things")) (xv 1) idxO)))
def m_Land_thing_of : Fn := bodyM 2 2 b_Land_thing_of
def N_Land_next_word : List Str := ["self", "word"]
def b_Land_next_word : SC := (seqM (asgS (get1M (b1 (xv 0) (fldF [15] "failing")) (b1 (xv 0) (fldF [15] "asked"))) (asgN 1))
 (seqM (fldAug [15] "asked" iaddF (xv 0) (xc (.int 1)))
 (seqM (ifS (b2 (xv 1) (xc (.str "no")) eqO) nvS nxM)
 (retM (xv 1)))))
def m_Land_next_word : Fn := bodyM 1 2 b_Land_next_word
def N_Land_ended : List Str := ["self", "word"]
def b_Land_ended : SC := (ifS (b2 (xv 1) (xc (.str "half")) eqO) nvS nxM)
def m_Land_ended : Fn := bodyM 2 2 b_Land_ended
def N_Land_make : List Str := ["self", "kind", "fields", "key", "every", "word", "there", "field", "thing"]
def b_Land_make : SC := (seqM (exprM (methM 15 "check_kind" (xv 0) (aCons (xv 1) aNil) m_Land_check_kind []))
 (seqM (asgS (b2 (b2 (b1 (xv 0) (fldF [15] "kinds_there")) (xv 1) idxO) (xc (.int 0)) idxO) (asgN 4))
 (seqM (ifS (orM (notM (b1 (xv 2) (isiF "dict"))) (b2 (cb (aCons (xv 2) aNil) lenF) (cb (aCons (xv 4) aNil) lenF) neO)) nvS nxM)
 (seqM (ifS (notM (cb (aCons (lcM' [7] (anyS (xv 4)) (asgN 7) yesT (andM (b2 (xv 7) (xv 2) inO) (callM (aCons (b2 (xv 2) (xv 7) idxO) aNil) m_is_whole [])) finT) aNil) allF)) nvS nxM)
 (seqM (ifS (andM (b2 (xv 3) (xc .non) isNotF2) (notM (b1 (xv 3) (isiF "str")))) nvS nxM)
 (seqM (asgS (methM 15 "next_word" (xv 0) aNil m_Land_next_word []) (asgN 5))
 (seqM (asgS (lcM' [8] (valS (b1 (xv 0) (fldF [15] "things"))) (asgN 8) (andM (b2 (xv 3) (xc .non) isNotF2) (b2 (b1 (xv 8) (fldF [14, 16] "key")) (xv 3) eqO)) (xv 8) finT) (asgN 6))
 (seqM (ifS (b2 (xv 6) (lstM aNil) eqO) (seqM (asgS (lstM (aCons (makeM 14 (aCons (b1 (xv 0) (fldF [15] "made_so_far")) (aCons (xv 1) (aCons (xv 2) (aCons (xv 3) aNil)))) m_Thing_init []) aNil)) (asgN 6))
 (seqM (asgS (b2 (xv 6) (xc (.int 0)) idxO) (asgSub (b1 (xv 0) (fldF [15] "things")) (b1 (xv 0) (fldF [15] "made_so_far"))))
 (seqM (fldAug [15] "made_so_far" iaddF (xv 0) (xc (.int 1)))
 (fldAug [15] "deeds_done" iaddF (xv 0) (xc (.int 1)))))) nxM)
 (seqM (exprM (methM 15 "ended" (xv 0) (aCons (xv 5) aNil) m_Land_ended []))
 (retM (b1 (b2 (xv 6) (xc (.int 0)) idxO) (fldF [14, 16] "number"))))))))))))
def m_Land_make : Fn := bodyM 4 9 b_Land_make
def N_Land_change : List Str := ["self", "thing", "fields", "there", "every", "fixed", "word", "field"]
def b_Land_change : SC := (seqM (asgS (methM 15 "thing_of" (xv 0) (aCons (xv 1) aNil) m_Land_thing_of []) (asgN 3))
 (seqM (asgS (b2 (b1 (xv 0) (fldF [15] "kinds_there")) (b1 (xv 3) (fldF [14, 16] "sort_of")) idxO) (asgT 2 (asgCons (asgN 4) (asgCons (asgN 5) asgNil))))
 (seqM (ifS (orM (notM (b1 (xv 2) (isiF "dict"))) (b2 (xv 2) dicM eqO)) nvS nxM)
 (seqM (ifS (notM (cb (aCons (lcM' [7] (anyS (xv 2)) (asgN 7) yesT (andM (b2 (xv 7) (xv 4) inO) (andM (b2 (xv 7) (xv 5) notInO) (callM (aCons (b2 (xv 2) (xv 7) idxO) aNil) m_is_whole []))) finT) aNil) allF)) nvS nxM)
 (seqM (asgS (methM 15 "next_word" (xv 0) aNil m_Land_next_word []) (asgN 6))
 (seqM (fldS [14, 16] "numbers" (xv 3) (dcM [7] (anyS (b1 (xv 3) (fldF [14, 16] "numbers"))) (asgN 7) yesT (xv 7) (get2M (xv 2) (xv 7) (b2 (b1 (xv 3) (fldF [14, 16] "numbers")) (xv 7) idxO)) finDT))
 (seqM (fldAug [14] "times" iaddF (xv 3) (xc (.int 1)))
 (seqM (fldAug [15] "deeds_done" iaddF (xv 0) (xc (.int 1)))
 (exprM (methM 15 "ended" (xv 0) (aCons (xv 6) aNil) m_Land_ended []))))))))))
def m_Land_change : Fn := bodyM 3 8 b_Land_change
def N_Land_take : List Str := ["self", "thing", "word"]
def b_Land_take : SC := (seqM (exprM (methM 15 "thing_of" (xv 0) (aCons (xv 1) aNil) m_Land_thing_of []))
 (seqM (asgS (methM 15 "next_word" (xv 0) aNil m_Land_next_word []) (asgN 2))
 (seqM (exprM (pop1M (b1 (xv 0) (fldF [15] "things")) (xv 1)))
 (seqM (fldAug [15] "deeds_done" iaddF (xv 0) (xc (.int 1)))
 (exprM (methM 15 "ended" (xv 0) (aCons (xv 2) aNil) m_Land_ended []))))))
def m_Land_take : Fn := bodyM 2 3 b_Land_take
def N_Land_fails : List Str := ["self", "counts", "count", "word"]
def b_Land_fails : SC := (seqM (ifS (orM (notM (b1 (xv 1) (isiF "dict"))) (notM (cb (aCons (lcM' [2] (anyS (xv 1)) (asgN 2) yesT (andM (callM (aCons (xv 2) aNil) m_is_whole []) (b2 (xv 2) (xc (.int 0)) geF)) finT) aNil) allF))) nvS nxM)
 (seqM (ifS (notM (cb (aCons (lcM' [3] (valS (xv 1)) (asgN 3) yesT (andM (b1 (xv 3) (isiF "str")) (b2 (xv 3) (tupM (aCons (xc (.str "no")) (aCons (xc (.str "half")) aNil))) inO)) finT) aNil) allF)) nvS nxM)
 (seqM (fldS [15] "failing" (xv 0) (cb (aCons (xv 1) aNil) dictF))
 (fldS [15] "asked" (xv 0) (xc (.int 0))))))
def m_Land_fails : Fn := bodyM 2 4 b_Land_fails
def N_Land_ids : List Str := ["self"]
def b_Land_ids : SC := (retM (cb (aCons (cb (aCons (b1 (xv 0) (fldF [15] "things")) aNil) listF) aNil) sortC))
def m_Land_ids : Fn := bodyM 1 1 b_Land_ids
def N_Land_kind : List Str := ["self", "thing"]
def b_Land_kind : SC := (retM (b1 (methM 15 "thing_of" (xv 0) (aCons (xv 1) aNil) m_Land_thing_of []) (fldF [14, 16] "sort_of")))
def m_Land_kind : Fn := bodyM 2 2 b_Land_kind
def N_Land_fields : List Str := ["self", "thing", "there", "field"]
def b_Land_fields : SC := (seqM (asgS (methM 15 "thing_of" (xv 0) (aCons (xv 1) aNil) m_Land_thing_of []) (asgN 2))
 (retM (dcM [3] (anyS (b2 (b2 (b1 (xv 0) (fldF [15] "kinds_there")) (b1 (xv 2) (fldF [14, 16] "sort_of")) idxO) (xc (.int 0)) idxO)) (asgN 3) yesT (xv 3) (b2 (b1 (xv 2) (fldF [14, 16] "numbers")) (xv 3) idxO) finDC)))
def m_Land_fields : Fn := bodyM 2 4 b_Land_fields
def N_Land_touched : List Str := ["self", "thing"]
def b_Land_touched : SC := (retM (b1 (methM 15 "thing_of" (xv 0) (aCons (xv 1) aNil) m_Land_thing_of []) (fldF [14] "times")))
def m_Land_touched : Fn := bodyM 2 2 b_Land_touched
def N_Land_made_by : List Str := ["self", "key", "thing"]
def b_Land_made_by : SC := (seqM (ifS (notM (b1 (xv 1) (isiF "str"))) nvS nxM)
 (seqM (forM (valS (b1 (xv 0) (fldF [15] "things"))) (asgN 2) (ifS (b2 (b1 (xv 2) (fldF [14, 16] "key")) (xv 1) eqO) (retM (b1 (xv 2) (fldF [14, 16] "number"))) nxM))
 (retM (xc .non))))
def m_Land_made_by : Fn := bodyM 2 3 b_Land_made_by
def N_Known_init : List Str := ["self", "kind", "number", "key", "leaned", "numbers"]
def b_Known_init : SC := (seqM (fldS [14, 16] "sort_of" (xv 0) (xv 1))
 (seqM (fldS [14, 16] "number" (xv 0) (xv 2))
 (seqM (fldS [14, 16] "key" (xv 0) (xv 3))
 (seqM (fldS [16] "leaned" (xv 0) (cb (aCons (xv 4) aNil) listF))
 (fldS [14, 16] "numbers" (xv 0) (cb (aCons (xv 5) aNil) dictF))))))
def m_Known_init : Fn := bodyM 6 6 b_Known_init
def N_found_in : List Str := ["land", "known"]
def b_found_in : SC := (seqM (ifS (b2 (b1 (xv 1) (fldF [14, 16] "number")) (xc .non) isNotF2) (retM (ifM (b2 (b1 (xv 1) (fldF [14, 16] "number")) (b1 (xv 0) (fldF [15] "things")) inO) (b1 (xv 1) (fldF [14, 16] "number")) (xc .non))) nxM)
 (retM (ifM (b2 (b1 (xv 1) (fldF [14, 16] "key")) (xc .non) isNotF2) (methM 15 "made_by" (xv 0) (aCons (b1 (xv 1) (fldF [14, 16] "key")) aNil) m_Land_made_by []) (xc .non))))
def m_found_in : Fn := bodyM 2 2 b_found_in
def N_check_wish : List Str := ["land", "wish", "name", "kind", "fields", "behind", "wished", "other"]
def b_check_wish : SC := (forM (anyS (b1 (xv 1) (fldF [18, 20] "rows"))) (asgT 4 (asgCons (asgN 2) (asgCons (asgN 3) (asgCons (asgN 4) (asgCons (asgN 5) asgNil))))) (seqM (ifS (b2 (xv 3) (b1 (xv 0) (fldF [15] "kinds_there")) notInO) nvS nxM)
 (seqM (ifS (b2 (cb (aCons (cb (aCons (xv 4) aNil) listF) aNil) sortF) (cb (aCons (b2 (b2 (b1 (xv 0) (fldF [15] "kinds_there")) (xv 3) idxO) (xc (.int 0)) idxO) aNil) sortF) neO) nvS nxM)
 (forM (valS (xv 4)) (asgN 6) (ifS (andM (notM (callM (aCons (xv 6) aNil) m_is_whole [])) (b2 (b2 (xv 6) (xc (.int 2)) idxO) (xc (.str "id")) neO)) (seqM (asgS (b2 (b2 (b1 (xv 1) (fldF [17, 19, 20] "table")) (b2 (xv 6) (xc (.int 1)) idxO) idxO) (xc (.int 1)) idxO) (asgN 7))
 (ifS (andM (b2 (xv 7) (b1 (xv 0) (fldF [15] "kinds_there")) inO) (b2 (b2 (xv 6) (xc (.int 2)) idxO) (b2 (b2 (b1 (xv 0) (fldF [15] "kinds_there")) (xv 7) idxO) (xc (.int 0)) idxO) notInO)) nvS nxM)) nxM)))))
def m_check_wish : Fn := bodyM 2 8 b_check_wish
def N_spoken_of : List Str := ["thing", "name", "kind", "fields", "behind", "wished"]
def b_spoken_of : SC := (seqM (asgS (xv 0) (asgT 4 (asgCons (asgN 1) (asgCons (asgN 2) (asgCons (asgN 3) (asgCons (asgN 4) asgNil))))))
 (retM (b2 (lcM' [5] (valS (xv 3)) (asgN 5) (notM (callM (aCons (xv 5) aNil) m_is_whole [])) (b2 (xv 5) (xc (.int 1)) idxO) finT) (xv 4) addF)))
def m_spoken_of : Fn := bodyM 1 6 b_spoken_of
def N_Wish_leaned_on : List Str := ["self", "name", "spoken", "other"]
def b_Wish_leaned_on : SC := (seqM (asgS (callM (aCons (b2 (b1 (xv 0) (fldF [17, 19, 20] "table")) (xv 1) idxO) aNil) m_spoken_of []) (asgN 2))
 (retM (lcM' [3] (anyS (b1 (xv 0) (fldF [17, 19, 20] "table"))) (asgN 3) (b2 (xv 3) (xv 2) inO) (xv 3) finC)))
def m_Wish_leaned_on : Fn := bodyM 2 4 b_Wish_leaned_on
def N_Wish_in_turn : List Str := ["self", "found", "name", "other"]
def b_Wish_in_turn : SC := (seqM (asgS (lstMC aNil) (asgN 1))
 (seqM (whileF 40 (b2 (cb (aCons (xv 1) aNil) lenF) (cb (aCons (b1 (xv 0) (fldF [17, 19, 20] "table")) aNil) lenF) ltF) (forM (anyS (b1 (xv 0) (fldF [17, 19, 20] "table"))) (asgN 2) (ifS (andM (b2 (xv 2) (xv 1) notInO) (cb (aCons (lcM' [3] (anyS (methM 20 "leaned_on" (xv 0) (aCons (xv 2) aNil) m_Wish_leaned_on [])) (asgN 3) yesT (b2 (xv 3) (xv 1) inO) finT) aNil) allF)) (exprM (lmM appF (xv 1) (aCons (xv 2) aNil))) nxM)))
 (retM (xv 1))))
def m_Wish_in_turn : Fn := bodyM 1 4 b_Wish_in_turn
def N_Look_id_of : List Str := ["self", "name"]
def b_Look_id_of : SC := (retM (ifM (b2 (b2 (b1 (xv 0) (fldF [17] "due")) (xv 1) idxO) (tupM (aCons (xc (.str "")) (aCons (xc (.str "change")) aNil))) inO) (get1M (b1 (xv 0) (fldF [17] "found")) (xv 1)) (xc .non)))
def m_Look_id_of : Fn := bodyM 2 2 b_Look_id_of
def N_Look_wished_number : List Str := ["self", "name", "field", "wished", "word", "other", "there"]
def b_Look_wished_number : SC := (seqM (asgS (b2 (b2 (b2 (b1 (b1 (xv 0) (fldF [17] "wish")) (fldF [17, 19, 20] "table")) (xv 1) idxO) (xc (.int 2)) idxO) (xv 2) idxO) (asgN 3))
 (seqM (ifS (callM (aCons (xv 3) aNil) m_is_whole []) (retM (xv 3)) nxM)
 (seqM (asgS (xv 3) (asgT 3 (asgCons (asgN 4) (asgCons (asgN 5) (asgCons (asgN 6) asgNil)))))
 (retM (ifM (b2 (xv 6) (xc (.str "id")) eqO) (methM 17 "id_of" (xv 0) (aCons (xv 5) aNil) m_Look_id_of []) nvE)))))
def m_Look_wished_number : Fn := bodyM 3 7 b_Look_wished_number
def N_Look_due_of : List Str := ["self", "name", "number", "kind", "fields", "fixed", "unlike", "field"]
def b_Look_due_of : SC := (seqM (asgS (get1M (b1 (xv 0) (fldF [17] "found")) (xv 1)) (asgN 2))
 (seqM (ifS (b2 (xv 2) (xc .non) isF2) (retM (xc (.str "make"))) nxM)
 (seqM (asgS (b2 (b2 (b1 (b1 (xv 0) (fldF [17] "wish")) (fldF [17, 19, 20] "table")) (xv 1) idxO) (xc (.int 1)) idxO) (asgN 3))
 (seqM (ifS (b2 (methM 15 "kind" (b1 (xv 0) (fldF [17, 19] "land")) (aCons (xv 2) aNil) m_Land_kind []) (xv 3) neO) (retM (xc (.str "anew"))) nxM)
 (seqM (asgS (b2 (b1 (b1 (xv 0) (fldF [17, 19] "land")) (fldF [15] "kinds_there")) (xv 3) idxO) (asgT 2 (asgCons (asgN 4) (asgCons (asgN 5) asgNil))))
 (seqM (asgS (lcM' [7] (anyS (xv 4)) (asgN 7) (b2 (methM 17 "wished_number" (xv 0) (aCons (xv 1) (aCons (xv 7) aNil)) m_Look_wished_number []) (b2 (methM 15 "fields" (b1 (xv 0) (fldF [17, 19] "land")) (aCons (xv 2) aNil) m_Land_fields []) (xv 7) idxO) neO) (xv 7) finT) (asgN 6))
 (seqM (ifS (cb (aCons (lcM' [7] (anyS (xv 6)) (asgN 7) yesT (b2 (xv 7) (xv 5) inO) finT) aNil) anyF) (retM (xc (.str "anew"))) nxM)
 (retM (ifM (b2 (xv 6) (lstM aNil) neO) (xc (.str "change")) (xc (.str "")))))))))))
def m_Look_due_of : Fn := bodyM 2 8 b_Look_due_of
def N_Look_init : List Str := ["self", "land", "table", "wish", "name"]
def b_Look_init : SC := (seqM (exprM (callM (aCons (xv 1) (aCons (xv 3) aNil)) m_check_wish []))
 (seqM (fldS [17, 19] "land" (xv 0) (xv 1))
 (seqM (fldS [17] "wish" (xv 0) (xv 3))
 (seqM (fldS [17, 19, 20] "table" (xv 0) (xv 2))
 (seqM (fldS [17] "found" (xv 0) (dcM [4] (anyS (xv 2)) (asgN 4) yesT (xv 4) (callM (aCons (xv 1) (aCons (b2 (xv 2) (xv 4) idxO) aNil)) m_found_in []) finDT))
 (seqM (fldS [17] "due" (xv 0) dicMC)
 (forM (anyS (methM 20 "in_turn" (xv 3) aNil m_Wish_in_turn [])) (asgN 4) (asgS (methM 17 "due_of" (xv 0) (aCons (xv 4) aNil) m_Look_due_of []) (asgSub (b1 (xv 0) (fldF [17] "due")) (xv 4))))))))))
def m_Look_init : Fn := bodyM 4 5 b_Look_init
def N_Look_takes : List Str := ["self", "found", "name"]
def b_Look_takes : SC := (seqM (asgS (lcM' [2] (anyS (b1 (xv 0) (fldF [17, 19, 20] "table"))) (asgN 2) (andM (b2 (xv 2) (b1 (b1 (xv 0) (fldF [17] "wish")) (fldF [17, 19, 20] "table")) notInO) (b2 (b2 (b1 (xv 0) (fldF [17] "found")) (xv 2) idxO) (xc .non) isNotF2)) (xv 2) finT) (asgN 1))
 (retM (b2 (xv 1) (lcM' [2] (anyS (b1 (xv 0) (fldF [17] "due"))) (asgN 2) (b2 (b2 (b1 (xv 0) (fldF [17] "due")) (xv 2) idxO) (xc (.str "anew")) eqO) (xv 2) finT) addF)))
def m_Look_takes : Fn := bodyM 1 3 b_Look_takes
def N_Look_leaned_by : List Str := ["self", "name"]
def b_Look_leaned_by : SC := (retM (ifM (b2 (xv 1) (b1 (b1 (xv 0) (fldF [17] "wish")) (fldF [17, 19, 20] "table")) inO) (methM 20 "leaned_on" (b1 (xv 0) (fldF [17] "wish")) (aCons (xv 1) aNil) m_Wish_leaned_on []) (b1 (b2 (b1 (xv 0) (fldF [17, 19, 20] "table")) (xv 1) idxO) (fldF [16] "leaned"))))
def m_Look_leaned_by : Fn := bodyM 2 2 b_Look_leaned_by
def N_Look_deeds : List Str := ["self", "left", "found", "held", "free", "name", "word", "other"]
def b_Look_deeds : SC := (seqM (parM 1 2 (aCons (methM 17 "takes" (xv 0) aNil m_Look_takes []) (aCons (lstMC aNil) aNil)))
 (seqM (whileF 40 (b2 (xv 1) (lstMC aNil) neO) (seqM (asgS (lc2M [5, 7] (anyS (xv 1)) (asgN 5) yesT [7] (anyS (frzM (methM 17 "leaned_by" (xv 0) (aCons (xv 5) aNil) m_Look_leaned_by []))) (asgN 7) (b2 (xv 7) (xv 5) neO) (xv 7) finT) (asgN 3))
 (seqM (asgS (lcM' [5] (anyS (xv 1)) (asgN 5) (b2 (xv 5) (xv 3) notInO) (xv 5) finT) (asgN 4))
 (seqM (exprM (extM (xv 2) (lcM' [5] (anyS (xv 4)) (asgN 5) yesT (tupM (aCons (xc (.str "take")) (aCons (xv 5) aNil))) finT)))
 (asgS (lcM' [5] (anyS (xv 1)) (asgN 5) (b2 (xv 5) (xv 4) notInO) (xv 5) finT) (asgN 1))))))
 (seqM (forM (itmS (b1 (xv 0) (fldF [17] "due"))) (asgT 2 (asgCons (asgN 5) (asgCons (asgN 6) asgNil))) (ifS (b2 (xv 6) (xc (.str "")) neO) (exprM (lmM appF (xv 2) (aCons (tupM (aCons (ifM (b2 (xv 6) (xc (.str "change")) eqO) (xc (.str "change")) (xc (.str "make"))) (aCons (xv 5) aNil))) aNil))) nxM))
 (retM (xv 2)))))
def m_Look_deeds : Fn := bodyM 1 8 b_Look_deeds
def N_Look_ahead : List Str := ["self", "one", "other"]
def b_Look_ahead : SC := (seqM (ifS (b2 (b2 (xv 1) (xc (.int 0)) idxO) (xc (.str "take")) eqO) (seqM (ifS (b2 (b2 (xv 2) (xc (.int 0)) idxO) (xc (.str "take")) eqO) (retM (andM (b2 (b2 (xv 1) (xc (.int 1)) idxO) (b2 (xv 2) (xc (.int 1)) idxO) neO) (b2 (b2 (xv 2) (xc (.int 1)) idxO) (methM 17 "leaned_by" (xv 0) (aCons (b2 (xv 1) (xc (.int 1)) idxO) aNil) m_Look_leaned_by []) inO))) nxM)
 (retM (andM (b2 (b2 (xv 2) (xc (.int 0)) idxO) (xc (.str "make")) eqO) (b2 (b2 (xv 1) (xc (.int 1)) idxO) (b2 (xv 2) (xc (.int 1)) idxO) eqO)))) nxM)
 (retM (andM (b2 (b2 (xv 2) (xc (.int 0)) idxO) (xc (.str "take")) neO) (b2 (b2 (xv 1) (xc (.int 1)) idxO) (methM 20 "leaned_on" (b1 (xv 0) (fldF [17] "wish")) (aCons (b2 (xv 2) (xc (.int 1)) idxO) aNil) m_Wish_leaned_on []) inO))))
def m_Look_ahead : Fn := bodyM 3 3 b_Look_ahead
def N_Look_drift : List Str := ["self", "rows", "name", "known", "number", "there", "field"]
def b_Look_drift : SC := (seqM (asgS (lstMC aNil) (asgN 1))
 (seqM (forM (itmS (b1 (xv 0) (fldF [17, 19, 20] "table"))) (asgT 2 (asgCons (asgN 2) (asgCons (asgN 3) asgNil))) (seqM (asgS (b2 (b1 (xv 0) (fldF [17] "found")) (xv 2) idxO) (asgN 4))
 (ifS (b2 (xv 4) (xc .non) isF2) (exprM (extM (xv 1) (ifM (b2 (b1 (xv 3) (fldF [14, 16] "number")) (xc .non) isNotF2) (lstM (aCons (tupM (aCons (xv 2) (aCons (xc .non) (aCons (xc .non) aNil)))) aNil)) (lstMC aNil)))) (seqM (asgS (methM 15 "fields" (b1 (xv 0) (fldF [17, 19] "land")) (aCons (xv 4) aNil) m_Land_fields []) (asgN 5))
 (exprM (extM (xv 1) (lcM' [6] (anyS (xv 5)) (asgN 6) (b2 (b2 (xv 5) (xv 6) idxO) (b2 (b1 (xv 3) (fldF [14, 16] "numbers")) (xv 6) idxO) neO) (tupM (aCons (xv 2) (aCons (xv 6) (aCons (b2 (xv 5) (xv 6) idxO) aNil)))) finT)))))))
 (retM (xv 1))))
def m_Look_drift : Fn := bodyM 1 7 b_Look_drift
def N_allowed : List Str := ["keeper", "wish", "deeds", "look", "at", "one", "other"]
def b_allowed : SC := (seqM (asgS (makeM 17 (aCons (b1 (xv 0) (fldF [17, 19] "land")) (aCons (b1 (xv 0) (fldF [17, 19, 20] "table")) (aCons (xv 1) aNil))) m_Look_init []) (asgN 3))
 (seqM (ifS (b2 (cb (aCons (xv 2) aNil) sortF) (cb (aCons (methM 17 "deeds" (xv 3) aNil m_Look_deeds []) aNil) sortF) neO) (retM (xc (.bl false))) nxM)
 (seqM (forM (enmS (xv 2)) (asgT 2 (asgCons (asgN 4) (asgCons (asgN 5) asgNil))) (ifS (cb (aCons (lcM' [6] (anyS (slM (xv 2) (oSo (b2 (xv 4) (xc (.int 1)) addF)) oNo)) (asgN 6) yesT (methM 17 "ahead" (xv 3) (aCons (xv 6) (aCons (xv 5) aNil)) m_Look_ahead []) finT) aNil) anyF) (retM (xc (.bl false))) nxM))
 (retM (xc (.bl true))))))
def m_allowed : Fn := bodyM 3 7 b_allowed
def N_Plan_init : List Str := ["self", "look", "land_done", "keeper_done"]
def b_Plan_init : SC := (seqM (fldS [18] "look" (xv 0) (xv 1))
 (seqM (fldS [18] "land_done" (xv 0) (xv 2))
 (seqM (fldS [18] "keeper_done" (xv 0) (xv 3))
 (seqM (fldS [18, 20] "rows" (xv 0) (methM 17 "deeds" (xv 1) aNil m_Look_deeds []))
 (fldS [18] "changed" (xv 0) (methM 17 "drift" (xv 1) aNil m_Look_drift []))))))
def m_Plan_init : Fn := bodyM 4 4 b_Plan_init
def N_Plan_deeds : List Str := ["self"]
def b_Plan_deeds : SC := (retM (cb (aCons (b1 (xv 0) (fldF [18, 20] "rows")) aNil) listC))
def m_Plan_deeds : Fn := bodyM 1 1 b_Plan_deeds
def N_Plan_drift : List Str := ["self"]
def b_Plan_drift : SC := (retM (cb (aCons (b1 (xv 0) (fldF [18] "changed")) aNil) listC))
def m_Plan_drift : Fn := bodyM 1 1 b_Plan_drift
def N_Keeper_init : List Str := ["self", "land", "mark"]
def b_Keeper_init : SC := (seqM (ifS (notM (callM (aCons (xv 2) aNil) m_is_name [])) nvS nxM)
 (seqM (fldS [17, 19] "land" (xv 0) (xv 1))
 (seqM (fldS [19] "mark" (xv 0) (xv 2))
 (seqM (fldS [17, 19, 20] "table" (xv 0) dicMC)
 (seqM (fldS [19] "keys_so_far" (xv 0) (xc (.int 0)))
 (seqM (fldS [19] "done_so_far" (xv 0) (xc (.int 0)))
 (fldS [19] "hand_now" (xv 0) (xc .non))))))))
def m_Keeper_init : Fn := bodyM 3 3 b_Keeper_init
def N_Keeper_plan : List Str := ["self", "wish"]
def b_Keeper_plan : SC := (retM (makeM 18 (aCons (makeM 17 (aCons (b1 (xv 0) (fldF [17, 19] "land")) (aCons (b1 (xv 0) (fldF [17, 19, 20] "table")) (aCons (xv 1) aNil))) m_Look_init []) (aCons (b1 (b1 (xv 0) (fldF [17, 19] "land")) (fldF [15] "deeds_done")) (aCons (b1 (xv 0) (fldF [19] "done_so_far")) aNil))) m_Plan_init []))
def m_Keeper_plan : Fn := bodyM 2 2 b_Keeper_plan
def N_Keeper_lock : List Str := ["self", "hand"]
def b_Keeper_lock : SC := (seqM (ifS (notM (callM (aCons (xv 1) aNil) m_is_name [])) nvS nxM)
 (seqM (ifS (b2 (b1 (xv 0) (fldF [19] "hand_now")) (xc .non) isNotF2) nvS nxM)
 (fldS [19] "hand_now" (xv 0) (xv 1))))
def m_Keeper_lock : Fn := bodyM 2 2 b_Keeper_lock
def N_Keeper_check_hand : List Str := ["self", "hand"]
def b_Keeper_check_hand : SC := (ifS (orM (b2 (b1 (xv 0) (fldF [19] "hand_now")) (xc .non) isF2) (orM (notM (b1 (xv 1) (isiF "str"))) (b2 (xv 1) (b1 (xv 0) (fldF [19] "hand_now")) neO))) nvS nxM)
def m_Keeper_check_hand : Fn := bodyM 2 2 b_Keeper_check_hand
def N_Keeper_know_look : List Str := ["self", "look", "late", "name", "known", "number", "leaned", "numbers", "sort_of"]
def b_Keeper_know_look : SC := (seqM (asgS dicMC (asgN 2))
 (seqM (forM (itmS (b1 (xv 0) (fldF [17, 19, 20] "table"))) (asgT 2 (asgCons (asgN 3) (asgCons (asgN 4) asgNil))) (seqM (asgS (b2 (b1 (xv 1) (fldF [17] "found")) (xv 3) idxO) (asgN 5))
 (ifS (orM (b2 (xv 3) (b1 (b1 (xv 1) (fldF [17] "wish")) (fldF [17, 19, 20] "table")) inO) (b2 (xv 5) (xc .non) isNotF2)) (seqM (asgS (methM 17 "leaned_by" (xv 1) (aCons (xv 3) aNil) m_Look_leaned_by []) (asgN 6))
 (seqM (asgS (ifM (b2 (xv 5) (xc .non) isNotF2) (methM 15 "fields" (b1 (xv 1) (fldF [17, 19] "land")) (aCons (xv 5) aNil) m_Land_fields []) dicMC) (asgN 7))
 (seqM (asgS (ifM (b2 (xv 5) (xc .non) isNotF2) (methM 15 "kind" (b1 (xv 1) (fldF [17, 19] "land")) (aCons (xv 5) aNil) m_Land_kind []) (b1 (xv 4) (fldF [14, 16] "sort_of"))) (asgN 8))
 (asgS (makeM 16 (aCons (xv 8) (aCons (xv 5) (aCons (ifM (b2 (xv 5) (xc .non) isNotF2) (b1 (xv 4) (fldF [14, 16] "key")) (xc .non)) (aCons (xv 6) (aCons (xv 7) aNil))))) m_Known_init []) (asgSub (xv 2) (xv 3)))))) nxM)))
 (fldS [17, 19, 20] "table" (xv 0) (xv 2))))
def m_Keeper_know_look : Fn := bodyM 2 9 b_Keeper_know_look
def N_Keeper_number_for : List Str := ["self", "wish", "name", "field", "wished", "word", "other", "there"]
def b_Keeper_number_for : SC := (seqM (asgS (b2 (b2 (b2 (b1 (xv 1) (fldF [17, 19, 20] "table")) (xv 2) idxO) (xc (.int 2)) idxO) (xv 3) idxO) (asgN 4))
 (seqM (ifS (notM (b1 (xv 4) (isiF "tuple"))) (retM (xv 4)) nxM)
 (seqM (asgS (xv 4) (asgT 3 (asgCons (asgN 5) (asgCons (asgN 6) (asgCons (asgN 7) asgNil)))))
 (retM (ifM (b2 (xv 7) (xc (.str "id")) eqO) (b1 (b2 (b1 (xv 0) (fldF [17, 19, 20] "table")) (xv 6) idxO) (fldF [14, 16] "number")) nvE)))))
def m_Keeper_number_for : Fn := bodyM 4 8 b_Keeper_number_for
def N_Keeper_numbers_for : List Str := ["self", "wish", "name", "fields", "field"]
def b_Keeper_numbers_for : SC := (retM (dcM [4] (anyS (xv 3)) (asgN 4) yesT (xv 4) (methM 19 "number_for" (xv 0) (aCons (xv 1) (aCons (xv 2) (aCons (xv 4) aNil))) m_Keeper_number_for []) finDT))
def m_Keeper_numbers_for : Fn := bodyM 4 5 b_Keeper_numbers_for
def N_Keeper_make : List Str := ["self", "wish", "name", "row_name", "kind", "fields", "behind", "numbers", "key"]
def b_Keeper_make : SC := (seqM (asgS (b2 (b1 (xv 1) (fldF [17, 19, 20] "table")) (xv 2) idxO) (asgT 4 (asgCons (asgN 3) (asgCons (asgN 4) (asgCons (asgN 5) (asgCons (asgN 6) asgNil))))))
 (seqM (asgS (methM 19 "numbers_for" (xv 0) (aCons (xv 1) (aCons (xv 2) (aCons (b2 (b2 (b1 (b1 (xv 0) (fldF [17, 19] "land")) (fldF [15] "kinds_there")) (xv 4) idxO) (xc (.int 0)) idxO) aNil))) m_Keeper_numbers_for []) (asgN 7))
 (seqM (asgS (fstM (sVal (b1 (xv 0) (fldF [19] "mark")) (sVal (b1 (xv 0) (fldF [19] "keys_so_far")) sNil))) (asgN 8))
 (seqM (fldAug [19] "keys_so_far" iaddF (xv 0) (xc (.int 1)))
 (seqM (asgS (makeM 16 (aCons (xv 4) (aCons (xc .non) (aCons (xv 8) (aCons (methM 20 "leaned_on" (xv 1) (aCons (xv 2) aNil) m_Wish_leaned_on []) (aCons (xv 7) aNil))))) m_Known_init []) (asgSub (b1 (xv 0) (fldF [17, 19, 20] "table")) (xv 2)))
 (fldS [14, 16] "number" (b2 (b1 (xv 0) (fldF [17, 19, 20] "table")) (xv 2) idxO) (methKM 15 "make" 3 1 (b1 (xv 0) (fldF [17, 19] "land")) (aCons (xv 4) (aCons (xv 7) aNil)) (aCons (xv 8) aNil) m_Land_make)))))))
def m_Keeper_make : Fn := bodyM 3 9 b_Keeper_make
def N_Keeper_change : List Str := ["self", "wish", "name", "known", "there", "numbers", "unlike", "field"]
def b_Keeper_change : SC := (seqM (asgS (b2 (b1 (xv 0) (fldF [17, 19, 20] "table")) (xv 2) idxO) (asgN 3))
 (seqM (asgS (methM 15 "fields" (b1 (xv 0) (fldF [17, 19] "land")) (aCons (b1 (xv 3) (fldF [14, 16] "number")) aNil) m_Land_fields []) (asgN 4))
 (seqM (asgS (methM 19 "numbers_for" (xv 0) (aCons (xv 1) (aCons (xv 2) (aCons (cb (aCons (xv 4) aNil) listF) aNil))) m_Keeper_numbers_for []) (asgN 5))
 (seqM (asgS (dcM [7] (anyS (xv 4)) (asgN 7) (b2 (b2 (xv 5) (xv 7) idxO) (b2 (xv 4) (xv 7) idxO) neO) (xv 7) (b2 (xv 5) (xv 7) idxO) finDT) (asgN 6))
 (seqM (ifS (b2 (xv 6) dicM neO) (exprM (methM 15 "change" (b1 (xv 0) (fldF [17, 19] "land")) (aCons (b1 (xv 3) (fldF [14, 16] "number")) (aCons (xv 6) aNil)) m_Land_change [])) nxM)
 (fldS [14, 16] "numbers" (xv 3) (xv 5)))))))
def m_Keeper_change : Fn := bodyM 3 8 b_Keeper_change
def N_Keeper_take : List Str := ["self", "wish", "name", "known"]
def b_Keeper_take : SC := (seqM (asgS (b2 (b1 (xv 0) (fldF [17, 19, 20] "table")) (xv 2) idxO) (asgN 3))
 (seqM (exprM (methM 15 "take" (b1 (xv 0) (fldF [17, 19] "land")) (aCons (b1 (xv 3) (fldF [14, 16] "number")) aNil) m_Land_take []))
 (ifS (b2 (xv 2) (b1 (xv 1) (fldF [17, 19, 20] "table")) inO) (asg2S (xc .non) (asgFld [14, 16] "number" (xv 3)) (asgFld [14, 16] "key" (xv 3))) (exprM (pop1M (b1 (xv 0) (fldF [17, 19, 20] "table")) (xv 2))))))
def m_Keeper_take : Fn := bodyM 3 4 b_Keeper_take
def N_Keeper_apply : List Str := ["self", "plan", "hand", "wish", "done", "word", "name"]
def b_Keeper_apply : SC := (seqM (exprM (methM 19 "check_hand" (xv 0) (aCons (xv 2) aNil) m_Keeper_check_hand []))
 (seqM (ifS (orM (b2 (b1 (xv 1) (fldF [18] "land_done")) (b1 (b1 (xv 0) (fldF [17, 19] "land")) (fldF [15] "deeds_done")) neO) (b2 (b1 (xv 1) (fldF [18] "keeper_done")) (b1 (xv 0) (fldF [19] "done_so_far")) neO)) nvS nxM)
 (seqM (fldAug [19] "done_so_far" iaddF (xv 0) (xc (.int 1)))
 (seqM (exprM (methM 19 "know_look" (xv 0) (aCons (b1 (xv 1) (fldF [18] "look")) aNil) m_Keeper_know_look []))
 (seqM (parM 3 4 (aCons (b1 (b1 (xv 1) (fldF [18] "look")) (fldF [17] "wish")) (aCons (xc (.int 0)) aNil)))
 (seqM (forM (anyS (b1 (xv 1) (fldF [18, 20] "rows"))) (asgT 2 (asgCons (asgN 5) (asgCons (asgN 6) asgNil))) (seqM (thruM (ifS (b2 (xv 5) (xc (.str "make")) eqO) (exprM (methM 19 "make" (xv 0) (aCons (xv 3) (aCons (xv 6) aNil)) m_Keeper_make [])) (ifS (b2 (xv 5) (xc (.str "change")) eqO) (exprM (methM 19 "change" (xv 0) (aCons (xv 3) (aCons (xv 6) aNil)) m_Keeper_change [])) (exprM (methM 19 "take" (xv 0) (aCons (xv 3) (aCons (xv 6) aNil)) m_Keeper_take [])))))
 (augM 4 iaddF (xc (.int 1)))))
 (retM (xv 4))))))))
def m_Keeper_apply : Fn := bodyM 3 7 b_Keeper_apply
def N_Keeper_known : List Str := ["self", "name", "known"]
def b_Keeper_known : SC := (retM (dcM [1, 2] (itmS (b1 (xv 0) (fldF [17, 19, 20] "table"))) (asgT 2 (asgCons (asgN 1) (asgCons (asgN 2) asgNil))) yesT (xv 1) (b1 (xv 2) (fldF [14, 16] "number")) finDC))
def m_Keeper_known : Fn := bodyM 1 3 b_Keeper_known
def N_is_wished : List Str := ["thing"]
def b_is_wished : SC := (seqM (ifS (callM (aCons (xv 0) aNil) m_is_whole []) (retM (xc (.bl true))) nxM)
 (seqM (ifS (orM (notM (b1 (xv 0) (isiF "tuple"))) (orM (b2 (cb (aCons (xv 0) aNil) lenF) (xc (.int 3)) neO) (orM (notM (b1 (b2 (xv 0) (xc (.int 0)) idxO) (isiF "str"))) (b2 (b2 (xv 0) (xc (.int 0)) idxO) (xc (.str "of")) neO)))) (retM (xc (.bl false))) nxM)
 (retM (andM (callM (aCons (b2 (xv 0) (xc (.int 1)) idxO) aNil) m_is_name []) (callM (aCons (b2 (xv 0) (xc (.int 2)) idxO) aNil) m_is_name [])))))
def m_is_wished : Fn := bodyM 1 1 b_is_wished
def N_has_form : List Str := ["thing", "field"]
def b_has_form : SC := (seqM (ifS (orM (notM (b1 (xv 0) (isiF "tuple"))) (orM (b2 (cb (aCons (xv 0) aNil) lenF) (xc (.int 4)) neO) (orM (notM (callM (aCons (b2 (xv 0) (xc (.int 0)) idxO) aNil) m_is_name [])) (notM (callM (aCons (b2 (xv 0) (xc (.int 1)) idxO) aNil) m_is_name []))))) (retM (xc (.bl false))) nxM)
 (seqM (ifS (orM (notM (b1 (b2 (xv 0) (xc (.int 2)) idxO) (isiF "dict"))) (notM (callM (aCons (b2 (xv 0) (xc (.int 3)) idxO) aNil) m_are_unlike_names []))) (retM (xc (.bl false))) nxM)
 (seqM (ifS (b2 (b2 (xv 0) (xc (.int 0)) idxO) (b2 (xv 0) (xc (.int 3)) idxO) inO) (retM (xc (.bl false))) nxM)
 (retM (cb (aCons (lcM' [1] (anyS (b2 (xv 0) (xc (.int 2)) idxO)) (asgN 1) yesT (andM (callM (aCons (xv 1) aNil) m_is_name []) (callM (aCons (b2 (b2 (xv 0) (xc (.int 2)) idxO) (xv 1) idxO) aNil) m_is_wished [])) finT) aNil) allF)))))
def m_has_form : Fn := bodyM 1 2 b_has_form
def N_first_wrong : List Str := ["things", "names", "at", "thing", "name", "other"]
def b_first_wrong : SC := (seqM (asgS (lcM' [3] (anyS (xv 0)) (asgN 3) (andM (b1 (xv 3) (isiF "tuple")) (andM (b2 (cb (aCons (xv 3) aNil) lenF) (xc (.int 0)) gtF) (b1 (b2 (xv 3) (xc (.int 0)) idxO) (isiF "str")))) (b2 (xv 3) (xc (.int 0)) idxO) finT) (asgN 1))
 (seqM (forM (enmS (xv 0)) (asgT 2 (asgCons (asgN 2) (asgCons (asgN 3) asgNil))) (seqM (ifS (orM (notM (callM (aCons (xv 3) aNil) m_has_form [])) (notM (cb (aCons (lcM' [4] (anyS (callM (aCons (xv 3) aNil) m_spoken_of [])) (asgN 4) yesT (b2 (xv 4) (xv 1) inO) finT) aNil) allF))) (retM (xv 2)) nxM)
 (ifS (b2 (b2 (xv 3) (xc (.int 0)) idxO) (lcM' [5] (anyS (slM (xv 0) oNo (oSo (xv 2)))) (asgN 5) yesT (b2 (xv 5) (xc (.int 0)) idxO) finT) inO) (retM (xv 2)) nxM)))
 (retM (xc .non))))
def m_first_wrong : Fn := bodyM 1 6 b_first_wrong
def N_Wish_check_rings : List Str := ["self", "left", "free", "path", "name", "other"]
def b_Wish_check_rings : SC := (seqM (asgS (cb (aCons (b1 (xv 0) (fldF [17, 19, 20] "table")) aNil) listF) (asgN 1))
 (seqM (whileF 40 (xc (.bl true)) (seqM (asgS (lcM' [4] (anyS (xv 1)) (asgN 4) (notM (cb (aCons (lcM' [5] (anyS (methM 20 "leaned_on" (xv 0) (aCons (xv 4) aNil) m_Wish_leaned_on [])) (asgN 5) yesT (b2 (xv 5) (xv 1) inO) finT) aNil) anyF)) (xv 4) finT) (asgN 2))
 (seqM (ifS (b2 (xv 2) (lstM aNil) eqO) bkM nxM)
 (asgS (lcM' [4] (anyS (xv 1)) (asgN 4) (b2 (xv 4) (xv 2) notInO) (xv 4) finT) (asgN 1)))))
 (seqM (ifS (b2 (xv 1) (lstM aNil) eqO) retN nxM)
 (seqM (asgS (lstMC (aCons (b2 (xv 1) (xc (.int 0)) idxO) aNil)) (asgN 3))
 (seqM (whileF 40 (b2 (b2 (xv 3) (xc (.int (-1))) idxO) (slM (xv 3) oNo (oSo (xc (.int (-1))))) notInO) (exprM (lmM appF (xv 3) (aCons (b2 (lcM' [5] (anyS (methM 20 "leaned_on" (xv 0) (aCons (b2 (xv 3) (xc (.int (-1))) idxO) aNil) m_Wish_leaned_on [])) (asgN 5) (b2 (xv 5) (xv 1) inO) (xv 5) finT) (xc (.int 0)) idxO) aNil))))
 nvS)))))
def m_Wish_check_rings : Fn := bodyM 1 6 b_Wish_check_rings
def N_Wish_init : List Str := ["self", "things", "at", "name", "kind", "fields", "behind", "row"]
def b_Wish_init : SC := (seqM (ifS (orM (notM (b1 (xv 1) (isiF "list"))) (b2 (cb (aCons (xv 1) aNil) lenF) (xc (.int 12)) gtF)) nvS nxM)
 (seqM (asgS (callM (aCons (xv 1) aNil) m_first_wrong []) (asgN 2))
 (seqM (ifS (b2 (xv 2) (xc .non) isNotF2) nvS nxM)
 (seqM (fldS [18, 20] "rows" (xv 0) (lcM' [3, 4, 5, 6] (anyS (xv 1)) (asgT 4 (asgCons (asgN 3) (asgCons (asgN 4) (asgCons (asgN 5) (asgCons (asgN 6) asgNil))))) yesT (tupM (aCons (xv 3) (aCons (xv 4) (aCons (cb (aCons (xv 5) aNil) dictF) (aCons (cb (aCons (xv 6) aNil) listF) aNil))))) finT))
 (seqM (fldS [17, 19, 20] "table" (xv 0) (dcM [7] (anyS (b1 (xv 0) (fldF [18, 20] "rows"))) (asgN 7) yesT (b2 (xv 7) (xc (.int 0)) idxO) (xv 7) finDT))
 (exprM (methM 20 "check_rings" (xv 0) aNil m_Wish_check_rings [])))))))
def m_Wish_init : Fn := bodyM 2 8 b_Wish_init
def N_Wish_names : List Str := ["self"]
def b_Wish_names : SC := (retM (cb (aCons (b1 (xv 0) (fldF [17, 19, 20] "table")) aNil) listC))
def m_Wish_names : Fn := bodyM 1 1 b_Wish_names
def N_Wish_leans : List Str := ["self", "name"]
def b_Wish_leans : SC := (seqM (ifS (orM (notM (b1 (xv 1) (isiF "str"))) (b2 (xv 1) (b1 (xv 0) (fldF [17, 19, 20] "table")) notInO)) nvS nxM)
 (retM (methM 20 "leaned_on" (xv 0) (aCons (xv 1) aNil) m_Wish_leaned_on [])))
def m_Wish_leans : Fn := bodyM 2 2 b_Wish_leans
def N__law_cell_at : List Str := ["_law_script", "_law_k"]
def b__law_cell_at : SC := (seqM (ifS (b2 (xv 1) (cb (aCons (xv 0) aNil) lenF) ltF) (retM (b2 (xv 0) (xv 1) idxO)) nxM)
 (retM (xc (.int 0))))
def m__law_cell_at : Fn := bodyM 2 2 b__law_cell_at
def N__law_draw : List Str := ["_law_cell", "_law_k", "_law_most", "_law_primes"]
def b__law_draw : SC := (seqM (asgS (tupM (aCons (xc (.int 1000003)) (aCons (xc (.int 1000033)) (aCons (xc (.int 1000037)) (aCons (xc (.int 1000039)) (aCons (xc (.int 1000081)) (aCons (xc (.int 1000099)) (aCons (xc (.int 1000117)) (aCons (xc (.int 1000121)) (aCons (xc (.int 1000133)) (aCons (xc (.int 1000151)) (aCons (xc (.int 1000159)) (aCons (xc (.int 1000171)) (aCons (xc (.int 1000183)) (aCons (xc (.int 1000187)) (aCons (xc (.int 1000193)) (aCons (xc (.int 1000199)) aNil))))))))))))))))) (asgN 3))
 (retM (b2 (b2 (b2 (b2 (xv 0) (xc (.int 48271)) mulF) (b2 (xv 1) (xc (.int 69621)) mulF) addF) (b2 (xv 3) (b2 (xv 1) (xc (.int 16)) modF) idxO) modF) (xv 2) modF)))
def m__law_draw : Fn := bodyM 3 4 b__law_draw
def N__law_number : List Str := ["_law_cell", "_law_k", "_law_limit", "_law_rest", "_law_turn", "_law_small"]
def b__law_number : SC := (seqM (asgS (b2 (xv 0) (b2 (xc (.int 10)) (xc (.int 18)) powF) subF) (asgN 3))
 (seqM (forM (rng1S (aCons (b2 (xv 1) (xc (.int 24)) modF) aNil)) (asgN 4) (asgS (b2 (xv 3) (xc (.int 1009)) fdivF) (asgN 3)))
 (seqM (ifS (b2 (xv 3) (xc (.int 0)) gtF) (retM (b2 (b2 (xv 3) (xc (.int 1009)) modF) (xv 2) modF)) nxM)
 (seqM (asgS (b2 (xv 0) (xc (.int 1000003)) modF) (asgN 5))
 (retM (b2 (callM (aCons (b2 (b2 (xv 5) (b2 (xc (.int 977)) (xv 1) mulF) addF) (b2 (b2 (xv 5) (b2 (xc (.int 31)) (xv 1) mulF) addF) (xc (.int 5)) addF) mulF) (aCons (b2 (b2 (xv 1) (xc (.int 9)) modF) (xc (.int 1)) addF) (aCons (xc (.int 999983)) aNil))) m__law_draw []) (xv 2) modF))))))
def m__law_number : Fn := bodyM 3 6 b__law_number
def N__law_land_right : List Str := ["_law_number_here", "_law_fields", "_law_fixed", "_law_numbers", "_law_counts", "_law_kinds", "_law_land", "_law_thing", "_law_some", "_law_turn"]
def b__law_land_right : SC := (seqM (asgS (tupM (aCons (lstMC (aCons (xc (.str "a")) (aCons (xc (.str "b")) aNil))) (aCons (lstMC (aCons (xc (.str "b")) aNil)) (aCons (dspMC (pCons (xc (.str "b")) (xv 0) (pCons (xc (.str "a")) (xc (.int 1)) pNil))) (aCons (dspMC (pCons (xc (.int 9)) (xc (.str "no")) pNil)) aNil))))) (asgT 4 (asgCons (asgN 1) (asgCons (asgN 2) (asgCons (asgN 3) (asgCons (asgN 4) asgNil))))))
 (seqM (asgS (dspMC (pCons (xc (.str "k")) (tupM (aCons (xv 1) (aCons (xv 2) aNil))) pNil)) (asgN 5))
 (seqM (asgS (makeM 15 (aCons (xv 5) aNil) m_Land_init []) (asgN 6))
 (seqM (exprM (lmM appF (xv 1) (aCons (xc (.str "c")) aNil)))
 (seqM (exprM (lmM appF (xv 2) (aCons (xc (.str "a")) aNil)))
 (seqM (exprM (clrD (xv 5)))
 (seqM (asgS (methKM 15 "make" 3 1 (xv 6) (aCons (xc (.str "k")) (aCons (xv 3) aNil)) (aCons (xc (.str "x")) aNil) m_Land_make) (asgN 7))
 (seqM (asgS (xc (.int 7)) (asgSub (xv 3) (xc (.str "a"))))
 (seqM (ifS (b2 (methM 15 "fields" (xv 6) (aCons (xv 7) aNil) m_Land_fields []) (dspM (pCons (xc (.str "a")) (xc (.int 1)) (pCons (xc (.str "b")) (xv 0) pNil))) neO) (retM (xc (.bl false))) nxM)
 (seqM (exprM (methM 15 "fails" (xv 6) (aCons (xv 4) aNil) m_Land_fails []))
 (seqM (asgS (xc (.str "no")) (asgSub (xv 4) (xc (.int 0))))
 (seqM (asgS (dspMC (pCons (xc (.str "a")) (xc (.int 3)) pNil)) (asgN 8))
 (seqM (exprM (methM 15 "change" (xv 6) (aCons (xv 7) (aCons (xv 8) aNil)) m_Land_change []))
 (seqM (asgS (xc (.int 9)) (asgSub (xv 8) (xc (.str "a"))))
 (seqM (forM (rng1S (aCons (xc (.int 2)) aNil)) (asgN 9) (seqM (ifS (orM (b2 (cb (aCons (methM 15 "fields" (xv 6) (aCons (xv 7) aNil) m_Land_fields []) aNil) strF) (cb (aCons (dspM (pCons (xc (.str "a")) (xc (.int 3)) (pCons (xc (.str "b")) (xv 0) pNil))) aNil) strF) neO) (orM (b2 (methM 15 "ids" (xv 6) aNil m_Land_ids []) (lstM (aCons (xv 7) aNil)) neO) (b2 (xv 8) (dspM (pCons (xc (.str "a")) (xc (.int 9)) pNil)) neO))) (retM (xc (.bl false))) nxM)
 (seqM (exprM (clrD (methM 15 "fields" (xv 6) (aCons (xv 7) aNil) m_Land_fields [])))
 (exprM (clrL (methM 15 "ids" (xv 6) aNil m_Land_ids []))))))
 (retM (andM (b2 (xv 3) (dspM (pCons (xc (.str "b")) (xv 0) (pCons (xc (.str "a")) (xc (.int 7)) pNil))) eqO) (b2 (methM 15 "touched" (xv 6) (aCons (xv 7) aNil) m_Land_touched []) (xc (.int 2)) eqO))))))))))))))))))
def m__law_land_right : Fn := bodyM 1 10 b__law_land_right
def N__law_wish_right : List Str := ["_law_number_here", "_law_land", "_law_fields", "_law_behind", "_law_things", "_law_wish", "_law_keeper", "_law_plan", "_law_deeds", "_law_turn"]
def b__law_wish_right : SC := (seqM (asgS (makeM 15 (aCons (dspM (pCons (xc (.str "k")) (tupM (aCons (lstM (aCons (xc (.str "a")) (aCons (xc (.str "b")) aNil))) (aCons (lstMC aNil) aNil))) pNil)) aNil) m_Land_init []) (asgN 1))
 (seqM (parM 2 3 (aCons (dspMC (pCons (xc (.str "a")) (xv 0) (pCons (xc (.str "b")) (xc (.int 2)) pNil))) (aCons (lstMC aNil) aNil)))
 (seqM (asgS (lstMC (aCons (tupM (aCons (xc (.str "x")) (aCons (xc (.str "k")) (aCons (xv 2) (aCons (xv 3) aNil))))) (aCons (tupM (aCons (xc (.str "y")) (aCons (xc (.str "k")) (aCons (dspM (pCons (xc (.str "a")) (tupM (aCons (xc (.str "of")) (aCons (xc (.str "x")) (aCons (xc (.str "id")) aNil)))) (pCons (xc (.str "b")) (xc (.int 1)) pNil))) (aCons (lstM (aCons (xc (.str "x")) aNil)) aNil))))) aNil))) (asgN 4))
 (seqM (parM 5 6 (aCons (makeM 20 (aCons (xv 4) aNil) m_Wish_init []) (aCons (makeM 19 (aCons (xv 1) aNil) m_Keeper_init [.str "k"]) aNil)))
 (seqM (asgS (xc (.int 99)) (asgSub (xv 2) (xc (.str "a"))))
 (seqM (exprM (lmM appF (xv 3) (aCons (xc (.str "y")) aNil)))
 (seqM (exprM (popL (xv 4)))
 (seqM (exprM (methM 19 "lock" (xv 6) (aCons (xc (.str "me")) aNil) m_Keeper_lock []))
 (seqM (parM 7 8 (aCons (methM 19 "plan" (xv 6) (aCons (xv 5) aNil) m_Keeper_plan []) (aCons (lstM (aCons (tupM (aCons (xc (.str "make")) (aCons (xc (.str "x")) aNil))) (aCons (tupM (aCons (xc (.str "make")) (aCons (xc (.str "y")) aNil))) aNil))) aNil)))
 (seqM (forM (rng1S (aCons (xc (.int 2)) aNil)) (asgN 9) (seqM (ifS (orM (b2 (methM 20 "names" (xv 5) aNil m_Wish_names []) (lstM (aCons (xc (.str "x")) (aCons (xc (.str "y")) aNil))) neO) (orM (b2 (methM 20 "leans" (xv 5) (aCons (xc (.str "y")) aNil) m_Wish_leans []) (lstM (aCons (xc (.str "x")) aNil)) neO) (orM (b2 (methM 20 "leans" (xv 5) (aCons (xc (.str "x")) aNil) m_Wish_leans []) (lstMC aNil) neO) (b2 (methM 18 "deeds" (xv 7) aNil m_Plan_deeds []) (xv 8) neO)))) (retM (xc (.bl false))) nxM)
 (seqM (ifS (orM (b2 (methM 18 "drift" (xv 7) aNil m_Plan_drift []) (lstMC aNil) neO) (orM (b2 (callM (aCons (xv 6) (aCons (xv 5) (aCons (xv 8) aNil))) m_allowed []) (xc (.bl true)) isNotF2) (b2 (xv 8) (lstM (aCons (tupM (aCons (xc (.str "make")) (aCons (xc (.str "x")) aNil))) (aCons (tupM (aCons (xc (.str "make")) (aCons (xc (.str "y")) aNil))) aNil))) neO))) (retM (xc (.bl false))) nxM)
 (seqM (exprM (clrL (methM 20 "names" (xv 5) aNil m_Wish_names [])))
 (seqM (exprM (clrL (methM 20 "leans" (xv 5) (aCons (xc (.str "y")) aNil) m_Wish_leans [])))
 (seqM (exprM (clrL (methM 18 "deeds" (xv 7) aNil m_Plan_deeds [])))
 (exprM (lmM appF (methM 18 "drift" (xv 7) aNil m_Plan_drift []) (aCons (xc (.int 1)) aNil)))))))))
 (seqM (ifS (orM (b2 (methKM 19 "apply" 2 1 (xv 6) (aCons (xv 7) aNil) (aCons (xc (.str "me")) aNil) m_Keeper_apply) (xc (.int 2)) neO) (b2 (methM 15 "fields" (xv 1) (aCons (xc (.int 0)) aNil) m_Land_fields []) (dspMC (pCons (xc (.str "a")) (xv 0) (pCons (xc (.str "b")) (xc (.int 2)) pNil))) neO)) (retM (xc (.bl false))) nxM)
 (seqM (forM (rng1S (aCons (xc (.int 2)) aNil)) (asgN 9) (seqM (ifS (orM (b2 (methM 19 "known" (xv 6) aNil m_Keeper_known []) (dspM (pCons (xc (.str "x")) (xc (.int 0)) (pCons (xc (.str "y")) (xc (.int 1)) pNil))) neO) (b2 (methM 15 "fields" (xv 1) (aCons (xc (.int 1)) aNil) m_Land_fields []) (dspM (pCons (xc (.str "a")) (xc (.int 0)) (pCons (xc (.str "b")) (xc (.int 1)) pNil))) neO)) (retM (xc (.bl false))) nxM)
 (exprM (clrD (methM 19 "known" (xv 6) aNil m_Keeper_known [])))))
 (retM (b2 (methM 18 "deeds" (methM 19 "plan" (xv 6) (aCons (xv 5) aNil) m_Keeper_plan []) aNil m_Plan_deeds []) (lstMC aNil) eqO))))))))))))))
def m__law_wish_right : Fn := bodyM 1 10 b__law_wish_right
def N_law : List Str := ["_law_script", "_law_cell", "_law_number_here"]
def b_law : SC := (seqM (forM (anyS (b2 (lstM (aCons (xc (.int 0)) aNil)) (slM (xv 0) oNo (oSo (xc (.int 3)))) addF)) (asgN 1) (seqM (asgS (callM (aCons (xv 1) (aCons (xc (.int 1)) (aCons (xc (.int 900)) aNil))) m__law_number []) (asgN 2))
 (ifS (orM (notM (callM (aCons (xv 2) aNil) (symFn m__law_land_right) [])) (notM (callM (aCons (xv 2) aNil) (symFn m__law_wish_right) []))) (retM (xc (.bl false))) nxM)))
 (retM (xc (.bl true))))
def m_law : Fn := bodyM 1 3 b_law
end K8
namespace K8
open PySem L2 M3
@[simp] theorem idx_tup {S : S3} {xs : List D} {j : Int} : idxO (.tup xs) (.int j) S = (atI xs j).map fun d => (d, S) := rfl
def prL : List D := [.int 1000003, .int 1000033, .int 1000037, .int 1000039, .int 1000081, .int 1000099, .int 1000117, .int 1000121, .int 1000133, .int 1000151, .int 1000159, .int 1000171, .int 1000183, .int 1000187, .int 1000193, .int 1000199]
theorem pr_at (k : Int) : ∃ p : Int, atI prL (k % 16) = some (.int p) ∧ 0 < p := by
  have h0 : 0 ≤ k % 16 := Int.emod_nonneg _ (by decide)
  have h1 : k % 16 < 16 := Int.emod_lt_of_pos _ (by decide)
  generalize k % 16 = j at h0 h1
  obtain ⟨n, rfl⟩ := Int.eq_ofNat_of_zero_le h0
  have h2 : n < 16 := by omega
  have : n = 0 ∨ n = 1 ∨ n = 2 ∨ n = 3 ∨ n = 4 ∨ n = 5 ∨ n = 6 ∨ n = 7 ∨ n = 8 ∨ n = 9 ∨ n = 10 ∨ n = 11 ∨ n = 12 ∨ n = 13 ∨ n = 14 ∨ n = 15 := by omega
  rcases this with rfl | rfl | rfl | rfl | rfl | rfl | rfl | rfl | rfl | rfl | rfl | rfl | rfl | rfl | rfl | rfl <;> exact ⟨_, rfl, by decide⟩
theorem draw (c k most : Int) (S : S3) (hm : 0 < most) : ∃ i, m__law_draw [.int c, .int k, .int most] S = .ok (.int i) S ∧ 0 ≤ i ∧ i < most := by
  obtain ⟨p, hp, pp⟩ := pr_at k
  refine ⟨(c * 48271 + k * 69621) % p % most, ?_, Int.emod_nonneg _ (by omega), Int.emod_lt_of_pos _ hm⟩
  have hl : (16 : Nat) ≤ lim := by decide
  unfold prL at hp
  simp [m__law_draw, b__law_draw, M3.small64, hp, pp, hm, hl]
/-- the loop that leaves figures away -/
theorem cut_loop (n : Nat) : ∀ (j : Nat) (a k l r : D) (S : S3) (x : D) (q : Int), ∃ (q' : Int) (r' : D), forL (asgN 4) (asgS (b2 (xv 3) (xc (.int 1009)) fdivF) (asgN 3)) ((List.range' j n).map fun i : Nat => .int (0 + (i : Int) * 1)) [some a, some k, some l, some (.int q), some r, none] S = .nx [some a, some k, some l, some (.int q'), some r', none] S := by
  induction n with
  | zero => intro j a k l r S x q; exact ⟨q, r, rfl⟩
  | succ n ih =>
    intro j a k l r S x q
    obtain ⟨q', r', h⟩ := ih (j + 1) a k l (.int (0 + (j : Int) * 1)) S x (q / 1009)
    refine ⟨q', r', ?_⟩
    rw [List.range'_succ, List.map_cons]
    unfold forL
    simp
    simpa using h
theorem cut_loop0 (n : Nat) (a k l : D) (S : S3) (q : Int) : ∃ (q' : Int) (r' : Option D), forL (asgN 4) (asgS (b2 (xv 3) (xc (.int 1009)) fdivF) (asgN 3)) (intsD 0 1 n) [some a, some k, some l, some (.int q), none, none] S = .nx [some a, some k, some l, some (.int q'), r', none] S := by
  cases n with
  | zero => exact ⟨q, none, rfl⟩
  | succ n =>
    obtain ⟨q', r', h⟩ := cut_loop n 1 a k l (.int (0 + ((0 : Nat) : Int) * 1)) S a (q / 1009)
    refine ⟨q', some r', ?_⟩
    unfold intsD
    rw [List.range_eq_range', List.range'_succ, List.map_cons]
    unfold forL
    simp
    simpa using h
theorem num (c k lm : Int) (S : S3) (h0 : 0 ≤ k) (h1 : k < 1000000) (hl : 0 < lm) : ∃ i, m__law_number [.int c, .int k, .int lm] S = .ok (.int i) S ∧ 0 ≤ i ∧ i < lm := by
  obtain ⟨q, r, hq⟩ := cut_loop0 (k % 24).toNat (.int c) (.int k) (.int lm) S (c - 10 ^ (18 : Nat))
  have hf : fit62 (k % 24) = true := by
    have a1 : 0 ≤ k % 24 := Int.emod_nonneg _ (by decide)
    have a2 : k % 24 < 24 := Int.emod_lt_of_pos _ (by decide)
    unfold fit62
    exact decide_eq_true ⟨by omega, by omega⟩
  by_cases hp : 0 < q
  · refine ⟨q % 1009 % lm, ?_, Int.emod_nonneg _ (by omega), Int.emod_lt_of_pos _ hl⟩
    simp at hq
    simp [m__law_number, b__law_number, hf, hq, hp, hl]
  · have s1 : 0 ≤ c % 1000003 := Int.emod_nonneg _ (by decide)
    have s2 : c % 1000003 < 1000003 := Int.emod_lt_of_pos _ (by decide)
    obtain ⟨i, hi, i0, i1⟩ := draw ((c % 1000003 + 977 * k) * (c % 1000003 + 31 * k + 5)) (k % 9 + 1) 999983 S (by decide)
    refine ⟨i % lm, ?_, Int.emod_nonneg _ (by omega), Int.emod_lt_of_pos _ hl⟩
    have m1 : M3.small64 (c % 1000003 + 977 * k) = true := by unfold M3.small64; exact decide_eq_true ⟨by omega, by omega⟩
    have m2 : M3.small64 977 = true := by decide
    have m3 : M3.small64 31 = true := by decide
    simp at hq
    simp [m__law_number, b__law_number, hf, hq, hp, hl, m1, m2, m3, hi]
def isT : R D → Bool
  | .ok (.bl true) _ => true
  | _ => false
theorem isT_of {r : R D} (h : isT r = true) : ∃ S, r = .ok (.bl true) S := by
  unfold isT at h
  split at h
  · exact ⟨_, rfl⟩
  · cases h
theorem land_t : isT (m__law_land_right [.sym 0] S0) = true := by decide +kernel
theorem wish_t : isT (m__law_wish_right [.sym 0] S0) = true := by decide +kernel
theorem sym_t {m : Fn} (h : isT (m [.sym 0] S0) = true) {i : Int} (h0 : 0 ≤ i) (h1 : i < 900) (S : S3) : symFn m [.int i] S = .ok (.bl true) S := by
  obtain ⟨S', e⟩ := isT_of h
  have hc : 0 ≤ i ∧ i < 10 ^ 10 := ⟨h0, by omega⟩
  show (if 0 ≤ i ∧ i < 10 ^ 10 then (match m [D.sym 0] S0 with
    | R.ok (D.bl b) _ => R.ok (D.bl b) S
    | _ => R.bad) else R.bad) = _
  rw [if_pos hc, e]
theorem turns : ∀ (cs : List Int) (a : Option D) (b c : Option D) (S : S3), ∃ b' c', forL (asgN 1) (seqM (asgS (callM (aCons (xv 1) (aCons (xc (.int 1)) (aCons (xc (.int 900)) aNil))) m__law_number []) (asgN 2))
    (ifS (orM (notM (callM (aCons (xv 2) aNil) (symFn m__law_land_right) [])) (notM (callM (aCons (xv 2) aNil) (symFn m__law_wish_right) []))) (retM (xc (.bl false))) nxM)) (cs.map .int) [a, b, c] S = .nx [a, b', c'] S
  | [], a, b, c, S => ⟨b, c, rfl⟩
  | n :: cs, a, b, c, S => by
    obtain ⟨i, hi, i0, i1⟩ := num n 1 900 S (by decide) (by decide) (by decide)
    obtain ⟨b', c', h⟩ := turns cs a (some (.int n)) (some (.int i)) S
    refine ⟨b', c', ?_⟩
    rw [List.map_cons]
    unfold forL
    simp [hi, sym_t land_t i0 i1, sym_t wish_t i0 i1]
    simpa using h
theorem sIx_lo (n : Nat) : HT.sIx n 0 none = 0 := rfl
theorem plain (ns : List Int) (hn : ns.length ≤ 63) : ∃ S', m_law [.scr (ns.map .int)] S0 = .ok (.bl true) S' := by
  obtain ⟨b', c', h⟩ := turns (0 :: ns.take (HT.sIx ns.length ns.length (some 3))) (some (.scr (ns.map .int))) none none S0
  have hl : (1 : Nat) ≤ lim := by decide
  have hz : ((cutD (ns.map D.int) none (some 3)).length + 1) ≤ lim := by
    have : (cutD (ns.map D.int) none (some 3)).length ≤ ns.length := by
      unfold cutD
      rw [List.length_take, List.length_drop, List.length_map]
      omega
    have : (64 : Nat) ≤ lim := by decide
    omega
  have hc : cutD (ns.map D.int) none (some 3) = (ns.take (HT.sIx ns.length ns.length (some 3))).map D.int := by
    unfold cutD
    rw [List.length_map, sIx_lo, List.drop_zero, Nat.sub_zero, List.map_take]
  refine ⟨S0, ?_⟩
  have ha : addF (.lst [.int 0]) (.lst (cutD (ns.map D.int) none (some 3))) S0 = some (.lst (.int 0 :: cutD (ns.map D.int) none (some 3)), S0) := by
    show (if [D.int 0].length + _ ≤ lim then _ else _) = _
    rw [if_pos (by rw [List.length_singleton]; omega)]
    rfl
  rw [List.map_cons, ← hc] at h
  have e : slB (.scr (ns.map D.int)) none (some 3) S0 = some (.lst (cutD (ns.map D.int) none (some 3)), S0) := rfl
  have e2 : anyK (.lst (.int 0 :: cutD (ns.map D.int) none (some 3))) S0 = .ok (.int 0 :: cutD (ns.map D.int) none (some 3), none) S0 := rfl
  simp [m_law, b_law, e, ha, hl, e2, h]
end K8
/-! The walks of the defs, printed by gen.py. -/
namespace K8
open PySem L2 M3

def noSt : Stmt := .Pass ⟨0, 0, 0, 0⟩
def top (i : Nat) : Stmt := PySem.Challenge.pw_wishedland_k08_whole_anew.main.body.getD i noSt
def cbody : Stmt → List Stmt
  | .ClassDef (body := b) .. => b
  | _ => []
structure Fx (ca : CAK) (K : PySem.W.Frag) (mg : Str → Option Value) : Prop where
  hK : K = ca.K
  f_isinstance : mg "isinstance" = none
  f_int : mg "int" = none
  f_bool : mg "bool" = none
  f_str : mg "str" = none
  f_len : mg "len" = none
  k_LETTERS : ∃ t, mg "LETTERS" = some (.str "abcdefghijklmnopqrstuvwxyz" t)
  f_all : mg "all" = none
  f_list : mg "list" = none
  f_tuple : mg "tuple" = none
  k_MOST_FIELDS : ∃ t, mg "MOST_FIELDS" = some (.int 5 t)
  k_ID : ∃ t, mg "ID" = some (.str "id" t)
  c_Known : Cls K (ca 16)
  n_Known_number : NoAttr K (ca 16) "number"
  c_Thing : Cls K (ca 14)
  n_Thing_number : NoAttr K (ca 14) "number"
  n_Known_sort_of : NoAttr K (ca 16) "sort_of"
  n_Thing_sort_of : NoAttr K (ca 14) "sort_of"
  f_dict : mg "dict" = none
  n_Known_numbers : NoAttr K (ca 16) "numbers"
  n_Thing_numbers : NoAttr K (ca 14) "numbers"
  n_Known_key : NoAttr K (ca 16) "key"
  n_Thing_key : NoAttr K (ca 14) "key"
  n_Thing_times : NoAttr K (ca 14) "times"
  k_MOST_KINDS : ∃ t, mg "MOST_KINDS" = some (.int 5 t)
  c_Land : Cls K (ca 15)
  n_Land_kinds_there : NoAttr K (ca 15) "kinds_there"
  n_Land_things : NoAttr K (ca 15) "things"
  n_Land_made_so_far : NoAttr K (ca 15) "made_so_far"
  n_Land_deeds_done : NoAttr K (ca 15) "deeds_done"
  n_Land_failing : NoAttr K (ca 15) "failing"
  n_Land_asked : NoAttr K (ca 15) "asked"
  f_sorted : mg "sorted" = none
  n_Known_leaned : NoAttr K (ca 16) "leaned"
  c_Wish : Cls K (ca 20)
  n_Wish_rows : NoAttr K (ca 20) "rows"
  c_Plan : Cls K (ca 18)
  n_Plan_rows : NoAttr K (ca 18) "rows"
  n_Wish_table : NoAttr K (ca 20) "table"
  c_Keeper : Cls K (ca 19)
  n_Keeper_table : NoAttr K (ca 19) "table"
  c_Look : Cls K (ca 17)
  n_Look_table : NoAttr K (ca 17) "table"
  n_Keeper_land : NoAttr K (ca 19) "land"
  n_Look_land : NoAttr K (ca 17) "land"
  n_Look_wish : NoAttr K (ca 17) "wish"
  n_Look_found : NoAttr K (ca 17) "found"
  n_Look_due : NoAttr K (ca 17) "due"
  f_any : mg "any" = none
  f_enumerate : mg "enumerate" = none
  n_Plan_look : NoAttr K (ca 18) "look"
  n_Plan_land_done : NoAttr K (ca 18) "land_done"
  n_Plan_keeper_done : NoAttr K (ca 18) "keeper_done"
  n_Plan_changed : NoAttr K (ca 18) "changed"
  n_Keeper_mark : NoAttr K (ca 19) "mark"
  n_Keeper_keys_so_far : NoAttr K (ca 19) "keys_so_far"
  n_Keeper_done_so_far : NoAttr K (ca 19) "done_so_far"
  n_Keeper_hand_now : NoAttr K (ca 19) "hand_now"
  k_MOST_WISHED : ∃ t, mg "MOST_WISHED" = some (.int 12 t)
  f_range : mg "range" = none
section
variable {ca : CAK} {P : Program} {w : World} {K : PySem.W.Frag} {mg : Str → Option Value} {base : Heap} {f : Addr} {fd : FuncData}
abbrev s_is_whole : Stmt := top 19
theorem sc_is_whole : FnScope N_is_whole ["thing"] (defScope s_is_whole) := ⟨rfl, rfl, rfl, by decide +kernel, rfl, by decide +kernel, by decide +kernel⟩
set_option maxRecDepth 100000 in
theorem ok_is_whole (fx : Fx ca K mg) (F : FunD K "is_whole" "is_whole" (defArgs s_is_whole) (defBody s_is_whole) (defScope s_is_whole) [] [] f fd)  : FnOk P w K mg base (L2.CX P w) 1 f fd ["thing"] (spM ca m_is_whole) :=
  fn_okM fx.hK F sc_is_whole rfl fun cdv A outer s H E ct => have c := ct.toCO; (ss_one (ss_ret (sd_bool (sdb_and (sd_isi sd_var rfl fx.f_isinstance rfl fx.f_int (by decide +kernel)) (sdb_and1 (sd_not (sd_isi sd_var rfl fx.f_isinstance rfl fx.f_bool (by decide +kernel))))))))
abbrev s_is_name : Stmt := top 20
theorem sc_is_name : FnScope N_is_name ["thing"] (defScope s_is_name) := ⟨rfl, rfl, rfl, by decide +kernel, rfl, by decide +kernel, by decide +kernel⟩
set_option maxRecDepth 100000 in
theorem ok_is_name (fx : Fx ca K mg) (F : FunD K "is_name" "is_name" (defArgs s_is_name) (defBody s_is_name) (defScope s_is_name) [] [] f fd)  : FnOk P w K mg base (L2.CX P w) 1 f fd ["thing"] (spM ca m_is_name) :=
  fn_okM fx.hK F sc_is_name rfl fun cdv A outer s H E ct => have c := ct.toCO; (ss_one (ss_ret (sd_bool (sdb_and (sd_isi sd_var rfl fx.f_isinstance rfl fx.f_str (by decide +kernel)) (sdb_and (sd_chain op_leF op_leF sd_int (sd_callB (call_lenF c.hK) rfl fx.f_len (by decide +kernel) (sda_cons sd_var sda_nil)) sd_int) (sdb_and1 (sd_callB (call_allF c.calm) rfl fx.f_all (by decide +kernel) (sda_cons (sd_lc (own := [("sign", 1)]) finT_ok c.calm c.nd (pi_any c.hK sd_var) (by rfl) (fun s1 H1 C1 cl1 fp1 => (sg_n (c.blk s1 H1 _ _ fp1).nd)) (fun s1 H1 C1 cl1 fp1 => sdt_nil) (fun s1 H1 C1 cl1 fp1 => (sd_cmp (op_inO (c.blk s1 H1 _ _ fp1).hK (c.blk s1 H1 _ _ fp1).hu) sd_var (sd_gstr rfl fx.k_LETTERS) (by rfl)))) sda_nil))))))))
abbrev s_are_unlike_names : Stmt := top 21
theorem sc_are_unlike_names : FnScope N_are_unlike_names ["thing"] (defScope s_are_unlike_names) := ⟨rfl, rfl, rfl, by decide +kernel, rfl, by decide +kernel, by decide +kernel⟩
set_option maxRecDepth 100000 in
theorem ok_are_unlike_names (fx : Fx ca K mg) (F : FunD K "are_unlike_names" "are_unlike_names" (defArgs s_are_unlike_names) (defBody s_are_unlike_names) (defScope s_are_unlike_names) [] [] f fd) (h_is_name : CalF ca P w K mg base 1 "is_name" m_is_name []) : FnOk P w K mg base (L2.CX P w) 2 f fd ["thing"] (spM ca m_are_unlike_names) :=
  fn_okM fx.hK F sc_are_unlike_names rfl fun cdv A outer s H E ct => have c := ct.toCO; (ss_cons (ss_if (sd_bool (sdb_or (sd_not (sd_isi sd_var rfl fx.f_isinstance rfl fx.f_list (by decide +kernel))) (sdb_or1 (sd_not (sd_callB (call_allF c.calm) rfl fx.f_all (by decide +kernel) (sda_cons (sd_lc (own := [("one", 1)]) finT_ok c.calm c.nd (pi_any c.hK sd_var) (by rfl) (fun s2 H2 C2 cl2 fp2 => (sg_n (c.blk s2 H2 _ _ fp2).nd)) (fun s2 H2 C2 cl2 fp2 => sdt_nil) (fun s2 H2 C2 cl2 fp2 => (sd_callF (c.blk s2 H2 _ _ fp2) h_is_name (by decide) (sda_cons sd_var sda_nil)))) sda_nil)))))) (ss_one (ss_ret sd_bl)) ss_nil)
 (ss_one (ss_ret (sd_cmp (op_eqO c.hu64) (sd_lenSt (own := [("one", 1)]) c.calm c.nd (pi_any c.hK sd_var) (by rfl) (fun s3 H3 C3 cl3 fp3 => (sg_n (c.blk s3 H3 _ _ fp3).nd)) (fun s3 H3 C3 cl3 fp3 => sd_var) rfl fx.f_len (by decide +kernel)) (sd_callB (call_lenF c.hK) rfl fx.f_len (by decide +kernel) (sda_cons sd_var sda_nil)) (by rfl)))))
abbrev s_is_kind : Stmt := top 25
theorem sc_is_kind : FnScope N_is_kind ["thing"] (defScope s_is_kind) := ⟨rfl, rfl, rfl, by decide +kernel, rfl, by decide +kernel, by decide +kernel⟩
set_option maxRecDepth 100000 in
theorem ok_is_kind (fx : Fx ca K mg) (F : FunD K "is_kind" "is_kind" (defArgs s_is_kind) (defBody s_is_kind) (defScope s_is_kind) [] [] f fd) (h_are_unlike_names : CalF ca P w K mg base 2 "are_unlike_names" m_are_unlike_names []) : FnOk P w K mg base (L2.CX P w) 3 f fd ["thing"] (spM ca m_is_kind) :=
  fn_okM fx.hK F sc_is_kind rfl fun cdv A outer s H E ct => have c := ct.toCO; (ss_cons (ss_if (sd_bool (sdb_or (sd_not (sd_isi sd_var rfl fx.f_isinstance rfl fx.f_tuple (by decide +kernel))) (sdb_or1 (sd_cmp (op_neO c.hu64) (sd_callB (call_lenF c.hK) rfl fx.f_len (by decide +kernel) (sda_cons sd_var sda_nil)) sd_int (by rfl))))) (ss_one (ss_ret sd_bl)) ss_nil)
 (ss_cons (ss_asg sd_var (sg_t c.calm (sgs_cons (sg_n c.nd) (sgs_cons (sg_n c.nd) (sgs_nil (sl := []))))))
 (ss_cons (ss_if (sd_bool (sdb_or (sd_not (sd_callF c h_are_unlike_names (by decide) (sda_cons sd_var sda_nil))) (sdb_or1 (sd_not (sd_callF c h_are_unlike_names (by decide) (sda_cons sd_var sda_nil)))))) (ss_one (ss_ret sd_bl)) ss_nil)
 (ss_one (ss_ret (sd_bool (sdb_and (sd_chain op_leF op_leF sd_int (sd_callB (call_lenF c.hK) rfl fx.f_len (by decide +kernel) (sda_cons sd_var sda_nil)) (sd_gint rfl fx.k_MOST_FIELDS)) (sdb_and (sd_cmp (op_notInO c.hK c.hu) (sd_gstr rfl fx.k_ID) sd_var (by rfl)) (sdb_and1 (sd_callB (call_allF c.calm) rfl fx.f_all (by decide +kernel) (sda_cons (sd_lc (own := [("field", 3)]) finT_ok c.calm c.nd (pi_any c.hK sd_var) (by rfl) (fun s4 H4 C4 cl4 fp4 => (sg_n (c.blk s4 H4 _ _ fp4).nd)) (fun s4 H4 C4 cl4 fp4 => sdt_nil) (fun s4 H4 C4 cl4 fp4 => (sd_cmp (op_inO (c.blk s4 H4 _ _ fp4).hK (c.blk s4 H4 _ _ fp4).hu) sd_var sd_var (by rfl)))) sda_nil)))))))))))
abbrev s_Thing_init : Stmt := cbody (top 26) |>.getD 0 noSt
theorem sc_Thing_init : FnScope N_Thing_init ["self", "number", "kind", "numbers", "key"] (defScope s_Thing_init) := ⟨rfl, rfl, rfl, by decide +kernel, rfl, by decide +kernel, by decide +kernel⟩
set_option maxRecDepth 100000 in
theorem ok_Thing_init (fx : Fx ca K mg) (F : FunD K "__init__" "Thing.__init__" (defArgs s_Thing_init) (defBody s_Thing_init) (defScope s_Thing_init) [] [] f fd)  : FnOk P w K mg base (L2.CX P w) 1 f fd ["self", "number", "kind", "numbers", "key"] (spM ca m_Thing_init) :=
  fn_okM fx.hK F sc_Thing_init rfl fun cdv A outer s H E ct => have c := ct.toCO; (ss_cons (ss_fld sd_var sd_var (hCc fx.c_Thing fx.n_Thing_number (hC1 fx.c_Known fx.n_Known_number)))
 (ss_cons (ss_fld sd_var sd_var (hCc fx.c_Thing fx.n_Thing_sort_of (hC1 fx.c_Known fx.n_Known_sort_of)))
 (ss_cons (ss_fld sd_var (sd_callT (call_dictF c.calm) rfl fx.f_dict (by decide +kernel) (sda_cons sd_var sda_nil)) (hCc fx.c_Thing fx.n_Thing_numbers (hC1 fx.c_Known fx.n_Known_numbers)))
 (ss_cons (ss_fld sd_var sd_var (hCc fx.c_Thing fx.n_Thing_key (hC1 fx.c_Known fx.n_Known_key)))
 (ss_one (ss_fld sd_var sd_int (hC1 fx.c_Thing fx.n_Thing_times)))))))
abbrev s_Land_init : Stmt := cbody (top 27) |>.getD 0 noSt
theorem sc_Land_init : FnScope N_Land_init ["self", "kinds"] (defScope s_Land_init) := ⟨rfl, rfl, rfl, by decide +kernel, rfl, by decide +kernel, by decide +kernel⟩
set_option maxRecDepth 100000 in
theorem ok_Land_init (fx : Fx ca K mg) (F : FunD K "__init__" "Land.__init__" (defArgs s_Land_init) (defBody s_Land_init) (defScope s_Land_init) [] [] f fd) (h_is_name : CalF ca P w K mg base 1 "is_name" m_is_name []) (h_is_kind : CalF ca P w K mg base 3 "is_kind" m_is_kind []) : FnOk P w K mg base (L2.CX P w) 4 f fd ["self", "kinds"] (spM ca m_Land_init) :=
  fn_okM fx.hK F sc_Land_init rfl fun cdv A outer s H E ct => have c := ct.toCO; (ss_cons (ss_if (sd_bool (sdb_or (sd_not (sd_isi sd_var rfl fx.f_isinstance rfl fx.f_dict (by decide +kernel))) (sdb_or1 (sd_not (sd_chain op_leF op_leF sd_int (sd_callB (call_lenF c.hK) rfl fx.f_len (by decide +kernel) (sda_cons sd_var sda_nil)) (sd_gint rfl fx.k_MOST_KINDS)))))) (ss_one ss_nv) ss_nil)
 (ss_cons (ss_if (sd_not (sd_callB (call_allF c.calm) rfl fx.f_all (by decide +kernel) (sda_cons (sd_lc (own := [("kind", 2)]) finT_ok c.calm c.nd (pi_any c.hK sd_var) (by rfl) (fun s5 H5 C5 cl5 fp5 => (sg_n (c.blk s5 H5 _ _ fp5).nd)) (fun s5 H5 C5 cl5 fp5 => sdt_nil) (fun s5 H5 C5 cl5 fp5 => (sd_bool (sdb_and (sd_callF (c.blk s5 H5 _ _ fp5) h_is_name (by decide) (sda_cons sd_var sda_nil)) (sdb_and1 (sd_callF (c.blk s5 H5 _ _ fp5) h_is_kind (by decide) (sda_cons (sd_sub (c.blk s5 H5 _ _ fp5).hK (c.blk s5 H5 _ _ fp5).hu sd_var sd_var) sda_nil))))))) sda_nil))) (ss_one ss_nv) ss_nil)
 (ss_cons (ss_fld sd_var (sd_dc (own := [("kind", 2)]) finDT_ok c.calm c.nd (pi_any c.hK sd_var) (by rfl) (fun s6 H6 C6 cl6 fp6 => (sg_n (c.blk s6 H6 _ _ fp6).nd)) (fun s6 H6 C6 cl6 fp6 => sdt_nil) (fun s6 H6 C6 cl6 fp6 => sd_var) (fun s6 H6 C6 cl6 fp6 => (sd_tup (sda_cons (sd_callT (call_listF (c.blk s6 H6 _ _ fp6).hK (c.blk s6 H6 _ _ fp6).calm) rfl fx.f_list (by decide +kernel) (sda_cons (sd_sub (c.blk s6 H6 _ _ fp6).hK (c.blk s6 H6 _ _ fp6).hu (sd_sub (c.blk s6 H6 _ _ fp6).hK (c.blk s6 H6 _ _ fp6).hu sd_var sd_var) sd_int) sda_nil)) (sda_cons (sd_callT (call_listF (c.blk s6 H6 _ _ fp6).hK (c.blk s6 H6 _ _ fp6).calm) rfl fx.f_list (by decide +kernel) (sda_cons (sd_sub (c.blk s6 H6 _ _ fp6).hK (c.blk s6 H6 _ _ fp6).hu (sd_sub (c.blk s6 H6 _ _ fp6).hK (c.blk s6 H6 _ _ fp6).hu sd_var sd_var) sd_int) sda_nil)) sda_nil))))) (hC1 fx.c_Land fx.n_Land_kinds_there))
 (ss_cons (ss_fld sd_var sd_dicC (hC1 fx.c_Land fx.n_Land_things))
 (ss_cons (ss_fld sd_var sd_int (hC1 fx.c_Land fx.n_Land_made_so_far))
 (ss_cons (ss_fld sd_var sd_int (hC1 fx.c_Land fx.n_Land_deeds_done))
 (ss_cons (ss_fld sd_var sd_dicC (hC1 fx.c_Land fx.n_Land_failing))
 (ss_one (ss_fld sd_var sd_int (hC1 fx.c_Land fx.n_Land_asked))))))))))
abbrev s_Land_check_kind : Stmt := cbody (top 27) |>.getD 1 noSt
theorem sc_Land_check_kind : FnScope N_Land_check_kind ["self", "kind"] (defScope s_Land_check_kind) := ⟨rfl, rfl, rfl, by decide +kernel, rfl, by decide +kernel, by decide +kernel⟩
set_option maxRecDepth 100000 in
theorem ok_Land_check_kind (fx : Fx ca K mg) (F : FunD K "check_kind" "Land.check_kind" (defArgs s_Land_check_kind) (defBody s_Land_check_kind) (defScope s_Land_check_kind) [] [] f fd)  : FnOk P w K mg base (L2.CX P w) 1 f fd ["self", "kind"] (spM ca m_Land_check_kind) :=
  fn_okM fx.hK F sc_Land_check_kind rfl fun cdv A outer s H E ct => have c := ct.toCO; (ss_one (ss_if (sd_bool (sdb_or (sd_not (sd_isi sd_var rfl fx.f_isinstance rfl fx.f_str (by decide +kernel))) (sdb_or1 (sd_cmp (op_notInO c.hK c.hu) sd_var (sd_fld sd_var (hC1 fx.c_Land fx.n_Land_kinds_there)) (by rfl))))) (ss_one ss_nv) ss_nil))
abbrev s_Land_thing_of : Stmt := cbody (top 27) |>.getD 2 noSt
theorem sc_Land_thing_of : FnScope N_Land_thing_of ["self", "thing"] (defScope s_Land_thing_of) := ⟨rfl, rfl, rfl, by decide +kernel, rfl, by decide +kernel, by decide +kernel⟩
set_option maxRecDepth 100000 in
theorem ok_Land_thing_of (fx : Fx ca K mg) (F : FunD K "thing_of" "Land.thing_of" (defArgs s_Land_thing_of) (defBody s_Land_thing_of) (defScope s_Land_thing_of) [] [] f fd) (h_is_whole : CalF ca P w K mg base 1 "is_whole" m_is_whole []) : FnOk P w K mg base (L2.CX P w) 2 f fd ["self", "thing"] (spM ca m_Land_thing_of) :=
  fn_okM fx.hK F sc_Land_thing_of rfl fun cdv A outer s H E ct => have c := ct.toCO; (ss_cons (ss_if (sd_bool (sdb_or (sd_not (sd_callF c h_is_whole (by decide) (sda_cons sd_var sda_nil))) (sdb_or1 (sd_cmp (op_notInO c.hK c.hu) sd_var (sd_fld sd_var (hC1 fx.c_Land fx.n_Land_things)) (by rfl))))) (ss_one ss_nv) ss_nil)
 (ss_one (ss_ret (sd_sub c.hK c.hu (sd_fld sd_var (hC1 fx.c_Land fx.n_Land_things)) sd_var))))
abbrev s_Land_next_word : Stmt := cbody (top 27) |>.getD 3 noSt
theorem sc_Land_next_word : FnScope N_Land_next_word ["self"] (defScope s_Land_next_word) := ⟨rfl, rfl, rfl, by decide +kernel, rfl, by decide +kernel, by decide +kernel⟩
set_option maxRecDepth 100000 in
theorem ok_Land_next_word (fx : Fx ca K mg) (F : FunD K "next_word" "Land.next_word" (defArgs s_Land_next_word) (defBody s_Land_next_word) (defScope s_Land_next_word) [] [] f fd)  : FnOk P w K mg base (L2.CX P w) 1 f fd ["self"] (spM ca m_Land_next_word) :=
  fn_okM fx.hK F sc_Land_next_word rfl fun cdv A outer s H E ct => have c := ct.toCO; (ss_cons (ss_asgN (sd_get1 c.hu (sd_fld sd_var (hC1 fx.c_Land fx.n_Land_failing)) (sd_fld sd_var (hC1 fx.c_Land fx.n_Land_asked)) ⟨rfl, rfl, rfl, rfl⟩) c.nd)
 (ss_cons (ss_fldaug sd_var sd_int in_addF (hC1 fx.c_Land fx.n_Land_asked))
 (ss_cons (ss_if (sd_cmp (op_eqO c.hu64) sd_var sd_str (by rfl)) (ss_one ss_nv) ss_nil)
 (ss_one (ss_ret sd_var)))))
abbrev s_Land_ended : Stmt := cbody (top 27) |>.getD 4 noSt
theorem sc_Land_ended : FnScope N_Land_ended ["self", "word"] (defScope s_Land_ended) := ⟨rfl, rfl, rfl, by decide +kernel, rfl, by decide +kernel, by decide +kernel⟩
set_option maxRecDepth 100000 in
theorem ok_Land_ended (fx : Fx ca K mg) (F : FunD K "ended" "Land.ended" (defArgs s_Land_ended) (defBody s_Land_ended) (defScope s_Land_ended) [] [] f fd)  : FnOk P w K mg base (L2.CX P w) 1 f fd ["self", "word"] (spM ca m_Land_ended) :=
  fn_okM fx.hK F sc_Land_ended rfl fun cdv A outer s H E ct => have c := ct.toCO; (ss_one (ss_if (sd_cmp (op_eqO c.hu64) sd_var sd_str (by rfl)) (ss_one ss_nv) ss_nil))
abbrev s_Land_make : Stmt := cbody (top 27) |>.getD 5 noSt
theorem sc_Land_make : FnScope N_Land_make ["self", "kind", "fields", "key"] (defScope s_Land_make) := ⟨rfl, rfl, rfl, by decide +kernel, rfl, by decide +kernel, by decide +kernel⟩
set_option maxRecDepth 100000 in
theorem ok_Land_make (fx : Fx ca K mg) (F : FunD K "make" "Land.make" (defArgs s_Land_make) (defBody s_Land_make) (defScope s_Land_make) [] [("key", .non)] f fd) (h_Land_check_kind : CalM ca P w K mg base 1 15 "check_kind" m_Land_check_kind []) (h_is_whole : CalF ca P w K mg base 1 "is_whole" m_is_whole []) (h_Land_next_word : CalM ca P w K mg base 1 15 "next_word" m_Land_next_word []) (h_Thing_init : CalC ca P w K mg base 1 14 "Thing" m_Thing_init []) (h_Land_ended : CalM ca P w K mg base 1 15 "ended" m_Land_ended []) : FnOk P w K mg base (L2.CX P w) 3 f fd ["self", "kind", "fields", "key"] (spM ca m_Land_make) :=
  fn_okM fx.hK F sc_Land_make rfl fun cdv A outer s H E ct => have c := ct.toCO; (ss_cons (ss_expr (sd_methF c h_Land_check_kind (by decide) sd_var (sda_cons sd_var sda_nil)))
 (ss_cons (ss_asgN (sd_sub c.hK c.hu (sd_sub c.hK c.hu (sd_fld sd_var (hC1 fx.c_Land fx.n_Land_kinds_there)) sd_var) sd_int) c.nd)
 (ss_cons (ss_if (sd_bool (sdb_or (sd_not (sd_isi sd_var rfl fx.f_isinstance rfl fx.f_dict (by decide +kernel))) (sdb_or1 (sd_cmp (op_neO c.hu64) (sd_callB (call_lenF c.hK) rfl fx.f_len (by decide +kernel) (sda_cons sd_var sda_nil)) (sd_callB (call_lenF c.hK) rfl fx.f_len (by decide +kernel) (sda_cons sd_var sda_nil)) (by rfl))))) (ss_one ss_nv) ss_nil)
 (ss_cons (ss_if (sd_not (sd_callB (call_allF c.calm) rfl fx.f_all (by decide +kernel) (sda_cons (sd_lc (own := [("field", 7)]) finT_ok c.calm c.nd (pi_any c.hK sd_var) (by rfl) (fun s7 H7 C7 cl7 fp7 => (sg_n (c.blk s7 H7 _ _ fp7).nd)) (fun s7 H7 C7 cl7 fp7 => sdt_nil) (fun s7 H7 C7 cl7 fp7 => (sd_bool (sdb_and (sd_cmp (op_inO (c.blk s7 H7 _ _ fp7).hK (c.blk s7 H7 _ _ fp7).hu) sd_var sd_var (by rfl)) (sdb_and1 (sd_callF (c.blk s7 H7 _ _ fp7) h_is_whole (by decide) (sda_cons (sd_sub (c.blk s7 H7 _ _ fp7).hK (c.blk s7 H7 _ _ fp7).hu sd_var sd_var) sda_nil))))))) sda_nil))) (ss_one ss_nv) ss_nil)
 (ss_cons (ss_if (sd_bool (sdb_and (sd_cmp op_isNotF2 sd_var sd_non (by rfl)) (sdb_and1 (sd_not (sd_isi sd_var rfl fx.f_isinstance rfl fx.f_str (by decide +kernel)))))) (ss_one ss_nv) ss_nil)
 (ss_cons (ss_asgN (sd_methF0 c h_Land_next_word (by decide) sd_var) c.nd)
 (ss_cons (ss_setLc (own := [("thing", 8)]) finT_ok c.calm c.nd (pi_val (sd_fld sd_var (hC1 fx.c_Land fx.n_Land_things))) (by rfl) (fun s8 H8 C8 cl8 fp8 => (sg_n (c.blk s8 H8 _ _ fp8).nd)) (fun s8 H8 C8 cl8 fp8 => (sdt_one (sd_bool (sdb_and (sd_cmp op_isNotF2 sd_var sd_non (by rfl)) (sdb_and1 (sd_cmp (op_eqO (c.blk s8 H8 _ _ fp8).hu64) (sd_fld sd_var (hCc fx.c_Thing fx.n_Thing_key (hC1 fx.c_Known fx.n_Known_key))) sd_var (by rfl))))))) (fun s8 H8 C8 cl8 fp8 => sd_var))
 (ss_cons (ss_if (sd_cmp (op_eqO c.hu64) sd_var (sd_lst sda_nil) (by rfl)) (ss_cons (ss_asgN (sd_lst (sda_cons (sd_makeF c h_Thing_init (by decide) (sda_cons (sd_fld sd_var (hC1 fx.c_Land fx.n_Land_made_so_far)) (sda_cons sd_var (sda_cons sd_var (sda_cons sd_var sda_nil))))) sda_nil)) c.nd)
 (ss_cons (ss_asg (sd_sub c.hK c.hu sd_var sd_int) (sg_sub (W := WF) c.hu (sd_fld sd_var (hC1 fx.c_Land fx.n_Land_things)) (sd_fld sd_var (hC1 fx.c_Land fx.n_Land_made_so_far))))
 (ss_cons (ss_fldaug sd_var sd_int in_addF (hC1 fx.c_Land fx.n_Land_made_so_far))
 (ss_one (ss_fldaug sd_var sd_int in_addF (hC1 fx.c_Land fx.n_Land_deeds_done)))))) ss_nil)
 (ss_cons (ss_expr (sd_methF c h_Land_ended (by decide) sd_var (sda_cons sd_var sda_nil)))
 (ss_one (ss_ret (sd_fld (sd_sub c.hK c.hu sd_var sd_int) (hCc fx.c_Thing fx.n_Thing_number (hC1 fx.c_Known fx.n_Known_number))))))))))))))
abbrev s_Land_change : Stmt := cbody (top 27) |>.getD 6 noSt
theorem sc_Land_change : FnScope N_Land_change ["self", "thing", "fields"] (defScope s_Land_change) := ⟨rfl, rfl, rfl, by decide +kernel, rfl, by decide +kernel, by decide +kernel⟩
set_option maxRecDepth 100000 in
theorem ok_Land_change (fx : Fx ca K mg) (F : FunD K "change" "Land.change" (defArgs s_Land_change) (defBody s_Land_change) (defScope s_Land_change) [] [] f fd) (h_Land_thing_of : CalM ca P w K mg base 2 15 "thing_of" m_Land_thing_of []) (h_is_whole : CalF ca P w K mg base 1 "is_whole" m_is_whole []) (h_Land_next_word : CalM ca P w K mg base 1 15 "next_word" m_Land_next_word []) (h_Land_ended : CalM ca P w K mg base 1 15 "ended" m_Land_ended []) : FnOk P w K mg base (L2.CX P w) 3 f fd ["self", "thing", "fields"] (spM ca m_Land_change) :=
  fn_okM fx.hK F sc_Land_change rfl fun cdv A outer s H E ct => have c := ct.toCO; (ss_cons (ss_asgN (sd_methF c h_Land_thing_of (by decide) sd_var (sda_cons sd_var sda_nil)) c.nd)
 (ss_cons (ss_asg (sd_sub c.hK c.hu (sd_fld sd_var (hC1 fx.c_Land fx.n_Land_kinds_there)) (sd_fld sd_var (hCc fx.c_Thing fx.n_Thing_sort_of (hC1 fx.c_Known fx.n_Known_sort_of)))) (sg_t c.calm (sgs_cons (sg_n c.nd) (sgs_cons (sg_n c.nd) (sgs_nil (sl := []))))))
 (ss_cons (ss_if (sd_bool (sdb_or (sd_not (sd_isi sd_var rfl fx.f_isinstance rfl fx.f_dict (by decide +kernel))) (sdb_or1 (sd_cmp (op_eqO c.hu64) sd_var sd_dic (by rfl))))) (ss_one ss_nv) ss_nil)
 (ss_cons (ss_if (sd_not (sd_callB (call_allF c.calm) rfl fx.f_all (by decide +kernel) (sda_cons (sd_lc (own := [("field", 7)]) finT_ok c.calm c.nd (pi_any c.hK sd_var) (by rfl) (fun s9 H9 C9 cl9 fp9 => (sg_n (c.blk s9 H9 _ _ fp9).nd)) (fun s9 H9 C9 cl9 fp9 => sdt_nil) (fun s9 H9 C9 cl9 fp9 => (sd_bool (sdb_and (sd_cmp (op_inO (c.blk s9 H9 _ _ fp9).hK (c.blk s9 H9 _ _ fp9).hu) sd_var sd_var (by rfl)) (sdb_and (sd_cmp (op_notInO (c.blk s9 H9 _ _ fp9).hK (c.blk s9 H9 _ _ fp9).hu) sd_var sd_var (by rfl)) (sdb_and1 (sd_callF (c.blk s9 H9 _ _ fp9) h_is_whole (by decide) (sda_cons (sd_sub (c.blk s9 H9 _ _ fp9).hK (c.blk s9 H9 _ _ fp9).hu sd_var sd_var) sda_nil)))))))) sda_nil))) (ss_one ss_nv) ss_nil)
 (ss_cons (ss_asgN (sd_methF0 c h_Land_next_word (by decide) sd_var) c.nd)
 (ss_cons (ss_fld sd_var (sd_dc (own := [("field", 7)]) finDT_ok c.calm c.nd (pi_any c.hK (sd_fld sd_var (hCc fx.c_Thing fx.n_Thing_numbers (hC1 fx.c_Known fx.n_Known_numbers)))) (by rfl) (fun s10 H10 C10 cl10 fp10 => (sg_n (c.blk s10 H10 _ _ fp10).nd)) (fun s10 H10 C10 cl10 fp10 => sdt_nil) (fun s10 H10 C10 cl10 fp10 => sd_var) (fun s10 H10 C10 cl10 fp10 => (sd_get2 (c.blk s10 H10 _ _ fp10).hu sd_var sd_var (sd_sub (c.blk s10 H10 _ _ fp10).hK (c.blk s10 H10 _ _ fp10).hu (sd_fld sd_var (hCc fx.c_Thing fx.n_Thing_numbers (hC1 fx.c_Known fx.n_Known_numbers))) sd_var) ⟨rfl, rfl, rfl, rfl⟩))) (hCc fx.c_Thing fx.n_Thing_numbers (hC1 fx.c_Known fx.n_Known_numbers)))
 (ss_cons (ss_fldaug sd_var sd_int in_addF (hC1 fx.c_Thing fx.n_Thing_times))
 (ss_cons (ss_fldaug sd_var sd_int in_addF (hC1 fx.c_Land fx.n_Land_deeds_done))
 (ss_one (ss_expr (sd_methF c h_Land_ended (by decide) sd_var (sda_cons sd_var sda_nil))))))))))))
abbrev s_Land_take : Stmt := cbody (top 27) |>.getD 7 noSt
theorem sc_Land_take : FnScope N_Land_take ["self", "thing"] (defScope s_Land_take) := ⟨rfl, rfl, rfl, by decide +kernel, rfl, by decide +kernel, by decide +kernel⟩
set_option maxRecDepth 100000 in
theorem ok_Land_take (fx : Fx ca K mg) (F : FunD K "take" "Land.take" (defArgs s_Land_take) (defBody s_Land_take) (defScope s_Land_take) [] [] f fd) (h_Land_thing_of : CalM ca P w K mg base 2 15 "thing_of" m_Land_thing_of []) (h_Land_next_word : CalM ca P w K mg base 1 15 "next_word" m_Land_next_word []) (h_Land_ended : CalM ca P w K mg base 1 15 "ended" m_Land_ended []) : FnOk P w K mg base (L2.CX P w) 3 f fd ["self", "thing"] (spM ca m_Land_take) :=
  fn_okM fx.hK F sc_Land_take rfl fun cdv A outer s H E ct => have c := ct.toCO; (ss_cons (ss_expr (sd_methF c h_Land_thing_of (by decide) sd_var (sda_cons sd_var sda_nil)))
 (ss_cons (ss_asgN (sd_methF0 c h_Land_next_word (by decide) sd_var) c.nd)
 (ss_cons (ss_expr (sd_pop1 (sd_fld sd_var (hC1 fx.c_Land fx.n_Land_things)) sd_var ⟨rfl, rfl, rfl, rfl⟩))
 (ss_cons (ss_fldaug sd_var sd_int in_addF (hC1 fx.c_Land fx.n_Land_deeds_done))
 (ss_one (ss_expr (sd_methF c h_Land_ended (by decide) sd_var (sda_cons sd_var sda_nil))))))))
abbrev s_Land_fails : Stmt := cbody (top 27) |>.getD 8 noSt
theorem sc_Land_fails : FnScope N_Land_fails ["self", "counts"] (defScope s_Land_fails) := ⟨rfl, rfl, rfl, by decide +kernel, rfl, by decide +kernel, by decide +kernel⟩
set_option maxRecDepth 100000 in
theorem ok_Land_fails (fx : Fx ca K mg) (F : FunD K "fails" "Land.fails" (defArgs s_Land_fails) (defBody s_Land_fails) (defScope s_Land_fails) [] [] f fd) (h_is_whole : CalF ca P w K mg base 1 "is_whole" m_is_whole []) : FnOk P w K mg base (L2.CX P w) 2 f fd ["self", "counts"] (spM ca m_Land_fails) :=
  fn_okM fx.hK F sc_Land_fails rfl fun cdv A outer s H E ct => have c := ct.toCO; (ss_cons (ss_if (sd_bool (sdb_or (sd_not (sd_isi sd_var rfl fx.f_isinstance rfl fx.f_dict (by decide +kernel))) (sdb_or1 (sd_not (sd_callB (call_allF c.calm) rfl fx.f_all (by decide +kernel) (sda_cons (sd_lc (own := [("count", 2)]) finT_ok c.calm c.nd (pi_any c.hK sd_var) (by rfl) (fun s11 H11 C11 cl11 fp11 => (sg_n (c.blk s11 H11 _ _ fp11).nd)) (fun s11 H11 C11 cl11 fp11 => sdt_nil) (fun s11 H11 C11 cl11 fp11 => (sd_bool (sdb_and (sd_callF (c.blk s11 H11 _ _ fp11) h_is_whole (by decide) (sda_cons sd_var sda_nil)) (sdb_and1 (sd_cmp op_geF sd_var sd_int (by rfl))))))) sda_nil)))))) (ss_one ss_nv) ss_nil)
 (ss_cons (ss_if (sd_not (sd_callB (call_allF c.calm) rfl fx.f_all (by decide +kernel) (sda_cons (sd_lc (own := [("word", 3)]) finT_ok c.calm c.nd (pi_val sd_var) (by rfl) (fun s12 H12 C12 cl12 fp12 => (sg_n (c.blk s12 H12 _ _ fp12).nd)) (fun s12 H12 C12 cl12 fp12 => sdt_nil) (fun s12 H12 C12 cl12 fp12 => (sd_bool (sdb_and (sd_isi sd_var rfl fx.f_isinstance rfl fx.f_str (by decide +kernel)) (sdb_and1 (sd_cmp (op_inO (c.blk s12 H12 _ _ fp12).hK (c.blk s12 H12 _ _ fp12).hu) sd_var (sd_tup (sda_cons sd_str (sda_cons sd_str sda_nil))) (by rfl))))))) sda_nil))) (ss_one ss_nv) ss_nil)
 (ss_cons (ss_fld sd_var (sd_callT (call_dictF c.calm) rfl fx.f_dict (by decide +kernel) (sda_cons sd_var sda_nil)) (hC1 fx.c_Land fx.n_Land_failing))
 (ss_one (ss_fld sd_var sd_int (hC1 fx.c_Land fx.n_Land_asked))))))
abbrev s_Land_ids : Stmt := cbody (top 27) |>.getD 9 noSt
theorem sc_Land_ids : FnScope N_Land_ids ["self"] (defScope s_Land_ids) := ⟨rfl, rfl, rfl, by decide +kernel, rfl, by decide +kernel, by decide +kernel⟩
set_option maxRecDepth 100000 in
theorem ok_Land_ids (fx : Fx ca K mg) (F : FunD K "ids" "Land.ids" (defArgs s_Land_ids) (defBody s_Land_ids) (defScope s_Land_ids) [] [] f fd)  : FnOk P w K mg base (L2.CX P w) 1 f fd ["self"] (spM ca m_Land_ids) :=
  fn_okM fx.hK F sc_Land_ids rfl fun cdv A outer s H E ct => have c := ct.toCO; (ss_one (ss_ret (sd_callB call_sortC rfl fx.f_sorted (by decide +kernel) (sda_cons (sd_callT (call_listF c.hK c.calm) rfl fx.f_list (by decide +kernel) (sda_cons (sd_fld sd_var (hC1 fx.c_Land fx.n_Land_things)) sda_nil)) sda_nil))))
abbrev s_Land_kind : Stmt := cbody (top 27) |>.getD 10 noSt
theorem sc_Land_kind : FnScope N_Land_kind ["self", "thing"] (defScope s_Land_kind) := ⟨rfl, rfl, rfl, by decide +kernel, rfl, by decide +kernel, by decide +kernel⟩
set_option maxRecDepth 100000 in
theorem ok_Land_kind (fx : Fx ca K mg) (F : FunD K "kind" "Land.kind" (defArgs s_Land_kind) (defBody s_Land_kind) (defScope s_Land_kind) [] [] f fd) (h_Land_thing_of : CalM ca P w K mg base 2 15 "thing_of" m_Land_thing_of []) : FnOk P w K mg base (L2.CX P w) 3 f fd ["self", "thing"] (spM ca m_Land_kind) :=
  fn_okM fx.hK F sc_Land_kind rfl fun cdv A outer s H E ct => have c := ct.toCO; (ss_one (ss_ret (sd_fld (sd_methF c h_Land_thing_of (by decide) sd_var (sda_cons sd_var sda_nil)) (hCc fx.c_Thing fx.n_Thing_sort_of (hC1 fx.c_Known fx.n_Known_sort_of)))))
abbrev s_Land_fields : Stmt := cbody (top 27) |>.getD 11 noSt
theorem sc_Land_fields : FnScope N_Land_fields ["self", "thing"] (defScope s_Land_fields) := ⟨rfl, rfl, rfl, by decide +kernel, rfl, by decide +kernel, by decide +kernel⟩
set_option maxRecDepth 100000 in
theorem ok_Land_fields (fx : Fx ca K mg) (F : FunD K "fields" "Land.fields" (defArgs s_Land_fields) (defBody s_Land_fields) (defScope s_Land_fields) [] [] f fd) (h_Land_thing_of : CalM ca P w K mg base 2 15 "thing_of" m_Land_thing_of []) : FnOk P w K mg base (L2.CX P w) 3 f fd ["self", "thing"] (spM ca m_Land_fields) :=
  fn_okM fx.hK F sc_Land_fields rfl fun cdv A outer s H E ct => have c := ct.toCO; (ss_cons (ss_asgN (sd_methF c h_Land_thing_of (by decide) sd_var (sda_cons sd_var sda_nil)) c.nd)
 (ss_one (ss_ret (sd_dc (own := [("field", 3)]) finDC_ok c.calm c.nd (pi_any c.hK (sd_sub c.hK c.hu (sd_sub c.hK c.hu (sd_fld sd_var (hC1 fx.c_Land fx.n_Land_kinds_there)) (sd_fld sd_var (hCc fx.c_Thing fx.n_Thing_sort_of (hC1 fx.c_Known fx.n_Known_sort_of)))) sd_int)) (by rfl) (fun s13 H13 C13 cl13 fp13 => (sg_n (c.blk s13 H13 _ _ fp13).nd)) (fun s13 H13 C13 cl13 fp13 => sdt_nil) (fun s13 H13 C13 cl13 fp13 => sd_var) (fun s13 H13 C13 cl13 fp13 => (sd_sub (c.blk s13 H13 _ _ fp13).hK (c.blk s13 H13 _ _ fp13).hu (sd_fld sd_var (hCc fx.c_Thing fx.n_Thing_numbers (hC1 fx.c_Known fx.n_Known_numbers))) sd_var))))))
abbrev s_Land_touched : Stmt := cbody (top 27) |>.getD 12 noSt
theorem sc_Land_touched : FnScope N_Land_touched ["self", "thing"] (defScope s_Land_touched) := ⟨rfl, rfl, rfl, by decide +kernel, rfl, by decide +kernel, by decide +kernel⟩
set_option maxRecDepth 100000 in
theorem ok_Land_touched (fx : Fx ca K mg) (F : FunD K "touched" "Land.touched" (defArgs s_Land_touched) (defBody s_Land_touched) (defScope s_Land_touched) [] [] f fd) (h_Land_thing_of : CalM ca P w K mg base 2 15 "thing_of" m_Land_thing_of []) : FnOk P w K mg base (L2.CX P w) 3 f fd ["self", "thing"] (spM ca m_Land_touched) :=
  fn_okM fx.hK F sc_Land_touched rfl fun cdv A outer s H E ct => have c := ct.toCO; (ss_one (ss_ret (sd_fld (sd_methF c h_Land_thing_of (by decide) sd_var (sda_cons sd_var sda_nil)) (hC1 fx.c_Thing fx.n_Thing_times))))
abbrev s_Land_made_by : Stmt := cbody (top 27) |>.getD 13 noSt
theorem sc_Land_made_by : FnScope N_Land_made_by ["self", "key"] (defScope s_Land_made_by) := ⟨rfl, rfl, rfl, by decide +kernel, rfl, by decide +kernel, by decide +kernel⟩
set_option maxRecDepth 100000 in
theorem ok_Land_made_by (fx : Fx ca K mg) (F : FunD K "made_by" "Land.made_by" (defArgs s_Land_made_by) (defBody s_Land_made_by) (defScope s_Land_made_by) [] [] f fd)  : FnOk P w K mg base (L2.CX P w) 1 f fd ["self", "key"] (spM ca m_Land_made_by) :=
  fn_okM fx.hK F sc_Land_made_by rfl fun cdv A outer s H E ct => have c := ct.toCO; (ss_cons (ss_if (sd_not (sd_isi sd_var rfl fx.f_isinstance rfl fx.f_str (by decide +kernel))) (ss_one ss_nv) ss_nil)
 (ss_cons (ss_for c.ow c.calm (pi_val (sd_fld sd_var (hC1 fx.c_Land fx.n_Land_things))) (sg_n c.nd) (ss_one (ss_if (sd_cmp (op_eqO c.hu64) (sd_fld sd_var (hCc fx.c_Thing fx.n_Thing_key (hC1 fx.c_Known fx.n_Known_key))) sd_var (by rfl)) (ss_one (ss_ret (sd_fld sd_var (hCc fx.c_Thing fx.n_Thing_number (hC1 fx.c_Known fx.n_Known_number))))) ss_nil)))
 (ss_one (ss_ret sd_non))))
abbrev s_Known_init : Stmt := cbody (top 29) |>.getD 0 noSt
theorem sc_Known_init : FnScope N_Known_init ["self", "kind", "number", "key", "leaned", "numbers"] (defScope s_Known_init) := ⟨rfl, rfl, rfl, by decide +kernel, rfl, by decide +kernel, by decide +kernel⟩
set_option maxRecDepth 100000 in
theorem ok_Known_init (fx : Fx ca K mg) (F : FunD K "__init__" "Known.__init__" (defArgs s_Known_init) (defBody s_Known_init) (defScope s_Known_init) [] [] f fd)  : FnOk P w K mg base (L2.CX P w) 1 f fd ["self", "kind", "number", "key", "leaned", "numbers"] (spM ca m_Known_init) :=
  fn_okM fx.hK F sc_Known_init rfl fun cdv A outer s H E ct => have c := ct.toCO; (ss_cons (ss_fld sd_var sd_var (hCc fx.c_Thing fx.n_Thing_sort_of (hC1 fx.c_Known fx.n_Known_sort_of)))
 (ss_cons (ss_fld sd_var sd_var (hCc fx.c_Thing fx.n_Thing_number (hC1 fx.c_Known fx.n_Known_number)))
 (ss_cons (ss_fld sd_var sd_var (hCc fx.c_Thing fx.n_Thing_key (hC1 fx.c_Known fx.n_Known_key)))
 (ss_cons (ss_fld sd_var (sd_callT (call_listF c.hK c.calm) rfl fx.f_list (by decide +kernel) (sda_cons sd_var sda_nil)) (hC1 fx.c_Known fx.n_Known_leaned))
 (ss_one (ss_fld sd_var (sd_callT (call_dictF c.calm) rfl fx.f_dict (by decide +kernel) (sda_cons sd_var sda_nil)) (hCc fx.c_Thing fx.n_Thing_numbers (hC1 fx.c_Known fx.n_Known_numbers))))))))
abbrev s_found_in : Stmt := top 30
theorem sc_found_in : FnScope N_found_in ["land", "known"] (defScope s_found_in) := ⟨rfl, rfl, rfl, by decide +kernel, rfl, by decide +kernel, by decide +kernel⟩
set_option maxRecDepth 100000 in
theorem ok_found_in (fx : Fx ca K mg) (F : FunD K "found_in" "found_in" (defArgs s_found_in) (defBody s_found_in) (defScope s_found_in) [] [] f fd) (h_Land_made_by : CalM ca P w K mg base 1 15 "made_by" m_Land_made_by []) : FnOk P w K mg base (L2.CX P w) 2 f fd ["land", "known"] (spM ca m_found_in) :=
  fn_okM fx.hK F sc_found_in rfl fun cdv A outer s H E ct => have c := ct.toCO; (ss_cons (ss_if (sd_cmp op_isNotF2 (sd_fld sd_var (hCc fx.c_Thing fx.n_Thing_number (hC1 fx.c_Known fx.n_Known_number))) sd_non (by rfl)) (ss_one (ss_ret (sd_if (sd_cmp (op_inO c.hK c.hu) (sd_fld sd_var (hCc fx.c_Thing fx.n_Thing_number (hC1 fx.c_Known fx.n_Known_number))) (sd_fld sd_var (hC1 fx.c_Land fx.n_Land_things)) (by rfl)) (sd_fld sd_var (hCc fx.c_Thing fx.n_Thing_number (hC1 fx.c_Known fx.n_Known_number))) sd_non))) ss_nil)
 (ss_one (ss_ret (sd_if (sd_cmp op_isNotF2 (sd_fld sd_var (hCc fx.c_Thing fx.n_Thing_key (hC1 fx.c_Known fx.n_Known_key))) sd_non (by rfl)) (sd_methF c h_Land_made_by (by decide) sd_var (sda_cons (sd_fld sd_var (hCc fx.c_Thing fx.n_Thing_key (hC1 fx.c_Known fx.n_Known_key))) sda_nil)) sd_non))))
abbrev s_check_wish : Stmt := top 31
theorem sc_check_wish : FnScope N_check_wish ["land", "wish"] (defScope s_check_wish) := ⟨rfl, rfl, rfl, by decide +kernel, rfl, by decide +kernel, by decide +kernel⟩
set_option maxRecDepth 100000 in
theorem ok_check_wish (fx : Fx ca K mg) (F : FunD K "check_wish" "check_wish" (defArgs s_check_wish) (defBody s_check_wish) (defScope s_check_wish) [] [] f fd) (h_is_whole : CalF ca P w K mg base 1 "is_whole" m_is_whole []) : FnOk P w K mg base (L2.CX P w) 2 f fd ["land", "wish"] (spM ca m_check_wish) :=
  fn_okM fx.hK F sc_check_wish rfl fun cdv A outer s H E ct => have c := ct.toCO; (ss_one (ss_for c.ow c.calm (pi_any c.hK (sd_fld sd_var (hCc fx.c_Plan fx.n_Plan_rows (hC1 fx.c_Wish fx.n_Wish_rows)))) (sg_t c.calm (sgs_cons (sg_n c.nd) (sgs_cons (sg_n c.nd) (sgs_cons (sg_n c.nd) (sgs_cons (sg_n c.nd) (sgs_nil (sl := []))))))) (ss_cons (ss_if (sd_cmp (op_notInO c.hK c.hu) sd_var (sd_fld sd_var (hC1 fx.c_Land fx.n_Land_kinds_there)) (by rfl)) (ss_one ss_nv) ss_nil)
 (ss_cons (ss_if (sd_cmp (op_neO c.hu64) (sd_callB call_sortF rfl fx.f_sorted (by decide +kernel) (sda_cons (sd_callT (call_listF c.hK c.calm) rfl fx.f_list (by decide +kernel) (sda_cons sd_var sda_nil)) sda_nil)) (sd_callB call_sortF rfl fx.f_sorted (by decide +kernel) (sda_cons (sd_sub c.hK c.hu (sd_sub c.hK c.hu (sd_fld sd_var (hC1 fx.c_Land fx.n_Land_kinds_there)) sd_var) sd_int) sda_nil)) (by rfl)) (ss_one ss_nv) ss_nil)
 (ss_one (ss_for c.ow c.calm (pi_val sd_var) (sg_n c.nd) (ss_one (ss_if (sd_bool (sdb_and (sd_not (sd_callF c h_is_whole (by decide) (sda_cons sd_var sda_nil))) (sdb_and1 (sd_cmp (op_neO c.hu64) (sd_sub c.hK c.hu sd_var sd_int) (sd_gstr rfl fx.k_ID) (by rfl))))) (ss_cons (ss_asgN (sd_sub c.hK c.hu (sd_sub c.hK c.hu (sd_fld sd_var (hCc fx.c_Look fx.n_Look_table (hCc fx.c_Keeper fx.n_Keeper_table (hC1 fx.c_Wish fx.n_Wish_table)))) (sd_sub c.hK c.hu sd_var sd_int)) sd_int) c.nd)
 (ss_one (ss_if (sd_bool (sdb_and (sd_cmp (op_inO c.hK c.hu) sd_var (sd_fld sd_var (hC1 fx.c_Land fx.n_Land_kinds_there)) (by rfl)) (sdb_and1 (sd_cmp (op_notInO c.hK c.hu) (sd_sub c.hK c.hu sd_var sd_int) (sd_sub c.hK c.hu (sd_sub c.hK c.hu (sd_fld sd_var (hC1 fx.c_Land fx.n_Land_kinds_there)) sd_var) sd_int) (by rfl))))) (ss_one ss_nv) ss_nil))) ss_nil))))))))
abbrev s_spoken_of : Stmt := top 42
theorem sc_spoken_of : FnScope N_spoken_of ["thing"] (defScope s_spoken_of) := ⟨rfl, rfl, rfl, by decide +kernel, rfl, by decide +kernel, by decide +kernel⟩
set_option maxRecDepth 100000 in
theorem ok_spoken_of (fx : Fx ca K mg) (F : FunD K "spoken_of" "spoken_of" (defArgs s_spoken_of) (defBody s_spoken_of) (defScope s_spoken_of) [] [] f fd) (h_is_whole : CalF ca P w K mg base 1 "is_whole" m_is_whole []) : FnOk P w K mg base (L2.CX P w) 2 f fd ["thing"] (spM ca m_spoken_of) :=
  fn_okM fx.hK F sc_spoken_of rfl fun cdv A outer s H E ct => have c := ct.toCO; (ss_cons (ss_asg sd_var (sg_t c.calm (sgs_cons (sg_n c.nd) (sgs_cons (sg_n c.nd) (sgs_cons (sg_n c.nd) (sgs_cons (sg_n c.nd) (sgs_nil (sl := []))))))))
 (ss_one (ss_ret (sd_bin op_addF (sd_lc (own := [("wished", 5)]) finT_ok c.calm c.nd (pi_val sd_var) (by rfl) (fun s29 H29 C29 cl29 fp29 => (sg_n (c.blk s29 H29 _ _ fp29).nd)) (fun s29 H29 C29 cl29 fp29 => (sdt_one (sd_not (sd_callF (c.blk s29 H29 _ _ fp29) h_is_whole (by decide) (sda_cons sd_var sda_nil))))) (fun s29 H29 C29 cl29 fp29 => (sd_sub (c.blk s29 H29 _ _ fp29).hK (c.blk s29 H29 _ _ fp29).hu sd_var sd_int))) sd_var))))
abbrev s_Wish_leaned_on : Stmt := cbody (top 44) |>.getD 2 noSt
theorem sc_Wish_leaned_on : FnScope N_Wish_leaned_on ["self", "name"] (defScope s_Wish_leaned_on) := ⟨rfl, rfl, rfl, by decide +kernel, rfl, by decide +kernel, by decide +kernel⟩
set_option maxRecDepth 100000 in
theorem ok_Wish_leaned_on (fx : Fx ca K mg) (F : FunD K "leaned_on" "Wish.leaned_on" (defArgs s_Wish_leaned_on) (defBody s_Wish_leaned_on) (defScope s_Wish_leaned_on) [] [] f fd) (h_spoken_of : CalF ca P w K mg base 2 "spoken_of" m_spoken_of []) : FnOk P w K mg base (L2.CX P w) 3 f fd ["self", "name"] (spM ca m_Wish_leaned_on) :=
  fn_okM fx.hK F sc_Wish_leaned_on rfl fun cdv A outer s H E ct => have c := ct.toCO; (ss_cons (ss_asgN (sd_callF c h_spoken_of (by decide) (sda_cons (sd_sub c.hK c.hu (sd_fld sd_var (hCc fx.c_Look fx.n_Look_table (hCc fx.c_Keeper fx.n_Keeper_table (hC1 fx.c_Wish fx.n_Wish_table)))) sd_var) sda_nil)) c.nd)
 (ss_one (ss_ret (sd_lc (own := [("other", 3)]) finC_ok c.calm c.nd (pi_any c.hK (sd_fld sd_var (hCc fx.c_Look fx.n_Look_table (hCc fx.c_Keeper fx.n_Keeper_table (hC1 fx.c_Wish fx.n_Wish_table))))) (by rfl) (fun s39 H39 C39 cl39 fp39 => (sg_n (c.blk s39 H39 _ _ fp39).nd)) (fun s39 H39 C39 cl39 fp39 => (sdt_one (sd_cmp (op_inO (c.blk s39 H39 _ _ fp39).hK (c.blk s39 H39 _ _ fp39).hu) sd_var sd_var (by rfl)))) (fun s39 H39 C39 cl39 fp39 => sd_var)))))
abbrev s_Wish_in_turn : Stmt := cbody (top 44) |>.getD 5 noSt
theorem sc_Wish_in_turn : FnScope N_Wish_in_turn ["self"] (defScope s_Wish_in_turn) := ⟨rfl, rfl, rfl, by decide +kernel, rfl, by decide +kernel, by decide +kernel⟩
set_option maxRecDepth 100000 in
theorem ok_Wish_in_turn (fx : Fx ca K mg) (F : FunD K "in_turn" "Wish.in_turn" (defArgs s_Wish_in_turn) (defBody s_Wish_in_turn) (defScope s_Wish_in_turn) [] [] f fd) (h_Wish_leaned_on : CalM ca P w K mg base 3 20 "leaned_on" m_Wish_leaned_on []) : FnOk P w K mg base (L2.CX P w) 4 f fd ["self"] (spM ca m_Wish_in_turn) :=
  fn_okM fx.hK F sc_Wish_in_turn rfl fun cdv A outer s H E ct => have c := ct.toCO; (ss_cons (ss_asgN (sd_lstC sda_nil) c.nd)
 (ss_cons (ss_while _ c.ow (sd_cmp op_ltF (sd_callB (call_lenF c.hK) rfl fx.f_len (by decide +kernel) (sda_cons sd_var sda_nil)) (sd_callB (call_lenF c.hK) rfl fx.f_len (by decide +kernel) (sda_cons (sd_fld sd_var (hCc fx.c_Look fx.n_Look_table (hCc fx.c_Keeper fx.n_Keeper_table (hC1 fx.c_Wish fx.n_Wish_table)))) sda_nil)) (by rfl)) (ss_one (ss_for c.ow c.calm (pi_any c.hK (sd_fld sd_var (hCc fx.c_Look fx.n_Look_table (hCc fx.c_Keeper fx.n_Keeper_table (hC1 fx.c_Wish fx.n_Wish_table))))) (sg_n c.nd) (ss_one (ss_if (sd_bool (sdb_and (sd_cmp (op_notInO c.hK c.hu) sd_var sd_var (by rfl)) (sdb_and1 (sd_callB (call_allF c.calm) rfl fx.f_all (by decide +kernel) (sda_cons (sd_lc (own := [("other", 3)]) finT_ok c.calm c.nd (pi_any c.hK (sd_methF c h_Wish_leaned_on (by decide) sd_var (sda_cons sd_var sda_nil))) (by rfl) (fun s40 H40 C40 cl40 fp40 => (sg_n (c.blk s40 H40 _ _ fp40).nd)) (fun s40 H40 C40 cl40 fp40 => sdt_nil) (fun s40 H40 C40 cl40 fp40 => (sd_cmp (op_inO (c.blk s40 H40 _ _ fp40).hK (c.blk s40 H40 _ _ fp40).hu) sd_var sd_var (by rfl)))) sda_nil))))) (ss_one (ss_expr (sd_append sd_var sd_var))) ss_nil)))))
 (ss_one (ss_ret sd_var))))
abbrev s_Look_id_of : Stmt := cbody (top 32) |>.getD 1 noSt
theorem sc_Look_id_of : FnScope N_Look_id_of ["self", "name"] (defScope s_Look_id_of) := ⟨rfl, rfl, rfl, by decide +kernel, rfl, by decide +kernel, by decide +kernel⟩
set_option maxRecDepth 100000 in
theorem ok_Look_id_of (fx : Fx ca K mg) (F : FunD K "id_of" "Look.id_of" (defArgs s_Look_id_of) (defBody s_Look_id_of) (defScope s_Look_id_of) [] [] f fd)  : FnOk P w K mg base (L2.CX P w) 1 f fd ["self", "name"] (spM ca m_Look_id_of) :=
  fn_okM fx.hK F sc_Look_id_of rfl fun cdv A outer s H E ct => have c := ct.toCO; (ss_one (ss_ret (sd_if (sd_cmp (op_inO c.hK c.hu) (sd_sub c.hK c.hu (sd_fld sd_var (hC1 fx.c_Look fx.n_Look_due)) sd_var) (sd_tup (sda_cons sd_str (sda_cons sd_str sda_nil))) (by rfl)) (sd_get1 c.hu (sd_fld sd_var (hC1 fx.c_Look fx.n_Look_found)) sd_var ⟨rfl, rfl, rfl, rfl⟩) sd_non)))
abbrev s_Look_wished_number : Stmt := cbody (top 32) |>.getD 2 noSt
theorem sc_Look_wished_number : FnScope N_Look_wished_number ["self", "name", "field"] (defScope s_Look_wished_number) := ⟨rfl, rfl, rfl, by decide +kernel, rfl, by decide +kernel, by decide +kernel⟩
set_option maxRecDepth 100000 in
theorem ok_Look_wished_number (fx : Fx ca K mg) (F : FunD K "wished_number" "Look.wished_number" (defArgs s_Look_wished_number) (defBody s_Look_wished_number) (defScope s_Look_wished_number) [] [] f fd) (h_is_whole : CalF ca P w K mg base 1 "is_whole" m_is_whole []) (h_Look_id_of : CalM ca P w K mg base 1 17 "id_of" m_Look_id_of []) : FnOk P w K mg base (L2.CX P w) 2 f fd ["self", "name", "field"] (spM ca m_Look_wished_number) :=
  fn_okM fx.hK F sc_Look_wished_number rfl fun cdv A outer s H E ct => have c := ct.toCO; (ss_cons (ss_asgN (sd_sub c.hK c.hu (sd_sub c.hK c.hu (sd_sub c.hK c.hu (sd_fld (sd_fld sd_var (hC1 fx.c_Look fx.n_Look_wish)) (hCc fx.c_Look fx.n_Look_table (hCc fx.c_Keeper fx.n_Keeper_table (hC1 fx.c_Wish fx.n_Wish_table)))) sd_var) sd_int) sd_var) c.nd)
 (ss_cons (ss_if (sd_callF c h_is_whole (by decide) (sda_cons sd_var sda_nil)) (ss_one (ss_ret sd_var)) ss_nil)
 (ss_cons (ss_asg sd_var (sg_t c.calm (sgs_cons (sg_n c.nd) (sgs_cons (sg_n c.nd) (sgs_cons (sg_n c.nd) (sgs_nil (sl := [])))))))
 (ss_one (ss_ret (sd_if (sd_cmp (op_eqO c.hu64) sd_var (sd_gstr rfl fx.k_ID) (by rfl)) (sd_methF c h_Look_id_of (by decide) sd_var (sda_cons sd_var sda_nil)) sd_nv))))))
abbrev s_Look_due_of : Stmt := cbody (top 32) |>.getD 3 noSt
theorem sc_Look_due_of : FnScope N_Look_due_of ["self", "name"] (defScope s_Look_due_of) := ⟨rfl, rfl, rfl, by decide +kernel, rfl, by decide +kernel, by decide +kernel⟩
set_option maxRecDepth 100000 in
theorem ok_Look_due_of (fx : Fx ca K mg) (F : FunD K "due_of" "Look.due_of" (defArgs s_Look_due_of) (defBody s_Look_due_of) (defScope s_Look_due_of) [] [] f fd) (h_Land_kind : CalM ca P w K mg base 3 15 "kind" m_Land_kind []) (h_Look_wished_number : CalM ca P w K mg base 2 17 "wished_number" m_Look_wished_number []) (h_Land_fields : CalM ca P w K mg base 3 15 "fields" m_Land_fields []) : FnOk P w K mg base (L2.CX P w) 4 f fd ["self", "name"] (spM ca m_Look_due_of) :=
  fn_okM fx.hK F sc_Look_due_of rfl fun cdv A outer s H E ct => have c := ct.toCO; (ss_cons (ss_asgN (sd_get1 c.hu (sd_fld sd_var (hC1 fx.c_Look fx.n_Look_found)) sd_var ⟨rfl, rfl, rfl, rfl⟩) c.nd)
 (ss_cons (ss_if (sd_cmp op_isF2 sd_var sd_non (by rfl)) (ss_one (ss_ret sd_str)) ss_nil)
 (ss_cons (ss_asgN (sd_sub c.hK c.hu (sd_sub c.hK c.hu (sd_fld (sd_fld sd_var (hC1 fx.c_Look fx.n_Look_wish)) (hCc fx.c_Look fx.n_Look_table (hCc fx.c_Keeper fx.n_Keeper_table (hC1 fx.c_Wish fx.n_Wish_table)))) sd_var) sd_int) c.nd)
 (ss_cons (ss_if (sd_cmp (op_neO c.hu64) (sd_methF c h_Land_kind (by decide) (sd_fld sd_var (hCc fx.c_Look fx.n_Look_land (hC1 fx.c_Keeper fx.n_Keeper_land))) (sda_cons sd_var sda_nil)) sd_var (by rfl)) (ss_one (ss_ret sd_str)) ss_nil)
 (ss_cons (ss_asg (sd_sub c.hK c.hu (sd_fld (sd_fld sd_var (hCc fx.c_Look fx.n_Look_land (hC1 fx.c_Keeper fx.n_Keeper_land))) (hC1 fx.c_Land fx.n_Land_kinds_there)) sd_var) (sg_t c.calm (sgs_cons (sg_n c.nd) (sgs_cons (sg_n c.nd) (sgs_nil (sl := []))))))
 (ss_cons (ss_setLc (own := [("field", 7)]) finT_ok c.calm c.nd (pi_any c.hK sd_var) (by rfl) (fun s15 H15 C15 cl15 fp15 => (sg_n (c.blk s15 H15 _ _ fp15).nd)) (fun s15 H15 C15 cl15 fp15 => (sdt_one (sd_cmp (op_neO (c.blk s15 H15 _ _ fp15).hu64) (sd_methF (c.blk s15 H15 _ _ fp15) h_Look_wished_number (by decide) sd_var (sda_cons sd_var (sda_cons sd_var sda_nil))) (sd_sub (c.blk s15 H15 _ _ fp15).hK (c.blk s15 H15 _ _ fp15).hu (sd_methF (c.blk s15 H15 _ _ fp15) h_Land_fields (by decide) (sd_fld sd_var (hCc fx.c_Look fx.n_Look_land (hC1 fx.c_Keeper fx.n_Keeper_land))) (sda_cons sd_var sda_nil)) sd_var) (by rfl)))) (fun s15 H15 C15 cl15 fp15 => sd_var))
 (ss_cons (ss_if (sd_callB (call_anyF c.calm) rfl fx.f_any (by decide +kernel) (sda_cons (sd_lc (own := [("field", 7)]) finT_ok c.calm c.nd (pi_any c.hK sd_var) (by rfl) (fun s16 H16 C16 cl16 fp16 => (sg_n (c.blk s16 H16 _ _ fp16).nd)) (fun s16 H16 C16 cl16 fp16 => sdt_nil) (fun s16 H16 C16 cl16 fp16 => (sd_cmp (op_inO (c.blk s16 H16 _ _ fp16).hK (c.blk s16 H16 _ _ fp16).hu) sd_var sd_var (by rfl)))) sda_nil)) (ss_one (ss_ret sd_str)) ss_nil)
 (ss_one (ss_ret (sd_if (sd_cmp (op_neO c.hu64) sd_var (sd_lst sda_nil) (by rfl)) sd_str sd_str))))))))))
abbrev s_Look_init : Stmt := cbody (top 32) |>.getD 0 noSt
theorem sc_Look_init : FnScope N_Look_init ["self", "land", "table", "wish"] (defScope s_Look_init) := ⟨rfl, rfl, rfl, by decide +kernel, rfl, by decide +kernel, by decide +kernel⟩
set_option maxRecDepth 100000 in
theorem ok_Look_init (fx : Fx ca K mg) (F : FunD K "__init__" "Look.__init__" (defArgs s_Look_init) (defBody s_Look_init) (defScope s_Look_init) [] [] f fd) (h_check_wish : CalF ca P w K mg base 2 "check_wish" m_check_wish []) (h_found_in : CalF ca P w K mg base 2 "found_in" m_found_in []) (h_Wish_in_turn : CalM ca P w K mg base 4 20 "in_turn" m_Wish_in_turn []) (h_Look_due_of : CalM ca P w K mg base 4 17 "due_of" m_Look_due_of []) : FnOk P w K mg base (L2.CX P w) 5 f fd ["self", "land", "table", "wish"] (spM ca m_Look_init) :=
  fn_okM fx.hK F sc_Look_init rfl fun cdv A outer s H E ct => have c := ct.toCO; (ss_cons (ss_expr (sd_callF c h_check_wish (by decide) (sda_cons sd_var (sda_cons sd_var sda_nil))))
 (ss_cons (ss_fld sd_var sd_var (hCc fx.c_Look fx.n_Look_land (hC1 fx.c_Keeper fx.n_Keeper_land)))
 (ss_cons (ss_fld sd_var sd_var (hC1 fx.c_Look fx.n_Look_wish))
 (ss_cons (ss_fld sd_var sd_var (hCc fx.c_Look fx.n_Look_table (hCc fx.c_Keeper fx.n_Keeper_table (hC1 fx.c_Wish fx.n_Wish_table))))
 (ss_cons (ss_fld sd_var (sd_dc (own := [("name", 4)]) finDT_ok c.calm c.nd (pi_any c.hK sd_var) (by rfl) (fun s14 H14 C14 cl14 fp14 => (sg_n (c.blk s14 H14 _ _ fp14).nd)) (fun s14 H14 C14 cl14 fp14 => sdt_nil) (fun s14 H14 C14 cl14 fp14 => sd_var) (fun s14 H14 C14 cl14 fp14 => (sd_callF (c.blk s14 H14 _ _ fp14) h_found_in (by decide) (sda_cons sd_var (sda_cons (sd_sub (c.blk s14 H14 _ _ fp14).hK (c.blk s14 H14 _ _ fp14).hu sd_var sd_var) sda_nil))))) (hC1 fx.c_Look fx.n_Look_found))
 (ss_cons (ss_fld sd_var sd_dicC (hC1 fx.c_Look fx.n_Look_due))
 (ss_one (ss_for c.ow c.calm (pi_any c.hK (sd_methF0 c h_Wish_in_turn (by decide) sd_var)) (sg_n c.nd) (ss_one (ss_asg (sd_methF c h_Look_due_of (by decide) sd_var (sda_cons sd_var sda_nil)) (sg_sub (W := WF) c.hu (sd_fld sd_var (hC1 fx.c_Look fx.n_Look_due)) sd_var)))))))))))
abbrev s_Look_takes : Stmt := cbody (top 32) |>.getD 4 noSt
theorem sc_Look_takes : FnScope N_Look_takes ["self"] (defScope s_Look_takes) := ⟨rfl, rfl, rfl, by decide +kernel, rfl, by decide +kernel, by decide +kernel⟩
set_option maxRecDepth 100000 in
theorem ok_Look_takes (fx : Fx ca K mg) (F : FunD K "takes" "Look.takes" (defArgs s_Look_takes) (defBody s_Look_takes) (defScope s_Look_takes) [] [] f fd)  : FnOk P w K mg base (L2.CX P w) 1 f fd ["self"] (spM ca m_Look_takes) :=
  fn_okM fx.hK F sc_Look_takes rfl fun cdv A outer s H E ct => have c := ct.toCO; (ss_cons (ss_setLc (own := [("name", 2)]) finT_ok c.calm c.nd (pi_any c.hK (sd_fld sd_var (hCc fx.c_Look fx.n_Look_table (hCc fx.c_Keeper fx.n_Keeper_table (hC1 fx.c_Wish fx.n_Wish_table))))) (by rfl) (fun s17 H17 C17 cl17 fp17 => (sg_n (c.blk s17 H17 _ _ fp17).nd)) (fun s17 H17 C17 cl17 fp17 => (sdt_one (sd_bool (sdb_and (sd_cmp (op_notInO (c.blk s17 H17 _ _ fp17).hK (c.blk s17 H17 _ _ fp17).hu) sd_var (sd_fld (sd_fld sd_var (hC1 fx.c_Look fx.n_Look_wish)) (hCc fx.c_Look fx.n_Look_table (hCc fx.c_Keeper fx.n_Keeper_table (hC1 fx.c_Wish fx.n_Wish_table)))) (by rfl)) (sdb_and1 (sd_cmp op_isNotF2 (sd_sub (c.blk s17 H17 _ _ fp17).hK (c.blk s17 H17 _ _ fp17).hu (sd_fld sd_var (hC1 fx.c_Look fx.n_Look_found)) sd_var) sd_non (by rfl))))))) (fun s17 H17 C17 cl17 fp17 => sd_var))
 (ss_one (ss_ret (sd_bin op_addF sd_var (sd_lc (own := [("name", 2)]) finT_ok c.calm c.nd (pi_any c.hK (sd_fld sd_var (hC1 fx.c_Look fx.n_Look_due))) (by rfl) (fun s18 H18 C18 cl18 fp18 => (sg_n (c.blk s18 H18 _ _ fp18).nd)) (fun s18 H18 C18 cl18 fp18 => (sdt_one (sd_cmp (op_eqO (c.blk s18 H18 _ _ fp18).hu64) (sd_sub (c.blk s18 H18 _ _ fp18).hK (c.blk s18 H18 _ _ fp18).hu (sd_fld sd_var (hC1 fx.c_Look fx.n_Look_due)) sd_var) sd_str (by rfl)))) (fun s18 H18 C18 cl18 fp18 => sd_var))))))
abbrev s_Look_leaned_by : Stmt := cbody (top 32) |>.getD 5 noSt
theorem sc_Look_leaned_by : FnScope N_Look_leaned_by ["self", "name"] (defScope s_Look_leaned_by) := ⟨rfl, rfl, rfl, by decide +kernel, rfl, by decide +kernel, by decide +kernel⟩
set_option maxRecDepth 100000 in
theorem ok_Look_leaned_by (fx : Fx ca K mg) (F : FunD K "leaned_by" "Look.leaned_by" (defArgs s_Look_leaned_by) (defBody s_Look_leaned_by) (defScope s_Look_leaned_by) [] [] f fd) (h_Wish_leaned_on : CalM ca P w K mg base 3 20 "leaned_on" m_Wish_leaned_on []) : FnOk P w K mg base (L2.CX P w) 4 f fd ["self", "name"] (spM ca m_Look_leaned_by) :=
  fn_okM fx.hK F sc_Look_leaned_by rfl fun cdv A outer s H E ct => have c := ct.toCO; (ss_one (ss_ret (sd_if (sd_cmp (op_inO c.hK c.hu) sd_var (sd_fld (sd_fld sd_var (hC1 fx.c_Look fx.n_Look_wish)) (hCc fx.c_Look fx.n_Look_table (hCc fx.c_Keeper fx.n_Keeper_table (hC1 fx.c_Wish fx.n_Wish_table)))) (by rfl)) (sd_methF c h_Wish_leaned_on (by decide) (sd_fld sd_var (hC1 fx.c_Look fx.n_Look_wish)) (sda_cons sd_var sda_nil)) (sd_fld (sd_sub c.hK c.hu (sd_fld sd_var (hCc fx.c_Look fx.n_Look_table (hCc fx.c_Keeper fx.n_Keeper_table (hC1 fx.c_Wish fx.n_Wish_table)))) sd_var) (hC1 fx.c_Known fx.n_Known_leaned)))))
abbrev s_Look_deeds : Stmt := cbody (top 32) |>.getD 6 noSt
theorem sc_Look_deeds : FnScope N_Look_deeds ["self"] (defScope s_Look_deeds) := ⟨rfl, rfl, rfl, by decide +kernel, rfl, by decide +kernel, by decide +kernel⟩
set_option maxRecDepth 100000 in
theorem ok_Look_deeds (fx : Fx ca K mg) (F : FunD K "deeds" "Look.deeds" (defArgs s_Look_deeds) (defBody s_Look_deeds) (defScope s_Look_deeds) [] [] f fd) (h_Look_takes : CalM ca P w K mg base 1 17 "takes" m_Look_takes []) (h_Look_leaned_by : CalM ca P w K mg base 4 17 "leaned_by" m_Look_leaned_by []) : FnOk P w K mg base (L2.CX P w) 5 f fd ["self"] (spM ca m_Look_deeds) :=
  fn_okM fx.hK F sc_Look_deeds rfl fun cdv A outer s H E ct => have c := ct.toCO; (ss_cons (ss_par (sda_cons (sd_methF0 c h_Look_takes (by decide) sd_var) (sda_cons (sd_lstC sda_nil) sda_nil)) c.calm c.nd)
 (ss_cons (ss_while _ c.ow (sd_cmp (op_neO c.hu64) sd_var (sd_lstC sda_nil) (by rfl)) (ss_cons (ss_asgN (sd_lc2 (own := [("name", 5), ("other", 7)]) finT_ok c.calm c.nd (pi_any c.hK sd_var) (by rfl) (by decide) (fun s19 H19 C19 cl19 fp19 => (sg_n (c.blk s19 H19 _ _ fp19).nd)) (fun s19 H19 C19 cl19 fp19 => sdt_nil) (fun s19 H19 C19 cl19 fp19 => (pi_any (c.blk s19 H19 _ _ fp19).hK (sd_frz (sd_methF (c.blk s19 H19 _ _ fp19) h_Look_leaned_by (by decide) sd_var (sda_cons sd_var sda_nil))))) (fun s19 H19 C19 cl19 fp19 => (sg_n (c.blk s19 H19 _ _ fp19).nd)) (fun s19 H19 C19 cl19 fp19 => (sdt_one (sd_cmp (op_neO (c.blk s19 H19 _ _ fp19).hu64) sd_var sd_var (by rfl)))) (fun s19 H19 C19 cl19 fp19 => sd_var)) c.nd)
 (ss_cons (ss_asgN (sd_lc (own := [("name", 5)]) finT_ok c.calm c.nd (pi_any c.hK sd_var) (by rfl) (fun s20 H20 C20 cl20 fp20 => (sg_n (c.blk s20 H20 _ _ fp20).nd)) (fun s20 H20 C20 cl20 fp20 => (sdt_one (sd_cmp (op_notInO (c.blk s20 H20 _ _ fp20).hK (c.blk s20 H20 _ _ fp20).hu) sd_var sd_var (by rfl)))) (fun s20 H20 C20 cl20 fp20 => sd_var)) c.nd)
 (ss_cons (ss_expr (sd_extend sd_var (sd_lc (own := [("name", 5)]) finT_ok c.calm c.nd (pi_any c.hK sd_var) (by rfl) (fun s21 H21 C21 cl21 fp21 => (sg_n (c.blk s21 H21 _ _ fp21).nd)) (fun s21 H21 C21 cl21 fp21 => sdt_nil) (fun s21 H21 C21 cl21 fp21 => (sd_tup (sda_cons sd_str (sda_cons sd_var sda_nil)))))))
 (ss_one (ss_setLc (own := [("name", 5)]) finT_ok c.calm c.nd (pi_any c.hK sd_var) (by rfl) (fun s22 H22 C22 cl22 fp22 => (sg_n (c.blk s22 H22 _ _ fp22).nd)) (fun s22 H22 C22 cl22 fp22 => (sdt_one (sd_cmp (op_notInO (c.blk s22 H22 _ _ fp22).hK (c.blk s22 H22 _ _ fp22).hu) sd_var sd_var (by rfl)))) (fun s22 H22 C22 cl22 fp22 => sd_var)))))))
 (ss_cons (ss_for c.ow c.calm (pi_itm (sd_fld sd_var (hC1 fx.c_Look fx.n_Look_due))) (sg_t c.calm (sgs_cons (sg_n c.nd) (sgs_cons (sg_n c.nd) (sgs_nil (sl := []))))) (ss_one (ss_if (sd_cmp (op_neO c.hu64) sd_var sd_str (by rfl)) (ss_one (ss_expr (sd_append sd_var (sd_tup (sda_cons (sd_if (sd_cmp (op_eqO c.hu64) sd_var sd_str (by rfl)) sd_str sd_str) (sda_cons sd_var sda_nil)))))) ss_nil)))
 (ss_one (ss_ret sd_var)))))
abbrev s_Look_ahead : Stmt := cbody (top 32) |>.getD 7 noSt
theorem sc_Look_ahead : FnScope N_Look_ahead ["self", "one", "other"] (defScope s_Look_ahead) := ⟨rfl, rfl, rfl, by decide +kernel, rfl, by decide +kernel, by decide +kernel⟩
set_option maxRecDepth 100000 in
theorem ok_Look_ahead (fx : Fx ca K mg) (F : FunD K "ahead" "Look.ahead" (defArgs s_Look_ahead) (defBody s_Look_ahead) (defScope s_Look_ahead) [] [] f fd) (h_Look_leaned_by : CalM ca P w K mg base 4 17 "leaned_by" m_Look_leaned_by []) (h_Wish_leaned_on : CalM ca P w K mg base 3 20 "leaned_on" m_Wish_leaned_on []) : FnOk P w K mg base (L2.CX P w) 5 f fd ["self", "one", "other"] (spM ca m_Look_ahead) :=
  fn_okM fx.hK F sc_Look_ahead rfl fun cdv A outer s H E ct => have c := ct.toCO; (ss_cons (ss_if (sd_cmp (op_eqO c.hu64) (sd_sub c.hK c.hu sd_var sd_int) sd_str (by rfl)) (ss_cons (ss_if (sd_cmp (op_eqO c.hu64) (sd_sub c.hK c.hu sd_var sd_int) sd_str (by rfl)) (ss_one (ss_ret (sd_bool (sdb_and (sd_cmp (op_neO c.hu64) (sd_sub c.hK c.hu sd_var sd_int) (sd_sub c.hK c.hu sd_var sd_int) (by rfl)) (sdb_and1 (sd_cmp (op_inO c.hK c.hu) (sd_sub c.hK c.hu sd_var sd_int) (sd_methF c h_Look_leaned_by (by decide) sd_var (sda_cons (sd_sub c.hK c.hu sd_var sd_int) sda_nil)) (by rfl))))))) ss_nil)
 (ss_one (ss_ret (sd_bool (sdb_and (sd_cmp (op_eqO c.hu64) (sd_sub c.hK c.hu sd_var sd_int) sd_str (by rfl)) (sdb_and1 (sd_cmp (op_eqO c.hu64) (sd_sub c.hK c.hu sd_var sd_int) (sd_sub c.hK c.hu sd_var sd_int) (by rfl)))))))) ss_nil)
 (ss_one (ss_ret (sd_bool (sdb_and (sd_cmp (op_neO c.hu64) (sd_sub c.hK c.hu sd_var sd_int) sd_str (by rfl)) (sdb_and1 (sd_cmp (op_inO c.hK c.hu) (sd_sub c.hK c.hu sd_var sd_int) (sd_methF c h_Wish_leaned_on (by decide) (sd_fld sd_var (hC1 fx.c_Look fx.n_Look_wish)) (sda_cons (sd_sub c.hK c.hu sd_var sd_int) sda_nil)) (by rfl))))))))
abbrev s_Look_drift : Stmt := cbody (top 32) |>.getD 8 noSt
theorem sc_Look_drift : FnScope N_Look_drift ["self"] (defScope s_Look_drift) := ⟨rfl, rfl, rfl, by decide +kernel, rfl, by decide +kernel, by decide +kernel⟩
set_option maxRecDepth 100000 in
theorem ok_Look_drift (fx : Fx ca K mg) (F : FunD K "drift" "Look.drift" (defArgs s_Look_drift) (defBody s_Look_drift) (defScope s_Look_drift) [] [] f fd) (h_Land_fields : CalM ca P w K mg base 3 15 "fields" m_Land_fields []) : FnOk P w K mg base (L2.CX P w) 4 f fd ["self"] (spM ca m_Look_drift) :=
  fn_okM fx.hK F sc_Look_drift rfl fun cdv A outer s H E ct => have c := ct.toCO; (ss_cons (ss_asgN (sd_lstC sda_nil) c.nd)
 (ss_cons (ss_for c.ow c.calm (pi_itm (sd_fld sd_var (hCc fx.c_Look fx.n_Look_table (hCc fx.c_Keeper fx.n_Keeper_table (hC1 fx.c_Wish fx.n_Wish_table))))) (sg_t c.calm (sgs_cons (sg_n c.nd) (sgs_cons (sg_n c.nd) (sgs_nil (sl := []))))) (ss_cons (ss_asgN (sd_sub c.hK c.hu (sd_fld sd_var (hC1 fx.c_Look fx.n_Look_found)) sd_var) c.nd)
 (ss_one (ss_if (sd_cmp op_isF2 sd_var sd_non (by rfl)) (ss_one (ss_expr (sd_extend sd_var (sd_if (sd_cmp op_isNotF2 (sd_fld sd_var (hCc fx.c_Thing fx.n_Thing_number (hC1 fx.c_Known fx.n_Known_number))) sd_non (by rfl)) (sd_lst (sda_cons (sd_tup (sda_cons sd_var (sda_cons sd_non (sda_cons sd_non sda_nil)))) sda_nil)) (sd_lstC sda_nil))))) (ss_cons (ss_asgN (sd_methF c h_Land_fields (by decide) (sd_fld sd_var (hCc fx.c_Look fx.n_Look_land (hC1 fx.c_Keeper fx.n_Keeper_land))) (sda_cons sd_var sda_nil)) c.nd)
 (ss_one (ss_expr (sd_extend sd_var (sd_lc (own := [("field", 6)]) finT_ok c.calm c.nd (pi_any c.hK sd_var) (by rfl) (fun s23 H23 C23 cl23 fp23 => (sg_n (c.blk s23 H23 _ _ fp23).nd)) (fun s23 H23 C23 cl23 fp23 => (sdt_one (sd_cmp (op_neO (c.blk s23 H23 _ _ fp23).hu64) (sd_sub (c.blk s23 H23 _ _ fp23).hK (c.blk s23 H23 _ _ fp23).hu sd_var sd_var) (sd_sub (c.blk s23 H23 _ _ fp23).hK (c.blk s23 H23 _ _ fp23).hu (sd_fld sd_var (hCc fx.c_Thing fx.n_Thing_numbers (hC1 fx.c_Known fx.n_Known_numbers))) sd_var) (by rfl)))) (fun s23 H23 C23 cl23 fp23 => (sd_tup (sda_cons sd_var (sda_cons sd_var (sda_cons (sd_sub (c.blk s23 H23 _ _ fp23).hK (c.blk s23 H23 _ _ fp23).hu sd_var sd_var) sda_nil))))))))))))))
 (ss_one (ss_ret sd_var))))
abbrev s_allowed : Stmt := top 34
theorem sc_allowed : FnScope N_allowed ["keeper", "wish", "deeds"] (defScope s_allowed) := ⟨rfl, rfl, rfl, by decide +kernel, rfl, by decide +kernel, by decide +kernel⟩
set_option maxRecDepth 100000 in
theorem ok_allowed (fx : Fx ca K mg) (F : FunD K "allowed" "allowed" (defArgs s_allowed) (defBody s_allowed) (defScope s_allowed) [] [] f fd) (h_Look_init : CalC ca P w K mg base 5 17 "Look" m_Look_init []) (h_Look_deeds : CalM ca P w K mg base 5 17 "deeds" m_Look_deeds []) (h_Look_ahead : CalM ca P w K mg base 5 17 "ahead" m_Look_ahead []) : FnOk P w K mg base (L2.CX P w) 7 f fd ["keeper", "wish", "deeds"] (spM ca m_allowed) :=
  fn_okM fx.hK F sc_allowed rfl fun cdv A outer s H E ct => have c := ct.toCO; (ss_cons (ss_asgN (sd_makeF c h_Look_init (by decide) (sda_cons (sd_fld sd_var (hCc fx.c_Look fx.n_Look_land (hC1 fx.c_Keeper fx.n_Keeper_land))) (sda_cons (sd_fld sd_var (hCc fx.c_Look fx.n_Look_table (hCc fx.c_Keeper fx.n_Keeper_table (hC1 fx.c_Wish fx.n_Wish_table)))) (sda_cons sd_var sda_nil)))) c.nd)
 (ss_cons (ss_if (sd_cmp (op_neO c.hu64) (sd_callB call_sortF rfl fx.f_sorted (by decide +kernel) (sda_cons sd_var sda_nil)) (sd_callB call_sortF rfl fx.f_sorted (by decide +kernel) (sda_cons (sd_methF0 c h_Look_deeds (by decide) sd_var) sda_nil)) (by rfl)) (ss_one (ss_ret sd_bl)) ss_nil)
 (ss_cons (ss_for c.ow c.calm (pi_enm rfl fx.f_enumerate sd_var) (sg_t c.calm (sgs_cons (sg_n c.nd) (sgs_cons (sg_n c.nd) (sgs_nil (sl := []))))) (ss_one (ss_if (sd_callB (call_anyF c.calm) rfl fx.f_any (by decide +kernel) (sda_cons (sd_lc (own := [("other", 6)]) finT_ok c.calm c.nd (pi_any c.hK (sd_slice c.hK sd_var (sp_so (sd_bin op_addF sd_var sd_int)) sp_no)) (by rfl) (fun s24 H24 C24 cl24 fp24 => (sg_n (c.blk s24 H24 _ _ fp24).nd)) (fun s24 H24 C24 cl24 fp24 => sdt_nil) (fun s24 H24 C24 cl24 fp24 => (sd_methF (c.blk s24 H24 _ _ fp24) h_Look_ahead (by decide) sd_var (sda_cons sd_var (sda_cons sd_var sda_nil))))) sda_nil)) (ss_one (ss_ret sd_bl)) ss_nil)))
 (ss_one (ss_ret sd_bl)))))
abbrev s_Plan_init : Stmt := cbody (top 36) |>.getD 0 noSt
theorem sc_Plan_init : FnScope N_Plan_init ["self", "look", "land_done", "keeper_done"] (defScope s_Plan_init) := ⟨rfl, rfl, rfl, by decide +kernel, rfl, by decide +kernel, by decide +kernel⟩
set_option maxRecDepth 100000 in
theorem ok_Plan_init (fx : Fx ca K mg) (F : FunD K "__init__" "Plan.__init__" (defArgs s_Plan_init) (defBody s_Plan_init) (defScope s_Plan_init) [] [] f fd) (h_Look_deeds : CalM ca P w K mg base 5 17 "deeds" m_Look_deeds []) (h_Look_drift : CalM ca P w K mg base 4 17 "drift" m_Look_drift []) : FnOk P w K mg base (L2.CX P w) 6 f fd ["self", "look", "land_done", "keeper_done"] (spM ca m_Plan_init) :=
  fn_okM fx.hK F sc_Plan_init rfl fun cdv A outer s H E ct => have c := ct.toCO; (ss_cons (ss_fld sd_var sd_var (hC1 fx.c_Plan fx.n_Plan_look))
 (ss_cons (ss_fld sd_var sd_var (hC1 fx.c_Plan fx.n_Plan_land_done))
 (ss_cons (ss_fld sd_var sd_var (hC1 fx.c_Plan fx.n_Plan_keeper_done))
 (ss_cons (ss_fld sd_var (sd_methF0 c h_Look_deeds (by decide) sd_var) (hCc fx.c_Plan fx.n_Plan_rows (hC1 fx.c_Wish fx.n_Wish_rows)))
 (ss_one (ss_fld sd_var (sd_methF0 c h_Look_drift (by decide) sd_var) (hC1 fx.c_Plan fx.n_Plan_changed)))))))
abbrev s_Plan_deeds : Stmt := cbody (top 36) |>.getD 1 noSt
theorem sc_Plan_deeds : FnScope N_Plan_deeds ["self"] (defScope s_Plan_deeds) := ⟨rfl, rfl, rfl, by decide +kernel, rfl, by decide +kernel, by decide +kernel⟩
set_option maxRecDepth 100000 in
theorem ok_Plan_deeds (fx : Fx ca K mg) (F : FunD K "deeds" "Plan.deeds" (defArgs s_Plan_deeds) (defBody s_Plan_deeds) (defScope s_Plan_deeds) [] [] f fd)  : FnOk P w K mg base (L2.CX P w) 1 f fd ["self"] (spM ca m_Plan_deeds) :=
  fn_okM fx.hK F sc_Plan_deeds rfl fun cdv A outer s H E ct => have c := ct.toCO; (ss_one (ss_ret (sd_callT (call_listC c.hK c.calm) rfl fx.f_list (by decide +kernel) (sda_cons (sd_fld sd_var (hCc fx.c_Plan fx.n_Plan_rows (hC1 fx.c_Wish fx.n_Wish_rows))) sda_nil))))
abbrev s_Plan_drift : Stmt := cbody (top 36) |>.getD 2 noSt
theorem sc_Plan_drift : FnScope N_Plan_drift ["self"] (defScope s_Plan_drift) := ⟨rfl, rfl, rfl, by decide +kernel, rfl, by decide +kernel, by decide +kernel⟩
set_option maxRecDepth 100000 in
theorem ok_Plan_drift (fx : Fx ca K mg) (F : FunD K "drift" "Plan.drift" (defArgs s_Plan_drift) (defBody s_Plan_drift) (defScope s_Plan_drift) [] [] f fd)  : FnOk P w K mg base (L2.CX P w) 1 f fd ["self"] (spM ca m_Plan_drift) :=
  fn_okM fx.hK F sc_Plan_drift rfl fun cdv A outer s H E ct => have c := ct.toCO; (ss_one (ss_ret (sd_callT (call_listC c.hK c.calm) rfl fx.f_list (by decide +kernel) (sda_cons (sd_fld sd_var (hC1 fx.c_Plan fx.n_Plan_changed)) sda_nil))))
abbrev s_Keeper_init : Stmt := cbody (top 37) |>.getD 0 noSt
theorem sc_Keeper_init : FnScope N_Keeper_init ["self", "land", "mark"] (defScope s_Keeper_init) := ⟨rfl, rfl, rfl, by decide +kernel, rfl, by decide +kernel, by decide +kernel⟩
set_option maxRecDepth 100000 in
theorem ok_Keeper_init (fx : Fx ca K mg) (F : FunD K "__init__" "Keeper.__init__" (defArgs s_Keeper_init) (defBody s_Keeper_init) (defScope s_Keeper_init) [] [("mark", .str "k")] f fd) (h_is_name : CalF ca P w K mg base 1 "is_name" m_is_name []) : FnOk P w K mg base (L2.CX P w) 2 f fd ["self", "land", "mark"] (spM ca m_Keeper_init) :=
  fn_okM fx.hK F sc_Keeper_init rfl fun cdv A outer s H E ct => have c := ct.toCO; (ss_cons (ss_if (sd_not (sd_callF c h_is_name (by decide) (sda_cons sd_var sda_nil))) (ss_one ss_nv) ss_nil)
 (ss_cons (ss_fld sd_var sd_var (hCc fx.c_Look fx.n_Look_land (hC1 fx.c_Keeper fx.n_Keeper_land)))
 (ss_cons (ss_fld sd_var sd_var (hC1 fx.c_Keeper fx.n_Keeper_mark))
 (ss_cons (ss_fld sd_var sd_dicC (hCc fx.c_Look fx.n_Look_table (hCc fx.c_Keeper fx.n_Keeper_table (hC1 fx.c_Wish fx.n_Wish_table))))
 (ss_cons (ss_fld sd_var sd_int (hC1 fx.c_Keeper fx.n_Keeper_keys_so_far))
 (ss_cons (ss_fld sd_var sd_int (hC1 fx.c_Keeper fx.n_Keeper_done_so_far))
 (ss_one (ss_fld sd_var sd_non (hC1 fx.c_Keeper fx.n_Keeper_hand_now)))))))))
abbrev s_Keeper_plan : Stmt := cbody (top 37) |>.getD 1 noSt
theorem sc_Keeper_plan : FnScope N_Keeper_plan ["self", "wish"] (defScope s_Keeper_plan) := ⟨rfl, rfl, rfl, by decide +kernel, rfl, by decide +kernel, by decide +kernel⟩
set_option maxRecDepth 100000 in
theorem ok_Keeper_plan (fx : Fx ca K mg) (F : FunD K "plan" "Keeper.plan" (defArgs s_Keeper_plan) (defBody s_Keeper_plan) (defScope s_Keeper_plan) [] [] f fd) (h_Plan_init : CalC ca P w K mg base 6 18 "Plan" m_Plan_init []) (h_Look_init : CalC ca P w K mg base 5 17 "Look" m_Look_init []) : FnOk P w K mg base (L2.CX P w) 8 f fd ["self", "wish"] (spM ca m_Keeper_plan) :=
  fn_okM fx.hK F sc_Keeper_plan rfl fun cdv A outer s H E ct => have c := ct.toCO; (ss_one (ss_ret (sd_makeF c h_Plan_init (by decide) (sda_cons (sd_makeF c h_Look_init (by decide) (sda_cons (sd_fld sd_var (hCc fx.c_Look fx.n_Look_land (hC1 fx.c_Keeper fx.n_Keeper_land))) (sda_cons (sd_fld sd_var (hCc fx.c_Look fx.n_Look_table (hCc fx.c_Keeper fx.n_Keeper_table (hC1 fx.c_Wish fx.n_Wish_table)))) (sda_cons sd_var sda_nil)))) (sda_cons (sd_fld (sd_fld sd_var (hCc fx.c_Look fx.n_Look_land (hC1 fx.c_Keeper fx.n_Keeper_land))) (hC1 fx.c_Land fx.n_Land_deeds_done)) (sda_cons (sd_fld sd_var (hC1 fx.c_Keeper fx.n_Keeper_done_so_far)) sda_nil))))))
abbrev s_Keeper_lock : Stmt := cbody (top 37) |>.getD 2 noSt
theorem sc_Keeper_lock : FnScope N_Keeper_lock ["self", "hand"] (defScope s_Keeper_lock) := ⟨rfl, rfl, rfl, by decide +kernel, rfl, by decide +kernel, by decide +kernel⟩
set_option maxRecDepth 100000 in
theorem ok_Keeper_lock (fx : Fx ca K mg) (F : FunD K "lock" "Keeper.lock" (defArgs s_Keeper_lock) (defBody s_Keeper_lock) (defScope s_Keeper_lock) [] [] f fd) (h_is_name : CalF ca P w K mg base 1 "is_name" m_is_name []) : FnOk P w K mg base (L2.CX P w) 2 f fd ["self", "hand"] (spM ca m_Keeper_lock) :=
  fn_okM fx.hK F sc_Keeper_lock rfl fun cdv A outer s H E ct => have c := ct.toCO; (ss_cons (ss_if (sd_not (sd_callF c h_is_name (by decide) (sda_cons sd_var sda_nil))) (ss_one ss_nv) ss_nil)
 (ss_cons (ss_if (sd_cmp op_isNotF2 (sd_fld sd_var (hC1 fx.c_Keeper fx.n_Keeper_hand_now)) sd_non (by rfl)) (ss_one ss_nv) ss_nil)
 (ss_one (ss_fld sd_var sd_var (hC1 fx.c_Keeper fx.n_Keeper_hand_now)))))
abbrev s_Keeper_check_hand : Stmt := cbody (top 37) |>.getD 3 noSt
theorem sc_Keeper_check_hand : FnScope N_Keeper_check_hand ["self", "hand"] (defScope s_Keeper_check_hand) := ⟨rfl, rfl, rfl, by decide +kernel, rfl, by decide +kernel, by decide +kernel⟩
set_option maxRecDepth 100000 in
theorem ok_Keeper_check_hand (fx : Fx ca K mg) (F : FunD K "check_hand" "Keeper.check_hand" (defArgs s_Keeper_check_hand) (defBody s_Keeper_check_hand) (defScope s_Keeper_check_hand) [] [] f fd)  : FnOk P w K mg base (L2.CX P w) 1 f fd ["self", "hand"] (spM ca m_Keeper_check_hand) :=
  fn_okM fx.hK F sc_Keeper_check_hand rfl fun cdv A outer s H E ct => have c := ct.toCO; (ss_one (ss_if (sd_bool (sdb_or (sd_cmp op_isF2 (sd_fld sd_var (hC1 fx.c_Keeper fx.n_Keeper_hand_now)) sd_non (by rfl)) (sdb_or (sd_not (sd_isi sd_var rfl fx.f_isinstance rfl fx.f_str (by decide +kernel))) (sdb_or1 (sd_cmp (op_neO c.hu64) sd_var (sd_fld sd_var (hC1 fx.c_Keeper fx.n_Keeper_hand_now)) (by rfl)))))) (ss_one ss_nv) ss_nil))
abbrev s_Keeper_know_look : Stmt := cbody (top 37) |>.getD 6 noSt
theorem sc_Keeper_know_look : FnScope N_Keeper_know_look ["self", "look"] (defScope s_Keeper_know_look) := ⟨rfl, rfl, rfl, by decide +kernel, rfl, by decide +kernel, by decide +kernel⟩
set_option maxRecDepth 100000 in
theorem ok_Keeper_know_look (fx : Fx ca K mg) (F : FunD K "know_look" "Keeper.know_look" (defArgs s_Keeper_know_look) (defBody s_Keeper_know_look) (defScope s_Keeper_know_look) [] [] f fd) (h_Look_leaned_by : CalM ca P w K mg base 4 17 "leaned_by" m_Look_leaned_by []) (h_Land_fields : CalM ca P w K mg base 3 15 "fields" m_Land_fields []) (h_Land_kind : CalM ca P w K mg base 3 15 "kind" m_Land_kind []) (h_Known_init : CalC ca P w K mg base 1 16 "Known" m_Known_init []) : FnOk P w K mg base (L2.CX P w) 5 f fd ["self", "look"] (spM ca m_Keeper_know_look) :=
  fn_okM fx.hK F sc_Keeper_know_look rfl fun cdv A outer s H E ct => have c := ct.toCO; (ss_cons (ss_asgN sd_dicC c.nd)
 (ss_cons (ss_for c.ow c.calm (pi_itm (sd_fld sd_var (hCc fx.c_Look fx.n_Look_table (hCc fx.c_Keeper fx.n_Keeper_table (hC1 fx.c_Wish fx.n_Wish_table))))) (sg_t c.calm (sgs_cons (sg_n c.nd) (sgs_cons (sg_n c.nd) (sgs_nil (sl := []))))) (ss_cons (ss_asgN (sd_sub c.hK c.hu (sd_fld sd_var (hC1 fx.c_Look fx.n_Look_found)) sd_var) c.nd)
 (ss_one (ss_if (sd_bool (sdb_or (sd_cmp (op_inO c.hK c.hu) sd_var (sd_fld (sd_fld sd_var (hC1 fx.c_Look fx.n_Look_wish)) (hCc fx.c_Look fx.n_Look_table (hCc fx.c_Keeper fx.n_Keeper_table (hC1 fx.c_Wish fx.n_Wish_table)))) (by rfl)) (sdb_or1 (sd_cmp op_isNotF2 sd_var sd_non (by rfl))))) (ss_cons (ss_asgN (sd_methF c h_Look_leaned_by (by decide) sd_var (sda_cons sd_var sda_nil)) c.nd)
 (ss_cons (ss_asgN (sd_if (sd_cmp op_isNotF2 sd_var sd_non (by rfl)) (sd_methF c h_Land_fields (by decide) (sd_fld sd_var (hCc fx.c_Look fx.n_Look_land (hC1 fx.c_Keeper fx.n_Keeper_land))) (sda_cons sd_var sda_nil)) sd_dicC) c.nd)
 (ss_cons (ss_asgN (sd_if (sd_cmp op_isNotF2 sd_var sd_non (by rfl)) (sd_methF c h_Land_kind (by decide) (sd_fld sd_var (hCc fx.c_Look fx.n_Look_land (hC1 fx.c_Keeper fx.n_Keeper_land))) (sda_cons sd_var sda_nil)) (sd_fld sd_var (hCc fx.c_Thing fx.n_Thing_sort_of (hC1 fx.c_Known fx.n_Known_sort_of)))) c.nd)
 (ss_one (ss_asg (sd_makeF c h_Known_init (by decide) (sda_cons sd_var (sda_cons sd_var (sda_cons (sd_if (sd_cmp op_isNotF2 sd_var sd_non (by rfl)) (sd_fld sd_var (hCc fx.c_Thing fx.n_Thing_key (hC1 fx.c_Known fx.n_Known_key))) sd_non) (sda_cons sd_var (sda_cons sd_var sda_nil)))))) (sg_sub (W := WF) c.hu sd_var sd_var)))))) ss_nil))))
 (ss_one (ss_fld sd_var sd_var (hCc fx.c_Look fx.n_Look_table (hCc fx.c_Keeper fx.n_Keeper_table (hC1 fx.c_Wish fx.n_Wish_table)))))))
abbrev s_Keeper_number_for : Stmt := cbody (top 37) |>.getD 8 noSt
theorem sc_Keeper_number_for : FnScope N_Keeper_number_for ["self", "wish", "name", "field"] (defScope s_Keeper_number_for) := ⟨rfl, rfl, rfl, by decide +kernel, rfl, by decide +kernel, by decide +kernel⟩
set_option maxRecDepth 100000 in
theorem ok_Keeper_number_for (fx : Fx ca K mg) (F : FunD K "number_for" "Keeper.number_for" (defArgs s_Keeper_number_for) (defBody s_Keeper_number_for) (defScope s_Keeper_number_for) [] [] f fd)  : FnOk P w K mg base (L2.CX P w) 1 f fd ["self", "wish", "name", "field"] (spM ca m_Keeper_number_for) :=
  fn_okM fx.hK F sc_Keeper_number_for rfl fun cdv A outer s H E ct => have c := ct.toCO; (ss_cons (ss_asgN (sd_sub c.hK c.hu (sd_sub c.hK c.hu (sd_sub c.hK c.hu (sd_fld sd_var (hCc fx.c_Look fx.n_Look_table (hCc fx.c_Keeper fx.n_Keeper_table (hC1 fx.c_Wish fx.n_Wish_table)))) sd_var) sd_int) sd_var) c.nd)
 (ss_cons (ss_if (sd_not (sd_isi sd_var rfl fx.f_isinstance rfl fx.f_tuple (by decide +kernel))) (ss_one (ss_ret sd_var)) ss_nil)
 (ss_cons (ss_asg sd_var (sg_t c.calm (sgs_cons (sg_n c.nd) (sgs_cons (sg_n c.nd) (sgs_cons (sg_n c.nd) (sgs_nil (sl := [])))))))
 (ss_one (ss_ret (sd_if (sd_cmp (op_eqO c.hu64) sd_var sd_str (by rfl)) (sd_fld (sd_sub c.hK c.hu (sd_fld sd_var (hCc fx.c_Look fx.n_Look_table (hCc fx.c_Keeper fx.n_Keeper_table (hC1 fx.c_Wish fx.n_Wish_table)))) sd_var) (hCc fx.c_Thing fx.n_Thing_number (hC1 fx.c_Known fx.n_Known_number))) sd_nv))))))
abbrev s_Keeper_numbers_for : Stmt := cbody (top 37) |>.getD 7 noSt
theorem sc_Keeper_numbers_for : FnScope N_Keeper_numbers_for ["self", "wish", "name", "fields"] (defScope s_Keeper_numbers_for) := ⟨rfl, rfl, rfl, by decide +kernel, rfl, by decide +kernel, by decide +kernel⟩
set_option maxRecDepth 100000 in
theorem ok_Keeper_numbers_for (fx : Fx ca K mg) (F : FunD K "numbers_for" "Keeper.numbers_for" (defArgs s_Keeper_numbers_for) (defBody s_Keeper_numbers_for) (defScope s_Keeper_numbers_for) [] [] f fd) (h_Keeper_number_for : CalM ca P w K mg base 1 19 "number_for" m_Keeper_number_for []) : FnOk P w K mg base (L2.CX P w) 2 f fd ["self", "wish", "name", "fields"] (spM ca m_Keeper_numbers_for) :=
  fn_okM fx.hK F sc_Keeper_numbers_for rfl fun cdv A outer s H E ct => have c := ct.toCO; (ss_one (ss_ret (sd_dc (own := [("field", 4)]) finDT_ok c.calm c.nd (pi_any c.hK sd_var) (by rfl) (fun s25 H25 C25 cl25 fp25 => (sg_n (c.blk s25 H25 _ _ fp25).nd)) (fun s25 H25 C25 cl25 fp25 => sdt_nil) (fun s25 H25 C25 cl25 fp25 => sd_var) (fun s25 H25 C25 cl25 fp25 => (sd_methF (c.blk s25 H25 _ _ fp25) h_Keeper_number_for (by decide) sd_var (sda_cons sd_var (sda_cons sd_var (sda_cons sd_var sda_nil))))))))
abbrev s_Keeper_make : Stmt := cbody (top 37) |>.getD 9 noSt
theorem sc_Keeper_make : FnScope N_Keeper_make ["self", "wish", "name"] (defScope s_Keeper_make) := ⟨rfl, rfl, rfl, by decide +kernel, rfl, by decide +kernel, by decide +kernel⟩
set_option maxRecDepth 100000 in
theorem ok_Keeper_make (fx : Fx ca K mg) (F : FunD K "make" "Keeper.make" (defArgs s_Keeper_make) (defBody s_Keeper_make) (defScope s_Keeper_make) [] [] f fd) (h_Keeper_numbers_for : CalM ca P w K mg base 2 19 "numbers_for" m_Keeper_numbers_for []) (h_Known_init : CalC ca P w K mg base 1 16 "Known" m_Known_init []) (h_Wish_leaned_on : CalM ca P w K mg base 3 20 "leaned_on" m_Wish_leaned_on []) (hk_Land_make : CalMK ca P w K mg base 3 15 "make" m_Land_make 3 ["key"]) : FnOk P w K mg base (L2.CX P w) 4 f fd ["self", "wish", "name"] (spM ca m_Keeper_make) :=
  fn_okM fx.hK F sc_Keeper_make rfl fun cdv A outer s H E ct => have c := ct.toCO; (ss_cons (ss_asg (sd_sub c.hK c.hu (sd_fld sd_var (hCc fx.c_Look fx.n_Look_table (hCc fx.c_Keeper fx.n_Keeper_table (hC1 fx.c_Wish fx.n_Wish_table)))) sd_var) (sg_t c.calm (sgs_cons (sg_n c.nd) (sgs_cons (sg_n c.nd) (sgs_cons (sg_n c.nd) (sgs_cons (sg_n c.nd) (sgs_nil (sl := []))))))))
 (ss_cons (ss_asgN (sd_methF c h_Keeper_numbers_for (by decide) sd_var (sda_cons sd_var (sda_cons sd_var (sda_cons (sd_sub c.hK c.hu (sd_sub c.hK c.hu (sd_fld (sd_fld sd_var (hCc fx.c_Look fx.n_Look_land (hC1 fx.c_Keeper fx.n_Keeper_land))) (hC1 fx.c_Land fx.n_Land_kinds_there)) sd_var) sd_int) sda_nil)))) c.nd)
 (ss_cons (ss_asgN (sd_fst (sdf_val (sd_fld sd_var (hC1 fx.c_Keeper fx.n_Keeper_mark)) (sdf_val (sd_fld sd_var (hC1 fx.c_Keeper fx.n_Keeper_keys_so_far)) sdf_nil))) c.nd)
 (ss_cons (ss_fldaug sd_var sd_int in_addF (hC1 fx.c_Keeper fx.n_Keeper_keys_so_far))
 (ss_cons (ss_asg (sd_makeF c h_Known_init (by decide) (sda_cons sd_var (sda_cons sd_non (sda_cons sd_var (sda_cons (sd_methF c h_Wish_leaned_on (by decide) sd_var (sda_cons sd_var sda_nil)) (sda_cons sd_var sda_nil)))))) (sg_sub (W := WF) c.hu (sd_fld sd_var (hCc fx.c_Look fx.n_Look_table (hCc fx.c_Keeper fx.n_Keeper_table (hC1 fx.c_Wish fx.n_Wish_table)))) sd_var))
 (ss_one (ss_fld (sd_sub c.hK c.hu (sd_fld sd_var (hCc fx.c_Look fx.n_Look_table (hCc fx.c_Keeper fx.n_Keeper_table (hC1 fx.c_Wish fx.n_Wish_table)))) sd_var) (sd_methK c hk_Land_make (by decide) (sd_fld sd_var (hCc fx.c_Look fx.n_Look_land (hC1 fx.c_Keeper fx.n_Keeper_land))) (sda_cons sd_var (sda_cons sd_var sda_nil)) (sdk_cons sd_var sdk_nil)) (hCc fx.c_Thing fx.n_Thing_number (hC1 fx.c_Known fx.n_Known_number)))))))))
abbrev s_Keeper_change : Stmt := cbody (top 37) |>.getD 10 noSt
theorem sc_Keeper_change : FnScope N_Keeper_change ["self", "wish", "name"] (defScope s_Keeper_change) := ⟨rfl, rfl, rfl, by decide +kernel, rfl, by decide +kernel, by decide +kernel⟩
set_option maxRecDepth 100000 in
theorem ok_Keeper_change (fx : Fx ca K mg) (F : FunD K "change" "Keeper.change" (defArgs s_Keeper_change) (defBody s_Keeper_change) (defScope s_Keeper_change) [] [] f fd) (h_Land_fields : CalM ca P w K mg base 3 15 "fields" m_Land_fields []) (h_Keeper_numbers_for : CalM ca P w K mg base 2 19 "numbers_for" m_Keeper_numbers_for []) (h_Land_change : CalM ca P w K mg base 3 15 "change" m_Land_change []) : FnOk P w K mg base (L2.CX P w) 4 f fd ["self", "wish", "name"] (spM ca m_Keeper_change) :=
  fn_okM fx.hK F sc_Keeper_change rfl fun cdv A outer s H E ct => have c := ct.toCO; (ss_cons (ss_asgN (sd_sub c.hK c.hu (sd_fld sd_var (hCc fx.c_Look fx.n_Look_table (hCc fx.c_Keeper fx.n_Keeper_table (hC1 fx.c_Wish fx.n_Wish_table)))) sd_var) c.nd)
 (ss_cons (ss_asgN (sd_methF c h_Land_fields (by decide) (sd_fld sd_var (hCc fx.c_Look fx.n_Look_land (hC1 fx.c_Keeper fx.n_Keeper_land))) (sda_cons (sd_fld sd_var (hCc fx.c_Thing fx.n_Thing_number (hC1 fx.c_Known fx.n_Known_number))) sda_nil)) c.nd)
 (ss_cons (ss_asgN (sd_methF c h_Keeper_numbers_for (by decide) sd_var (sda_cons sd_var (sda_cons sd_var (sda_cons (sd_callT (call_listF c.hK c.calm) rfl fx.f_list (by decide +kernel) (sda_cons sd_var sda_nil)) sda_nil)))) c.nd)
 (ss_cons (ss_setDc (own := [("field", 7)]) finDT_ok c.calm c.nd (pi_any c.hK sd_var) (by rfl) (fun s26 H26 C26 cl26 fp26 => (sg_n (c.blk s26 H26 _ _ fp26).nd)) (fun s26 H26 C26 cl26 fp26 => (sdt_one (sd_cmp (op_neO (c.blk s26 H26 _ _ fp26).hu64) (sd_sub (c.blk s26 H26 _ _ fp26).hK (c.blk s26 H26 _ _ fp26).hu sd_var sd_var) (sd_sub (c.blk s26 H26 _ _ fp26).hK (c.blk s26 H26 _ _ fp26).hu sd_var sd_var) (by rfl)))) (fun s26 H26 C26 cl26 fp26 => sd_var) (fun s26 H26 C26 cl26 fp26 => (sd_sub (c.blk s26 H26 _ _ fp26).hK (c.blk s26 H26 _ _ fp26).hu sd_var sd_var)))
 (ss_cons (ss_if (sd_cmp (op_neO c.hu64) sd_var sd_dic (by rfl)) (ss_one (ss_expr (sd_methF c h_Land_change (by decide) (sd_fld sd_var (hCc fx.c_Look fx.n_Look_land (hC1 fx.c_Keeper fx.n_Keeper_land))) (sda_cons (sd_fld sd_var (hCc fx.c_Thing fx.n_Thing_number (hC1 fx.c_Known fx.n_Known_number))) (sda_cons sd_var sda_nil))))) ss_nil)
 (ss_one (ss_fld sd_var sd_var (hCc fx.c_Thing fx.n_Thing_numbers (hC1 fx.c_Known fx.n_Known_numbers)))))))))
abbrev s_Keeper_take : Stmt := cbody (top 37) |>.getD 11 noSt
theorem sc_Keeper_take : FnScope N_Keeper_take ["self", "wish", "name"] (defScope s_Keeper_take) := ⟨rfl, rfl, rfl, by decide +kernel, rfl, by decide +kernel, by decide +kernel⟩
set_option maxRecDepth 100000 in
theorem ok_Keeper_take (fx : Fx ca K mg) (F : FunD K "take" "Keeper.take" (defArgs s_Keeper_take) (defBody s_Keeper_take) (defScope s_Keeper_take) [] [] f fd) (h_Land_take : CalM ca P w K mg base 3 15 "take" m_Land_take []) : FnOk P w K mg base (L2.CX P w) 4 f fd ["self", "wish", "name"] (spM ca m_Keeper_take) :=
  fn_okM fx.hK F sc_Keeper_take rfl fun cdv A outer s H E ct => have c := ct.toCO; (ss_cons (ss_asgN (sd_sub c.hK c.hu (sd_fld sd_var (hCc fx.c_Look fx.n_Look_table (hCc fx.c_Keeper fx.n_Keeper_table (hC1 fx.c_Wish fx.n_Wish_table)))) sd_var) c.nd)
 (ss_cons (ss_expr (sd_methF c h_Land_take (by decide) (sd_fld sd_var (hCc fx.c_Look fx.n_Look_land (hC1 fx.c_Keeper fx.n_Keeper_land))) (sda_cons (sd_fld sd_var (hCc fx.c_Thing fx.n_Thing_number (hC1 fx.c_Known fx.n_Known_number))) sda_nil)))
 (ss_one (ss_if (sd_cmp (op_inO c.hK c.hu) sd_var (sd_fld sd_var (hCc fx.c_Look fx.n_Look_table (hCc fx.c_Keeper fx.n_Keeper_table (hC1 fx.c_Wish fx.n_Wish_table)))) (by rfl)) (ss_one (ss_asg2 sd_non (sg_fld (W := WF) sd_var (hCc fx.c_Thing fx.n_Thing_number (hC1 fx.c_Known fx.n_Known_number))) (sg_fld (W := WF) sd_var (hCc fx.c_Thing fx.n_Thing_key (hC1 fx.c_Known fx.n_Known_key))))) (ss_one (ss_expr (sd_pop1 (sd_fld sd_var (hCc fx.c_Look fx.n_Look_table (hCc fx.c_Keeper fx.n_Keeper_table (hC1 fx.c_Wish fx.n_Wish_table)))) sd_var ⟨rfl, rfl, rfl, rfl⟩)))))))
abbrev s_Keeper_apply : Stmt := cbody (top 37) |>.getD 12 noSt
theorem sc_Keeper_apply : FnScope N_Keeper_apply ["self", "plan", "hand"] (defScope s_Keeper_apply) := ⟨rfl, rfl, rfl, by decide +kernel, rfl, by decide +kernel, by decide +kernel⟩
set_option maxRecDepth 100000 in
theorem ok_Keeper_apply (fx : Fx ca K mg) (F : FunD K "apply" "Keeper.apply" (defArgs s_Keeper_apply) (defBody s_Keeper_apply) (defScope s_Keeper_apply) [] [] f fd) (h_Keeper_check_hand : CalM ca P w K mg base 1 19 "check_hand" m_Keeper_check_hand []) (h_Keeper_know_look : CalM ca P w K mg base 5 19 "know_look" m_Keeper_know_look []) (h_Keeper_make : CalM ca P w K mg base 4 19 "make" m_Keeper_make []) (h_Keeper_change : CalM ca P w K mg base 4 19 "change" m_Keeper_change []) (h_Keeper_take : CalM ca P w K mg base 4 19 "take" m_Keeper_take []) : FnOk P w K mg base (L2.CX P w) 6 f fd ["self", "plan", "hand"] (spM ca m_Keeper_apply) :=
  fn_okM fx.hK F sc_Keeper_apply rfl fun cdv A outer s H E ct => have c := ct.toCO; (ss_cons (ss_expr (sd_methF c h_Keeper_check_hand (by decide) sd_var (sda_cons sd_var sda_nil)))
 (ss_cons (ss_if (sd_bool (sdb_or (sd_cmp (op_neO c.hu64) (sd_fld sd_var (hC1 fx.c_Plan fx.n_Plan_land_done)) (sd_fld (sd_fld sd_var (hCc fx.c_Look fx.n_Look_land (hC1 fx.c_Keeper fx.n_Keeper_land))) (hC1 fx.c_Land fx.n_Land_deeds_done)) (by rfl)) (sdb_or1 (sd_cmp (op_neO c.hu64) (sd_fld sd_var (hC1 fx.c_Plan fx.n_Plan_keeper_done)) (sd_fld sd_var (hC1 fx.c_Keeper fx.n_Keeper_done_so_far)) (by rfl))))) (ss_one ss_nv) ss_nil)
 (ss_cons (ss_fldaug sd_var sd_int in_addF (hC1 fx.c_Keeper fx.n_Keeper_done_so_far))
 (ss_cons (ss_expr (sd_methF c h_Keeper_know_look (by decide) sd_var (sda_cons (sd_fld sd_var (hC1 fx.c_Plan fx.n_Plan_look)) sda_nil)))
 (ss_cons (ss_par (sda_cons (sd_fld (sd_fld sd_var (hC1 fx.c_Plan fx.n_Plan_look)) (hC1 fx.c_Look fx.n_Look_wish)) (sda_cons sd_int sda_nil)) c.calm c.nd)
 (ss_cons (ss_for c.ow c.calm (pi_any c.hK (sd_fld sd_var (hCc fx.c_Plan fx.n_Plan_rows (hC1 fx.c_Wish fx.n_Wish_rows)))) (sg_t c.calm (sgs_cons (sg_n c.nd) (sgs_cons (sg_n c.nd) (sgs_nil (sl := []))))) (ss_cons (ss_thru (ss_one (ss_if (sd_cmp (op_eqO (ct.nox).toCO.hu64) sd_var sd_str (by rfl)) (ss_one (ss_expr (sd_methF (ct.nox).toCO h_Keeper_make (by decide) sd_var (sda_cons sd_var (sda_cons sd_var sda_nil))))) (ss_one (ss_if (sd_cmp (op_eqO (ct.nox).toCO.hu64) sd_var sd_str (by rfl)) (ss_one (ss_expr (sd_methF (ct.nox).toCO h_Keeper_change (by decide) sd_var (sda_cons sd_var (sda_cons sd_var sda_nil))))) (ss_one (ss_expr (sd_methF (ct.nox).toCO h_Keeper_take (by decide) sd_var (sda_cons sd_var (sda_cons sd_var sda_nil))))))))))
 (ss_one (ss_aug sd_int in_addF c.nd))))
 (ss_one (ss_ret sd_var))))))))
abbrev s_Keeper_known : Stmt := cbody (top 37) |>.getD 14 noSt
theorem sc_Keeper_known : FnScope N_Keeper_known ["self"] (defScope s_Keeper_known) := ⟨rfl, rfl, rfl, by decide +kernel, rfl, by decide +kernel, by decide +kernel⟩
set_option maxRecDepth 100000 in
theorem ok_Keeper_known (fx : Fx ca K mg) (F : FunD K "known" "Keeper.known" (defArgs s_Keeper_known) (defBody s_Keeper_known) (defScope s_Keeper_known) [] [] f fd)  : FnOk P w K mg base (L2.CX P w) 1 f fd ["self"] (spM ca m_Keeper_known) :=
  fn_okM fx.hK F sc_Keeper_known rfl fun cdv A outer s H E ct => have c := ct.toCO; (ss_one (ss_ret (sd_dc (own := [("name", 1), ("known", 2)]) finDC_ok c.calm c.nd (pi_itm (sd_fld sd_var (hCc fx.c_Look fx.n_Look_table (hCc fx.c_Keeper fx.n_Keeper_table (hC1 fx.c_Wish fx.n_Wish_table))))) (by rfl) (fun s27 H27 C27 cl27 fp27 => (sg_t (c.blk s27 H27 _ _ fp27).calm (sgs_cons (sg_n (c.blk s27 H27 _ _ fp27).nd) (sgs_cons (sg_n (c.blk s27 H27 _ _ fp27).nd) (sgs_nil (sl := [])))))) (fun s27 H27 C27 cl27 fp27 => sdt_nil) (fun s27 H27 C27 cl27 fp27 => sd_var) (fun s27 H27 C27 cl27 fp27 => (sd_fld sd_var (hCc fx.c_Thing fx.n_Thing_number (hC1 fx.c_Known fx.n_Known_number)))))))
abbrev s_is_wished : Stmt := top 40
theorem sc_is_wished : FnScope N_is_wished ["thing"] (defScope s_is_wished) := ⟨rfl, rfl, rfl, by decide +kernel, rfl, by decide +kernel, by decide +kernel⟩
set_option maxRecDepth 100000 in
theorem ok_is_wished (fx : Fx ca K mg) (F : FunD K "is_wished" "is_wished" (defArgs s_is_wished) (defBody s_is_wished) (defScope s_is_wished) [] [] f fd) (h_is_whole : CalF ca P w K mg base 1 "is_whole" m_is_whole []) (h_is_name : CalF ca P w K mg base 1 "is_name" m_is_name []) : FnOk P w K mg base (L2.CX P w) 2 f fd ["thing"] (spM ca m_is_wished) :=
  fn_okM fx.hK F sc_is_wished rfl fun cdv A outer s H E ct => have c := ct.toCO; (ss_cons (ss_if (sd_callF c h_is_whole (by decide) (sda_cons sd_var sda_nil)) (ss_one (ss_ret sd_bl)) ss_nil)
 (ss_cons (ss_if (sd_bool (sdb_or (sd_not (sd_isi sd_var rfl fx.f_isinstance rfl fx.f_tuple (by decide +kernel))) (sdb_or (sd_cmp (op_neO c.hu64) (sd_callB (call_lenF c.hK) rfl fx.f_len (by decide +kernel) (sda_cons sd_var sda_nil)) sd_int (by rfl)) (sdb_or (sd_not (sd_isi (sd_sub c.hK c.hu sd_var sd_int) rfl fx.f_isinstance rfl fx.f_str (by decide +kernel))) (sdb_or1 (sd_cmp (op_neO c.hu64) (sd_sub c.hK c.hu sd_var sd_int) sd_str (by rfl))))))) (ss_one (ss_ret sd_bl)) ss_nil)
 (ss_one (ss_ret (sd_bool (sdb_and (sd_callF c h_is_name (by decide) (sda_cons (sd_sub c.hK c.hu sd_var sd_int) sda_nil)) (sdb_and1 (sd_callF c h_is_name (by decide) (sda_cons (sd_sub c.hK c.hu sd_var sd_int) sda_nil)))))))))
abbrev s_has_form : Stmt := top 41
theorem sc_has_form : FnScope N_has_form ["thing"] (defScope s_has_form) := ⟨rfl, rfl, rfl, by decide +kernel, rfl, by decide +kernel, by decide +kernel⟩
set_option maxRecDepth 100000 in
theorem ok_has_form (fx : Fx ca K mg) (F : FunD K "has_form" "has_form" (defArgs s_has_form) (defBody s_has_form) (defScope s_has_form) [] [] f fd) (h_is_name : CalF ca P w K mg base 1 "is_name" m_is_name []) (h_are_unlike_names : CalF ca P w K mg base 2 "are_unlike_names" m_are_unlike_names []) (h_is_wished : CalF ca P w K mg base 2 "is_wished" m_is_wished []) : FnOk P w K mg base (L2.CX P w) 3 f fd ["thing"] (spM ca m_has_form) :=
  fn_okM fx.hK F sc_has_form rfl fun cdv A outer s H E ct => have c := ct.toCO; (ss_cons (ss_if (sd_bool (sdb_or (sd_not (sd_isi sd_var rfl fx.f_isinstance rfl fx.f_tuple (by decide +kernel))) (sdb_or (sd_cmp (op_neO c.hu64) (sd_callB (call_lenF c.hK) rfl fx.f_len (by decide +kernel) (sda_cons sd_var sda_nil)) sd_int (by rfl)) (sdb_or (sd_not (sd_callF c h_is_name (by decide) (sda_cons (sd_sub c.hK c.hu sd_var sd_int) sda_nil))) (sdb_or1 (sd_not (sd_callF c h_is_name (by decide) (sda_cons (sd_sub c.hK c.hu sd_var sd_int) sda_nil)))))))) (ss_one (ss_ret sd_bl)) ss_nil)
 (ss_cons (ss_if (sd_bool (sdb_or (sd_not (sd_isi (sd_sub c.hK c.hu sd_var sd_int) rfl fx.f_isinstance rfl fx.f_dict (by decide +kernel))) (sdb_or1 (sd_not (sd_callF c h_are_unlike_names (by decide) (sda_cons (sd_sub c.hK c.hu sd_var sd_int) sda_nil)))))) (ss_one (ss_ret sd_bl)) ss_nil)
 (ss_cons (ss_if (sd_cmp (op_inO c.hK c.hu) (sd_sub c.hK c.hu sd_var sd_int) (sd_sub c.hK c.hu sd_var sd_int) (by rfl)) (ss_one (ss_ret sd_bl)) ss_nil)
 (ss_one (ss_ret (sd_callB (call_allF c.calm) rfl fx.f_all (by decide +kernel) (sda_cons (sd_lc (own := [("field", 1)]) finT_ok c.calm c.nd (pi_any c.hK (sd_sub c.hK c.hu sd_var sd_int)) (by rfl) (fun s28 H28 C28 cl28 fp28 => (sg_n (c.blk s28 H28 _ _ fp28).nd)) (fun s28 H28 C28 cl28 fp28 => sdt_nil) (fun s28 H28 C28 cl28 fp28 => (sd_bool (sdb_and (sd_callF (c.blk s28 H28 _ _ fp28) h_is_name (by decide) (sda_cons sd_var sda_nil)) (sdb_and1 (sd_callF (c.blk s28 H28 _ _ fp28) h_is_wished (by decide) (sda_cons (sd_sub (c.blk s28 H28 _ _ fp28).hK (c.blk s28 H28 _ _ fp28).hu (sd_sub (c.blk s28 H28 _ _ fp28).hK (c.blk s28 H28 _ _ fp28).hu sd_var sd_int) sd_var) sda_nil))))))) sda_nil)))))))
abbrev s_first_wrong : Stmt := top 43
theorem sc_first_wrong : FnScope N_first_wrong ["things"] (defScope s_first_wrong) := ⟨rfl, rfl, rfl, by decide +kernel, rfl, by decide +kernel, by decide +kernel⟩
set_option maxRecDepth 100000 in
theorem ok_first_wrong (fx : Fx ca K mg) (F : FunD K "first_wrong" "first_wrong" (defArgs s_first_wrong) (defBody s_first_wrong) (defScope s_first_wrong) [] [] f fd) (h_has_form : CalF ca P w K mg base 3 "has_form" m_has_form []) (h_spoken_of : CalF ca P w K mg base 2 "spoken_of" m_spoken_of []) : FnOk P w K mg base (L2.CX P w) 4 f fd ["things"] (spM ca m_first_wrong) :=
  fn_okM fx.hK F sc_first_wrong rfl fun cdv A outer s H E ct => have c := ct.toCO; (ss_cons (ss_asgN (sd_lc (own := [("thing", 3)]) finT_ok c.calm c.nd (pi_any c.hK sd_var) (by rfl) (fun s30 H30 C30 cl30 fp30 => (sg_n (c.blk s30 H30 _ _ fp30).nd)) (fun s30 H30 C30 cl30 fp30 => (sdt_one (sd_bool (sdb_and (sd_isi sd_var rfl fx.f_isinstance rfl fx.f_tuple (by decide +kernel)) (sdb_and (sd_cmp op_gtF (sd_callB (call_lenF (c.blk s30 H30 _ _ fp30).hK) rfl fx.f_len (by decide +kernel) (sda_cons sd_var sda_nil)) sd_int (by rfl)) (sdb_and1 (sd_isi (sd_sub (c.blk s30 H30 _ _ fp30).hK (c.blk s30 H30 _ _ fp30).hu sd_var sd_int) rfl fx.f_isinstance rfl fx.f_str (by decide +kernel)))))))) (fun s30 H30 C30 cl30 fp30 => (sd_sub (c.blk s30 H30 _ _ fp30).hK (c.blk s30 H30 _ _ fp30).hu sd_var sd_int))) c.nd)
 (ss_cons (ss_for c.ow c.calm (pi_enm rfl fx.f_enumerate sd_var) (sg_t c.calm (sgs_cons (sg_n c.nd) (sgs_cons (sg_n c.nd) (sgs_nil (sl := []))))) (ss_cons (ss_if (sd_bool (sdb_or (sd_not (sd_callF c h_has_form (by decide) (sda_cons sd_var sda_nil))) (sdb_or1 (sd_not (sd_callB (call_allF c.calm) rfl fx.f_all (by decide +kernel) (sda_cons (sd_lc (own := [("name", 4)]) finT_ok c.calm c.nd (pi_any c.hK (sd_callF c h_spoken_of (by decide) (sda_cons sd_var sda_nil))) (by rfl) (fun s31 H31 C31 cl31 fp31 => (sg_n (c.blk s31 H31 _ _ fp31).nd)) (fun s31 H31 C31 cl31 fp31 => sdt_nil) (fun s31 H31 C31 cl31 fp31 => (sd_cmp (op_inO (c.blk s31 H31 _ _ fp31).hK (c.blk s31 H31 _ _ fp31).hu) sd_var sd_var (by rfl)))) sda_nil)))))) (ss_one (ss_ret sd_var)) ss_nil)
 (ss_one (ss_if (sd_cmp (op_inO c.hK c.hu) (sd_sub c.hK c.hu sd_var sd_int) (sd_lc (own := [("other", 5)]) finT_ok c.calm c.nd (pi_any c.hK (sd_slice c.hK sd_var sp_no (sp_so sd_var))) (by rfl) (fun s32 H32 C32 cl32 fp32 => (sg_n (c.blk s32 H32 _ _ fp32).nd)) (fun s32 H32 C32 cl32 fp32 => sdt_nil) (fun s32 H32 C32 cl32 fp32 => (sd_sub (c.blk s32 H32 _ _ fp32).hK (c.blk s32 H32 _ _ fp32).hu sd_var sd_int))) (by rfl)) (ss_one (ss_ret sd_var)) ss_nil))))
 (ss_one (ss_ret sd_non))))
abbrev s_Wish_check_rings : Stmt := cbody (top 44) |>.getD 1 noSt
theorem sc_Wish_check_rings : FnScope N_Wish_check_rings ["self"] (defScope s_Wish_check_rings) := ⟨rfl, rfl, rfl, by decide +kernel, rfl, by decide +kernel, by decide +kernel⟩
set_option maxRecDepth 100000 in
theorem ok_Wish_check_rings (fx : Fx ca K mg) (F : FunD K "check_rings" "Wish.check_rings" (defArgs s_Wish_check_rings) (defBody s_Wish_check_rings) (defScope s_Wish_check_rings) [] [] f fd) (h_Wish_leaned_on : CalM ca P w K mg base 3 20 "leaned_on" m_Wish_leaned_on []) : FnOk P w K mg base (L2.CX P w) 4 f fd ["self"] (spM ca m_Wish_check_rings) :=
  fn_okM fx.hK F sc_Wish_check_rings rfl fun cdv A outer s H E ct => have c := ct.toCO; (ss_cons (ss_asgN (sd_callT (call_listF c.hK c.calm) rfl fx.f_list (by decide +kernel) (sda_cons (sd_fld sd_var (hCc fx.c_Look fx.n_Look_table (hCc fx.c_Keeper fx.n_Keeper_table (hC1 fx.c_Wish fx.n_Wish_table)))) sda_nil)) c.nd)
 (ss_cons (ss_while _ c.ow sd_bl (ss_cons (ss_asgN (sd_lc (own := [("name", 4)]) finT_ok c.calm c.nd (pi_any c.hK sd_var) (by rfl) (fun s35 H35 C35 cl35 fp35 => (sg_n (c.blk s35 H35 _ _ fp35).nd)) (fun s35 H35 C35 cl35 fp35 => (sdt_one (sd_not (sd_callB (call_anyF (c.blk s35 H35 _ _ fp35).calm) rfl fx.f_any (by decide +kernel) (sda_cons (sd_lc (own := [("other", 5)]) finT_ok (c.blk s35 H35 _ _ fp35).calm (c.blk s35 H35 _ _ fp35).nd (pi_any (c.blk s35 H35 _ _ fp35).hK (sd_methF (c.blk s35 H35 _ _ fp35) h_Wish_leaned_on (by decide) sd_var (sda_cons sd_var sda_nil))) (by rfl) (fun s36 H36 C36 cl36 fp36 => (sg_n ((c.blk s35 H35 _ _ fp35).blk s36 H36 _ _ fp36).nd)) (fun s36 H36 C36 cl36 fp36 => sdt_nil) (fun s36 H36 C36 cl36 fp36 => (sd_cmp (op_inO ((c.blk s35 H35 _ _ fp35).blk s36 H36 _ _ fp36).hK ((c.blk s35 H35 _ _ fp35).blk s36 H36 _ _ fp36).hu) sd_var sd_var (by rfl)))) sda_nil))))) (fun s35 H35 C35 cl35 fp35 => sd_var)) c.nd)
 (ss_cons (ss_if (sd_cmp (op_eqO c.hu64) sd_var (sd_lst sda_nil) (by rfl)) (ss_one ss_break) ss_nil)
 (ss_one (ss_asgN (sd_lc (own := [("name", 4)]) finT_ok c.calm c.nd (pi_any c.hK sd_var) (by rfl) (fun s37 H37 C37 cl37 fp37 => (sg_n (c.blk s37 H37 _ _ fp37).nd)) (fun s37 H37 C37 cl37 fp37 => (sdt_one (sd_cmp (op_notInO (c.blk s37 H37 _ _ fp37).hK (c.blk s37 H37 _ _ fp37).hu) sd_var sd_var (by rfl)))) (fun s37 H37 C37 cl37 fp37 => sd_var)) c.nd)))))
 (ss_cons (ss_if (sd_cmp (op_eqO c.hu64) sd_var (sd_lst sda_nil) (by rfl)) (ss_one ss_retN) ss_nil)
 (ss_cons (ss_asgN (sd_lstC (sda_cons (sd_sub c.hK c.hu sd_var sd_int) sda_nil)) c.nd)
 (ss_cons (ss_while _ c.ow (sd_cmp (op_notInO c.hK c.hu) (sd_sub c.hK c.hu sd_var sd_neg) (sd_slice c.hK sd_var sp_no (sp_so sd_neg)) (by rfl)) (ss_one (ss_expr (sd_append sd_var (sd_sub c.hK c.hu (sd_lc (own := [("other", 5)]) finT_ok c.calm c.nd (pi_any c.hK (sd_methF c h_Wish_leaned_on (by decide) sd_var (sda_cons (sd_sub c.hK c.hu sd_var sd_neg) sda_nil))) (by rfl) (fun s38 H38 C38 cl38 fp38 => (sg_n (c.blk s38 H38 _ _ fp38).nd)) (fun s38 H38 C38 cl38 fp38 => (sdt_one (sd_cmp (op_inO (c.blk s38 H38 _ _ fp38).hK (c.blk s38 H38 _ _ fp38).hu) sd_var sd_var (by rfl)))) (fun s38 H38 C38 cl38 fp38 => sd_var)) sd_int)))))
 (ss_one ss_nv))))))
abbrev s_Wish_init : Stmt := cbody (top 44) |>.getD 0 noSt
theorem sc_Wish_init : FnScope N_Wish_init ["self", "things"] (defScope s_Wish_init) := ⟨rfl, rfl, rfl, by decide +kernel, rfl, by decide +kernel, by decide +kernel⟩
set_option maxRecDepth 100000 in
theorem ok_Wish_init (fx : Fx ca K mg) (F : FunD K "__init__" "Wish.__init__" (defArgs s_Wish_init) (defBody s_Wish_init) (defScope s_Wish_init) [] [] f fd) (h_first_wrong : CalF ca P w K mg base 4 "first_wrong" m_first_wrong []) (h_Wish_check_rings : CalM ca P w K mg base 4 20 "check_rings" m_Wish_check_rings []) : FnOk P w K mg base (L2.CX P w) 5 f fd ["self", "things"] (spM ca m_Wish_init) :=
  fn_okM fx.hK F sc_Wish_init rfl fun cdv A outer s H E ct => have c := ct.toCO; (ss_cons (ss_if (sd_bool (sdb_or (sd_not (sd_isi sd_var rfl fx.f_isinstance rfl fx.f_list (by decide +kernel))) (sdb_or1 (sd_cmp op_gtF (sd_callB (call_lenF c.hK) rfl fx.f_len (by decide +kernel) (sda_cons sd_var sda_nil)) (sd_gint rfl fx.k_MOST_WISHED) (by rfl))))) (ss_one ss_nv) ss_nil)
 (ss_cons (ss_asgN (sd_callF c h_first_wrong (by decide) (sda_cons sd_var sda_nil)) c.nd)
 (ss_cons (ss_if (sd_cmp op_isNotF2 sd_var sd_non (by rfl)) (ss_one ss_nv) ss_nil)
 (ss_cons (ss_fld sd_var (sd_lc (own := [("name", 3), ("kind", 4), ("fields", 5), ("behind", 6)]) finT_ok c.calm c.nd (pi_any c.hK sd_var) (by rfl) (fun s33 H33 C33 cl33 fp33 => (sg_t (c.blk s33 H33 _ _ fp33).calm (sgs_cons (sg_n (c.blk s33 H33 _ _ fp33).nd) (sgs_cons (sg_n (c.blk s33 H33 _ _ fp33).nd) (sgs_cons (sg_n (c.blk s33 H33 _ _ fp33).nd) (sgs_cons (sg_n (c.blk s33 H33 _ _ fp33).nd) (sgs_nil (sl := [])))))))) (fun s33 H33 C33 cl33 fp33 => sdt_nil) (fun s33 H33 C33 cl33 fp33 => (sd_tup (sda_cons sd_var (sda_cons sd_var (sda_cons (sd_callT (call_dictF (c.blk s33 H33 _ _ fp33).calm) rfl fx.f_dict (by decide +kernel) (sda_cons sd_var sda_nil)) (sda_cons (sd_callT (call_listF (c.blk s33 H33 _ _ fp33).hK (c.blk s33 H33 _ _ fp33).calm) rfl fx.f_list (by decide +kernel) (sda_cons sd_var sda_nil)) sda_nil))))))) (hCc fx.c_Plan fx.n_Plan_rows (hC1 fx.c_Wish fx.n_Wish_rows)))
 (ss_cons (ss_fld sd_var (sd_dc (own := [("row", 7)]) finDT_ok c.calm c.nd (pi_any c.hK (sd_fld sd_var (hCc fx.c_Plan fx.n_Plan_rows (hC1 fx.c_Wish fx.n_Wish_rows)))) (by rfl) (fun s34 H34 C34 cl34 fp34 => (sg_n (c.blk s34 H34 _ _ fp34).nd)) (fun s34 H34 C34 cl34 fp34 => sdt_nil) (fun s34 H34 C34 cl34 fp34 => (sd_sub (c.blk s34 H34 _ _ fp34).hK (c.blk s34 H34 _ _ fp34).hu sd_var sd_int)) (fun s34 H34 C34 cl34 fp34 => sd_var)) (hCc fx.c_Look fx.n_Look_table (hCc fx.c_Keeper fx.n_Keeper_table (hC1 fx.c_Wish fx.n_Wish_table))))
 (ss_one (ss_expr (sd_methF0 c h_Wish_check_rings (by decide) sd_var))))))))
abbrev s_Wish_names : Stmt := cbody (top 44) |>.getD 3 noSt
theorem sc_Wish_names : FnScope N_Wish_names ["self"] (defScope s_Wish_names) := ⟨rfl, rfl, rfl, by decide +kernel, rfl, by decide +kernel, by decide +kernel⟩
set_option maxRecDepth 100000 in
theorem ok_Wish_names (fx : Fx ca K mg) (F : FunD K "names" "Wish.names" (defArgs s_Wish_names) (defBody s_Wish_names) (defScope s_Wish_names) [] [] f fd)  : FnOk P w K mg base (L2.CX P w) 1 f fd ["self"] (spM ca m_Wish_names) :=
  fn_okM fx.hK F sc_Wish_names rfl fun cdv A outer s H E ct => have c := ct.toCO; (ss_one (ss_ret (sd_callT (call_listC c.hK c.calm) rfl fx.f_list (by decide +kernel) (sda_cons (sd_fld sd_var (hCc fx.c_Look fx.n_Look_table (hCc fx.c_Keeper fx.n_Keeper_table (hC1 fx.c_Wish fx.n_Wish_table)))) sda_nil))))
abbrev s_Wish_leans : Stmt := cbody (top 44) |>.getD 4 noSt
theorem sc_Wish_leans : FnScope N_Wish_leans ["self", "name"] (defScope s_Wish_leans) := ⟨rfl, rfl, rfl, by decide +kernel, rfl, by decide +kernel, by decide +kernel⟩
set_option maxRecDepth 100000 in
theorem ok_Wish_leans (fx : Fx ca K mg) (F : FunD K "leans" "Wish.leans" (defArgs s_Wish_leans) (defBody s_Wish_leans) (defScope s_Wish_leans) [] [] f fd) (h_Wish_leaned_on : CalM ca P w K mg base 3 20 "leaned_on" m_Wish_leaned_on []) : FnOk P w K mg base (L2.CX P w) 4 f fd ["self", "name"] (spM ca m_Wish_leans) :=
  fn_okM fx.hK F sc_Wish_leans rfl fun cdv A outer s H E ct => have c := ct.toCO; (ss_cons (ss_if (sd_bool (sdb_or (sd_not (sd_isi sd_var rfl fx.f_isinstance rfl fx.f_str (by decide +kernel))) (sdb_or1 (sd_cmp (op_notInO c.hK c.hu) sd_var (sd_fld sd_var (hCc fx.c_Look fx.n_Look_table (hCc fx.c_Keeper fx.n_Keeper_table (hC1 fx.c_Wish fx.n_Wish_table)))) (by rfl))))) (ss_one ss_nv) ss_nil)
 (ss_one (ss_ret (sd_methF c h_Wish_leaned_on (by decide) sd_var (sda_cons sd_var sda_nil)))))
abbrev s__law_cell_at : Stmt := top 46
theorem sc__law_cell_at : FnScope N__law_cell_at ["_law_script", "_law_k"] (defScope s__law_cell_at) := ⟨rfl, rfl, rfl, by decide +kernel, rfl, by decide +kernel, by decide +kernel⟩
set_option maxRecDepth 100000 in
theorem ok__law_cell_at (fx : Fx ca K mg) (F : FunD K "_law_cell_at" "_law_cell_at" (defArgs s__law_cell_at) (defBody s__law_cell_at) (defScope s__law_cell_at) [] [] f fd)  : FnOk P w K mg base (L2.CX P w) 1 f fd ["_law_script", "_law_k"] (spM ca m__law_cell_at) :=
  fn_okM fx.hK F sc__law_cell_at rfl fun cdv A outer s H E ct => have c := ct.toCO; (ss_cons (ss_if (sd_cmp op_ltF sd_var (sd_callB (call_lenF c.hK) rfl fx.f_len (by decide +kernel) (sda_cons sd_var sda_nil)) (by rfl)) (ss_one (ss_ret (sd_sub c.hK c.hu sd_var sd_var))) ss_nil)
 (ss_one (ss_ret sd_int)))
abbrev s__law_draw : Stmt := top 47
theorem sc__law_draw : FnScope N__law_draw ["_law_cell", "_law_k", "_law_most"] (defScope s__law_draw) := ⟨rfl, rfl, rfl, by decide +kernel, rfl, by decide +kernel, by decide +kernel⟩
set_option maxRecDepth 100000 in
theorem ok__law_draw (fx : Fx ca K mg) (F : FunD K "_law_draw" "_law_draw" (defArgs s__law_draw) (defBody s__law_draw) (defScope s__law_draw) [] [] f fd)  : FnOk P w K mg base (L2.CX P w) 1 f fd ["_law_cell", "_law_k", "_law_most"] (spM ca m__law_draw) :=
  fn_okM fx.hK F sc__law_draw rfl fun cdv A outer s H E ct => have c := ct.toCO; (ss_cons (ss_asgN (sd_tup (sda_cons sd_int (sda_cons sd_int (sda_cons sd_int (sda_cons sd_int (sda_cons sd_int (sda_cons sd_int (sda_cons sd_int (sda_cons sd_int (sda_cons sd_int (sda_cons sd_int (sda_cons sd_int (sda_cons sd_int (sda_cons sd_int (sda_cons sd_int (sda_cons sd_int (sda_cons sd_int sda_nil))))))))))))))))) c.nd)
 (ss_one (ss_ret (sd_bin op_modF (sd_bin op_modF (sd_bin op_addF (sd_bin op_mulF sd_var sd_int) (sd_bin op_mulF sd_var sd_int)) (sd_sub c.hK c.hu sd_var (sd_bin op_modF sd_var sd_int))) sd_var))))
abbrev s__law_number : Stmt := top 48
theorem sc__law_number : FnScope N__law_number ["_law_cell", "_law_k", "_law_limit"] (defScope s__law_number) := ⟨rfl, rfl, rfl, by decide +kernel, rfl, by decide +kernel, by decide +kernel⟩
set_option maxRecDepth 100000 in
theorem ok__law_number (fx : Fx ca K mg) (F : FunD K "_law_number" "_law_number" (defArgs s__law_number) (defBody s__law_number) (defScope s__law_number) [] [] f fd) (h__law_draw : CalF ca P w K mg base 1 "_law_draw" m__law_draw []) : FnOk P w K mg base (L2.CX P w) 2 f fd ["_law_cell", "_law_k", "_law_limit"] (spM ca m__law_number) :=
  fn_okM fx.hK F sc__law_number rfl fun cdv A outer s H E ct => have c := ct.toCO; (ss_cons (ss_asgN (sd_bin op_subF sd_var (sd_bin op_powF sd_int sd_int)) c.nd)
 (ss_cons (ss_for c.ow c.calm (pi_rng1 rfl fx.f_range (sda_cons (sd_bin op_modF sd_var sd_int) sda_nil)) (sg_n c.nd) (ss_one (ss_asgN (sd_bin op_fdivF sd_var sd_int) c.nd)))
 (ss_cons (ss_if (sd_cmp op_gtF sd_var sd_int (by rfl)) (ss_one (ss_ret (sd_bin op_modF (sd_bin op_modF sd_var sd_int) sd_var))) ss_nil)
 (ss_cons (ss_asgN (sd_bin op_modF sd_var sd_int) c.nd)
 (ss_one (ss_ret (sd_bin op_modF (sd_callF c h__law_draw (by decide) (sda_cons (sd_bin op_mulF (sd_bin op_addF sd_var (sd_bin op_mulF sd_int sd_var)) (sd_bin op_addF (sd_bin op_addF sd_var (sd_bin op_mulF sd_int sd_var)) sd_int)) (sda_cons (sd_bin op_addF (sd_bin op_modF sd_var sd_int) sd_int) (sda_cons sd_int sda_nil)))) sd_var)))))))
abbrev s__law_land_right : Stmt := top 49
theorem sc__law_land_right : FnScope N__law_land_right ["_law_number_here"] (defScope s__law_land_right) := ⟨rfl, rfl, rfl, by decide +kernel, rfl, by decide +kernel, by decide +kernel⟩
set_option maxRecDepth 100000 in
theorem ok__law_land_right (fx : Fx ca K mg) (F : FunD K "_law_land_right" "_law_land_right" (defArgs s__law_land_right) (defBody s__law_land_right) (defScope s__law_land_right) [] [] f fd) (h_Land_init : CalC ca P w K mg base 4 15 "Land" m_Land_init []) (hk_Land_make : CalMK ca P w K mg base 3 15 "make" m_Land_make 3 ["key"]) (h_Land_fields : CalM ca P w K mg base 3 15 "fields" m_Land_fields []) (h_Land_fails : CalM ca P w K mg base 2 15 "fails" m_Land_fails []) (h_Land_change : CalM ca P w K mg base 3 15 "change" m_Land_change []) (h_Land_ids : CalM ca P w K mg base 1 15 "ids" m_Land_ids []) (h_Land_touched : CalM ca P w K mg base 3 15 "touched" m_Land_touched []) : M3N.FnG P w K mg base (L2.CX P w) 6 f fd ["_law_number_here"] (spM ca m__law_land_right) :=
  fn_okG fx.hK F sc__law_land_right rfl fun cdv A outer s H E cg => have ct := cg.toCOT; have c := ct.toCO; (ss_cons (ss_asg (sd_tup (sda_cons (sd_lstC (sda_cons sd_str (sda_cons sd_str sda_nil))) (sda_cons (sd_lstC (sda_cons sd_str sda_nil)) (sda_cons (sd_dspC (sdp_cons sd_str sd_var (sdp_cons sd_str sd_int sdp_nil))) (sda_cons (sd_dspC (sdp_cons sd_int sd_str sdp_nil)) sda_nil))))) (sg_t c.calm (sgs_cons (sg_n c.nd) (sgs_cons (sg_n c.nd) (sgs_cons (sg_n c.nd) (sgs_cons (sg_n c.nd) (sgs_nil (sl := []))))))))
 (ss_cons (ss_asgN (sd_dspC (sdp_cons sd_str (sd_tup (sda_cons sd_var (sda_cons sd_var sda_nil))) sdp_nil)) c.nd)
 (ss_cons (ss_asgN (sd_makeF c h_Land_init (by decide) (sda_cons sd_var sda_nil)) c.nd)
 (ss_cons (ss_expr (sd_append sd_var sd_str))
 (ss_cons (ss_expr (sd_append sd_var sd_str))
 (ss_cons (ss_expr (sd_clrD sd_var))
 (ss_cons (ss_asgN (sd_methK c hk_Land_make (by decide) sd_var (sda_cons sd_str (sda_cons sd_var sda_nil)) (sdk_cons sd_str sdk_nil)) c.nd)
 (ss_cons (ss_asg sd_int (sg_sub (W := WF) c.hu sd_var sd_str))
 (ss_cons (ss_if (sd_cmp (op_neO c.hu64) (sd_methF c h_Land_fields (by decide) sd_var (sda_cons sd_var sda_nil)) (sd_dsp (sdp_cons sd_str sd_int (sdp_cons sd_str sd_var sdp_nil))) (by rfl)) (ss_one (ss_ret sd_bl)) ss_nil)
 (ss_cons (ss_expr (sd_methF c h_Land_fails (by decide) sd_var (sda_cons sd_var sda_nil)))
 (ss_cons (ss_asg sd_str (sg_sub (W := WF) c.hu sd_var sd_int))
 (ss_cons (ss_asgN (sd_dspC (sdp_cons sd_str sd_int sdp_nil)) c.nd)
 (ss_cons (ss_expr (sd_methF c h_Land_change (by decide) sd_var (sda_cons sd_var (sda_cons sd_var sda_nil))))
 (ss_cons (ss_asg sd_int (sg_sub (W := WF) c.hu sd_var sd_str))
 (ss_cons (ss_for c.ow c.calm (pi_rng1 rfl fx.f_range (sda_cons sd_int sda_nil)) (sg_n c.nd) (ss_cons (ss_if (sd_bool (sdb_or (sd_cmp (op_neO c.hu64) (sd_callT (call_strF cg.gd c.hu64) rfl fx.f_str (by decide +kernel) (sda_cons (sd_methF c h_Land_fields (by decide) sd_var (sda_cons sd_var sda_nil)) sda_nil)) (sd_callT (call_strF cg.gd c.hu64) rfl fx.f_str (by decide +kernel) (sda_cons (sd_dsp (sdp_cons sd_str sd_int (sdp_cons sd_str sd_var sdp_nil))) sda_nil)) (by rfl)) (sdb_or (sd_cmp (op_neO c.hu64) (sd_methF0 c h_Land_ids (by decide) sd_var) (sd_lst (sda_cons sd_var sda_nil)) (by rfl)) (sdb_or1 (sd_cmp (op_neO c.hu64) sd_var (sd_dsp (sdp_cons sd_str sd_int sdp_nil)) (by rfl)))))) (ss_one (ss_ret sd_bl)) ss_nil)
 (ss_cons (ss_expr (sd_clrD (sd_methF c h_Land_fields (by decide) sd_var (sda_cons sd_var sda_nil))))
 (ss_one (ss_expr (sd_clrL (sd_methF0 c h_Land_ids (by decide) sd_var)))))))
 (ss_one (ss_ret (sd_bool (sdb_and (sd_cmp (op_eqO c.hu64) sd_var (sd_dsp (sdp_cons sd_str sd_var (sdp_cons sd_str sd_int sdp_nil))) (by rfl)) (sdb_and1 (sd_cmp (op_eqO c.hu64) (sd_methF c h_Land_touched (by decide) sd_var (sda_cons sd_var sda_nil)) sd_int (by rfl))))))))))))))))))))))
abbrev s__law_wish_right : Stmt := top 50
theorem sc__law_wish_right : FnScope N__law_wish_right ["_law_number_here"] (defScope s__law_wish_right) := ⟨rfl, rfl, rfl, by decide +kernel, rfl, by decide +kernel, by decide +kernel⟩
set_option maxRecDepth 100000 in
theorem ok__law_wish_right (fx : Fx ca K mg) (F : FunD K "_law_wish_right" "_law_wish_right" (defArgs s__law_wish_right) (defBody s__law_wish_right) (defScope s__law_wish_right) [] [] f fd) (h_Land_init : CalC ca P w K mg base 4 15 "Land" m_Land_init []) (h_Keeper_init : CalC ca P w K mg base 2 19 "Keeper" m_Keeper_init [.str "k"]) (h_Wish_init : CalC ca P w K mg base 5 20 "Wish" m_Wish_init []) (h_Keeper_lock : CalM ca P w K mg base 2 19 "lock" m_Keeper_lock []) (h_Keeper_plan : CalM ca P w K mg base 8 19 "plan" m_Keeper_plan []) (h_Wish_names : CalM ca P w K mg base 1 20 "names" m_Wish_names []) (h_Wish_leans : CalM ca P w K mg base 4 20 "leans" m_Wish_leans []) (h_Plan_deeds : CalM ca P w K mg base 1 18 "deeds" m_Plan_deeds []) (h_Plan_drift : CalM ca P w K mg base 1 18 "drift" m_Plan_drift []) (h_allowed : CalF ca P w K mg base 7 "allowed" m_allowed []) (hk_Keeper_apply : CalMK ca P w K mg base 6 19 "apply" m_Keeper_apply 2 ["hand"]) (h_Land_fields : CalM ca P w K mg base 3 15 "fields" m_Land_fields []) (h_Keeper_known : CalM ca P w K mg base 1 19 "known" m_Keeper_known []) : FnOk P w K mg base (L2.CX P w) 9 f fd ["_law_number_here"] (spM ca m__law_wish_right) :=
  fn_okM fx.hK F sc__law_wish_right rfl fun cdv A outer s H E ct => have c := ct.toCO; (ss_cons (ss_asgN (sd_makeF c h_Land_init (by decide) (sda_cons (sd_dsp (sdp_cons sd_str (sd_tup (sda_cons (sd_lst (sda_cons sd_str (sda_cons sd_str sda_nil))) (sda_cons (sd_lstC sda_nil) sda_nil))) sdp_nil)) sda_nil)) c.nd)
 (ss_cons (ss_par (sda_cons (sd_dspC (sdp_cons sd_str sd_var (sdp_cons sd_str sd_int sdp_nil))) (sda_cons (sd_lstC sda_nil) sda_nil)) c.calm c.nd)
 (ss_cons (ss_asgN (sd_lstC (sda_cons (sd_tup (sda_cons sd_str (sda_cons sd_str (sda_cons sd_var (sda_cons sd_var sda_nil))))) (sda_cons (sd_tup (sda_cons sd_str (sda_cons sd_str (sda_cons (sd_dsp (sdp_cons sd_str (sd_tup (sda_cons sd_str (sda_cons sd_str (sda_cons sd_str sda_nil)))) (sdp_cons sd_str sd_int sdp_nil))) (sda_cons (sd_lst (sda_cons sd_str sda_nil)) sda_nil))))) sda_nil))) c.nd)
 (ss_cons (ss_par (sda_cons (sd_makeF c h_Wish_init (by decide) (sda_cons sd_var sda_nil)) (sda_cons (sd_makeF c h_Keeper_init (by decide) (sda_cons sd_var sda_nil)) sda_nil)) c.calm c.nd)
 (ss_cons (ss_asg sd_int (sg_sub (W := WF) c.hu sd_var sd_str))
 (ss_cons (ss_expr (sd_append sd_var sd_str))
 (ss_cons (ss_expr (sd_popL sd_var))
 (ss_cons (ss_expr (sd_methF c h_Keeper_lock (by decide) sd_var (sda_cons sd_str sda_nil)))
 (ss_cons (ss_par (sda_cons (sd_methF c h_Keeper_plan (by decide) sd_var (sda_cons sd_var sda_nil)) (sda_cons (sd_lst (sda_cons (sd_tup (sda_cons sd_str (sda_cons sd_str sda_nil))) (sda_cons (sd_tup (sda_cons sd_str (sda_cons sd_str sda_nil))) sda_nil))) sda_nil)) c.calm c.nd)
 (ss_cons (ss_for c.ow c.calm (pi_rng1 rfl fx.f_range (sda_cons sd_int sda_nil)) (sg_n c.nd) (ss_cons (ss_if (sd_bool (sdb_or (sd_cmp (op_neO c.hu64) (sd_methF0 c h_Wish_names (by decide) sd_var) (sd_lst (sda_cons sd_str (sda_cons sd_str sda_nil))) (by rfl)) (sdb_or (sd_cmp (op_neO c.hu64) (sd_methF c h_Wish_leans (by decide) sd_var (sda_cons sd_str sda_nil)) (sd_lst (sda_cons sd_str sda_nil)) (by rfl)) (sdb_or (sd_cmp (op_neO c.hu64) (sd_methF c h_Wish_leans (by decide) sd_var (sda_cons sd_str sda_nil)) (sd_lstC sda_nil) (by rfl)) (sdb_or1 (sd_cmp (op_neO c.hu64) (sd_methF0 c h_Plan_deeds (by decide) sd_var) sd_var (by rfl))))))) (ss_one (ss_ret sd_bl)) ss_nil)
 (ss_cons (ss_if (sd_bool (sdb_or (sd_cmp (op_neO c.hu64) (sd_methF0 c h_Plan_drift (by decide) sd_var) (sd_lstC sda_nil) (by rfl)) (sdb_or (sd_cmp op_isNotF2 (sd_callF c h_allowed (by decide) (sda_cons sd_var (sda_cons sd_var (sda_cons sd_var sda_nil)))) sd_bl (by rfl)) (sdb_or1 (sd_cmp (op_neO c.hu64) sd_var (sd_lst (sda_cons (sd_tup (sda_cons sd_str (sda_cons sd_str sda_nil))) (sda_cons (sd_tup (sda_cons sd_str (sda_cons sd_str sda_nil))) sda_nil))) (by rfl)))))) (ss_one (ss_ret sd_bl)) ss_nil)
 (ss_cons (ss_expr (sd_clrL (sd_methF0 c h_Wish_names (by decide) sd_var)))
 (ss_cons (ss_expr (sd_clrL (sd_methF c h_Wish_leans (by decide) sd_var (sda_cons sd_str sda_nil))))
 (ss_cons (ss_expr (sd_clrL (sd_methF0 c h_Plan_deeds (by decide) sd_var)))
 (ss_one (ss_expr (sd_append (sd_methF0 c h_Plan_drift (by decide) sd_var) sd_int)))))))))
 (ss_cons (ss_if (sd_bool (sdb_or (sd_cmp (op_neO c.hu64) (sd_methK c hk_Keeper_apply (by decide) sd_var (sda_cons sd_var sda_nil) (sdk_cons sd_str sdk_nil)) sd_int (by rfl)) (sdb_or1 (sd_cmp (op_neO c.hu64) (sd_methF c h_Land_fields (by decide) sd_var (sda_cons sd_int sda_nil)) (sd_dspC (sdp_cons sd_str sd_var (sdp_cons sd_str sd_int sdp_nil))) (by rfl))))) (ss_one (ss_ret sd_bl)) ss_nil)
 (ss_cons (ss_for c.ow c.calm (pi_rng1 rfl fx.f_range (sda_cons sd_int sda_nil)) (sg_n c.nd) (ss_cons (ss_if (sd_bool (sdb_or (sd_cmp (op_neO c.hu64) (sd_methF0 c h_Keeper_known (by decide) sd_var) (sd_dsp (sdp_cons sd_str sd_int (sdp_cons sd_str sd_int sdp_nil))) (by rfl)) (sdb_or1 (sd_cmp (op_neO c.hu64) (sd_methF c h_Land_fields (by decide) sd_var (sda_cons sd_int sda_nil)) (sd_dsp (sdp_cons sd_str sd_int (sdp_cons sd_str sd_int sdp_nil))) (by rfl))))) (ss_one (ss_ret sd_bl)) ss_nil)
 (ss_one (ss_expr (sd_clrD (sd_methF0 c h_Keeper_known (by decide) sd_var))))))
 (ss_one (ss_ret (sd_cmp (op_eqO c.hu64) (sd_methF0 c h_Plan_deeds (by decide) (sd_methF c h_Keeper_plan (by decide) sd_var (sda_cons sd_var sda_nil))) (sd_lstC sda_nil) (by rfl))))))))))))))))
abbrev s_law : Stmt := top 51
theorem sc_law : FnScope N_law ["_law_script"] (defScope s_law) := ⟨rfl, rfl, rfl, by decide +kernel, rfl, by decide +kernel, by decide +kernel⟩
set_option maxRecDepth 100000 in
theorem ok_law (fx : Fx ca K mg) (F : FunD K "law" "law" (defArgs s_law) (defBody s_law) (defScope s_law) [] [] f fd) (h__law_number : CalF ca P w K mg base 2 "_law_number" m__law_number []) (h__law_land_right : CalG ca P w K mg base 6 "_law_land_right" (symFn m__law_land_right)) (h__law_wish_right : CalF ca P w K mg base 9 "_law_wish_right" (symFn m__law_wish_right) []) : M3N.FnG P w K mg base (L2.CX P w) 10 f fd ["_law_script"] (spM ca m_law) :=
  fn_okG fx.hK F sc_law rfl fun cdv A outer s H E cg => have ct := cg.toCOT; have c := ct.toCO; (ss_cons (ss_for c.ow c.calm (pi_any c.hK (sd_bin op_addF (sd_lst (sda_cons sd_int sda_nil)) (sd_slice c.hK sd_var sp_no (sp_so sd_int)))) (sg_n c.nd) (ss_cons (ss_asgN (sd_callF c h__law_number (by decide) (sda_cons sd_var (sda_cons sd_int (sda_cons sd_int sda_nil)))) c.nd)
 (ss_one (ss_if (sd_bool (sdb_or (sd_not (sd_callG c cg.gd h__law_land_right (by decide) (sda_cons sd_var sda_nil))) (sdb_or1 (sd_not (sd_callF c h__law_wish_right (by decide) (sda_cons sd_var sda_nil)))))) (ss_one (ss_ret sd_bl)) ss_nil))))
 (ss_one (ss_ret sd_bl)))
end
end K8
/-! The head, printed by gen.py. -/
namespace K8
open PySem L2 M3
def cnm : List Str := ["LandError", "BadKinds", "BadKind", "BadFields", "BadKey", "BadFails", "NoThing", "BadName", "Locked", "Stale", "Failed", "BadWish", "Ring", "Stopped", "Thing", "Land", "Known", "Look", "Plan", "Keeper", "Wish"]
abbrev caOf (K : PySem.W.Frag) (y : Nat → Int) (hy : ∀ k, 0 ≤ y k ∧ y k < 10 ^ 10) : CAK := ⟨fun c => He.ga K (cnm.getD c Str.empty), K, y, hy⟩
abbrev d_is_whole : He.DefD := ⟨("is_whole", none), "is_whole", "is_whole", defArgs s_is_whole, defBody s_is_whole, defScope s_is_whole, [], []⟩
abbrev d_is_name : He.DefD := ⟨("is_name", none), "is_name", "is_name", defArgs s_is_name, defBody s_is_name, defScope s_is_name, [], []⟩
abbrev d_are_unlike_names : He.DefD := ⟨("are_unlike_names", none), "are_unlike_names", "are_unlike_names", defArgs s_are_unlike_names, defBody s_are_unlike_names, defScope s_are_unlike_names, [], []⟩
abbrev d_is_kind : He.DefD := ⟨("is_kind", none), "is_kind", "is_kind", defArgs s_is_kind, defBody s_is_kind, defScope s_is_kind, [], []⟩
abbrev d_Thing_init : He.DefD := ⟨("Thing", some "__init__"), "__init__", "Thing.__init__", defArgs s_Thing_init, defBody s_Thing_init, defScope s_Thing_init, [], []⟩
abbrev d_Land_init : He.DefD := ⟨("Land", some "__init__"), "__init__", "Land.__init__", defArgs s_Land_init, defBody s_Land_init, defScope s_Land_init, [], []⟩
abbrev d_Land_check_kind : He.DefD := ⟨("Land", some "check_kind"), "check_kind", "Land.check_kind", defArgs s_Land_check_kind, defBody s_Land_check_kind, defScope s_Land_check_kind, [], []⟩
abbrev d_Land_thing_of : He.DefD := ⟨("Land", some "thing_of"), "thing_of", "Land.thing_of", defArgs s_Land_thing_of, defBody s_Land_thing_of, defScope s_Land_thing_of, [], []⟩
abbrev d_Land_next_word : He.DefD := ⟨("Land", some "next_word"), "next_word", "Land.next_word", defArgs s_Land_next_word, defBody s_Land_next_word, defScope s_Land_next_word, [], []⟩
abbrev d_Land_ended : He.DefD := ⟨("Land", some "ended"), "ended", "Land.ended", defArgs s_Land_ended, defBody s_Land_ended, defScope s_Land_ended, [], []⟩
abbrev d_Land_make : He.DefD := ⟨("Land", some "make"), "make", "Land.make", defArgs s_Land_make, defBody s_Land_make, defScope s_Land_make, [], [("key", .non)]⟩
abbrev d_Land_change : He.DefD := ⟨("Land", some "change"), "change", "Land.change", defArgs s_Land_change, defBody s_Land_change, defScope s_Land_change, [], []⟩
abbrev d_Land_take : He.DefD := ⟨("Land", some "take"), "take", "Land.take", defArgs s_Land_take, defBody s_Land_take, defScope s_Land_take, [], []⟩
abbrev d_Land_fails : He.DefD := ⟨("Land", some "fails"), "fails", "Land.fails", defArgs s_Land_fails, defBody s_Land_fails, defScope s_Land_fails, [], []⟩
abbrev d_Land_ids : He.DefD := ⟨("Land", some "ids"), "ids", "Land.ids", defArgs s_Land_ids, defBody s_Land_ids, defScope s_Land_ids, [], []⟩
abbrev d_Land_kind : He.DefD := ⟨("Land", some "kind"), "kind", "Land.kind", defArgs s_Land_kind, defBody s_Land_kind, defScope s_Land_kind, [], []⟩
abbrev d_Land_fields : He.DefD := ⟨("Land", some "fields"), "fields", "Land.fields", defArgs s_Land_fields, defBody s_Land_fields, defScope s_Land_fields, [], []⟩
abbrev d_Land_touched : He.DefD := ⟨("Land", some "touched"), "touched", "Land.touched", defArgs s_Land_touched, defBody s_Land_touched, defScope s_Land_touched, [], []⟩
abbrev d_Land_made_by : He.DefD := ⟨("Land", some "made_by"), "made_by", "Land.made_by", defArgs s_Land_made_by, defBody s_Land_made_by, defScope s_Land_made_by, [], []⟩
abbrev d_Known_init : He.DefD := ⟨("Known", some "__init__"), "__init__", "Known.__init__", defArgs s_Known_init, defBody s_Known_init, defScope s_Known_init, [], []⟩
abbrev d_found_in : He.DefD := ⟨("found_in", none), "found_in", "found_in", defArgs s_found_in, defBody s_found_in, defScope s_found_in, [], []⟩
abbrev d_check_wish : He.DefD := ⟨("check_wish", none), "check_wish", "check_wish", defArgs s_check_wish, defBody s_check_wish, defScope s_check_wish, [], []⟩
abbrev d_spoken_of : He.DefD := ⟨("spoken_of", none), "spoken_of", "spoken_of", defArgs s_spoken_of, defBody s_spoken_of, defScope s_spoken_of, [], []⟩
abbrev d_Wish_leaned_on : He.DefD := ⟨("Wish", some "leaned_on"), "leaned_on", "Wish.leaned_on", defArgs s_Wish_leaned_on, defBody s_Wish_leaned_on, defScope s_Wish_leaned_on, [], []⟩
abbrev d_Wish_in_turn : He.DefD := ⟨("Wish", some "in_turn"), "in_turn", "Wish.in_turn", defArgs s_Wish_in_turn, defBody s_Wish_in_turn, defScope s_Wish_in_turn, [], []⟩
abbrev d_Look_id_of : He.DefD := ⟨("Look", some "id_of"), "id_of", "Look.id_of", defArgs s_Look_id_of, defBody s_Look_id_of, defScope s_Look_id_of, [], []⟩
abbrev d_Look_wished_number : He.DefD := ⟨("Look", some "wished_number"), "wished_number", "Look.wished_number", defArgs s_Look_wished_number, defBody s_Look_wished_number, defScope s_Look_wished_number, [], []⟩
abbrev d_Look_due_of : He.DefD := ⟨("Look", some "due_of"), "due_of", "Look.due_of", defArgs s_Look_due_of, defBody s_Look_due_of, defScope s_Look_due_of, [], []⟩
abbrev d_Look_init : He.DefD := ⟨("Look", some "__init__"), "__init__", "Look.__init__", defArgs s_Look_init, defBody s_Look_init, defScope s_Look_init, [], []⟩
abbrev d_Look_takes : He.DefD := ⟨("Look", some "takes"), "takes", "Look.takes", defArgs s_Look_takes, defBody s_Look_takes, defScope s_Look_takes, [], []⟩
abbrev d_Look_leaned_by : He.DefD := ⟨("Look", some "leaned_by"), "leaned_by", "Look.leaned_by", defArgs s_Look_leaned_by, defBody s_Look_leaned_by, defScope s_Look_leaned_by, [], []⟩
abbrev d_Look_deeds : He.DefD := ⟨("Look", some "deeds"), "deeds", "Look.deeds", defArgs s_Look_deeds, defBody s_Look_deeds, defScope s_Look_deeds, [], []⟩
abbrev d_Look_ahead : He.DefD := ⟨("Look", some "ahead"), "ahead", "Look.ahead", defArgs s_Look_ahead, defBody s_Look_ahead, defScope s_Look_ahead, [], []⟩
abbrev d_Look_drift : He.DefD := ⟨("Look", some "drift"), "drift", "Look.drift", defArgs s_Look_drift, defBody s_Look_drift, defScope s_Look_drift, [], []⟩
abbrev d_allowed : He.DefD := ⟨("allowed", none), "allowed", "allowed", defArgs s_allowed, defBody s_allowed, defScope s_allowed, [], []⟩
abbrev d_Plan_init : He.DefD := ⟨("Plan", some "__init__"), "__init__", "Plan.__init__", defArgs s_Plan_init, defBody s_Plan_init, defScope s_Plan_init, [], []⟩
abbrev d_Plan_deeds : He.DefD := ⟨("Plan", some "deeds"), "deeds", "Plan.deeds", defArgs s_Plan_deeds, defBody s_Plan_deeds, defScope s_Plan_deeds, [], []⟩
abbrev d_Plan_drift : He.DefD := ⟨("Plan", some "drift"), "drift", "Plan.drift", defArgs s_Plan_drift, defBody s_Plan_drift, defScope s_Plan_drift, [], []⟩
abbrev d_Keeper_init : He.DefD := ⟨("Keeper", some "__init__"), "__init__", "Keeper.__init__", defArgs s_Keeper_init, defBody s_Keeper_init, defScope s_Keeper_init, [], [("mark", .str "k")]⟩
abbrev d_Keeper_plan : He.DefD := ⟨("Keeper", some "plan"), "plan", "Keeper.plan", defArgs s_Keeper_plan, defBody s_Keeper_plan, defScope s_Keeper_plan, [], []⟩
abbrev d_Keeper_lock : He.DefD := ⟨("Keeper", some "lock"), "lock", "Keeper.lock", defArgs s_Keeper_lock, defBody s_Keeper_lock, defScope s_Keeper_lock, [], []⟩
abbrev d_Keeper_check_hand : He.DefD := ⟨("Keeper", some "check_hand"), "check_hand", "Keeper.check_hand", defArgs s_Keeper_check_hand, defBody s_Keeper_check_hand, defScope s_Keeper_check_hand, [], []⟩
abbrev d_Keeper_know_look : He.DefD := ⟨("Keeper", some "know_look"), "know_look", "Keeper.know_look", defArgs s_Keeper_know_look, defBody s_Keeper_know_look, defScope s_Keeper_know_look, [], []⟩
abbrev d_Keeper_number_for : He.DefD := ⟨("Keeper", some "number_for"), "number_for", "Keeper.number_for", defArgs s_Keeper_number_for, defBody s_Keeper_number_for, defScope s_Keeper_number_for, [], []⟩
abbrev d_Keeper_numbers_for : He.DefD := ⟨("Keeper", some "numbers_for"), "numbers_for", "Keeper.numbers_for", defArgs s_Keeper_numbers_for, defBody s_Keeper_numbers_for, defScope s_Keeper_numbers_for, [], []⟩
abbrev d_Keeper_make : He.DefD := ⟨("Keeper", some "make"), "make", "Keeper.make", defArgs s_Keeper_make, defBody s_Keeper_make, defScope s_Keeper_make, [], []⟩
abbrev d_Keeper_change : He.DefD := ⟨("Keeper", some "change"), "change", "Keeper.change", defArgs s_Keeper_change, defBody s_Keeper_change, defScope s_Keeper_change, [], []⟩
abbrev d_Keeper_take : He.DefD := ⟨("Keeper", some "take"), "take", "Keeper.take", defArgs s_Keeper_take, defBody s_Keeper_take, defScope s_Keeper_take, [], []⟩
abbrev d_Keeper_apply : He.DefD := ⟨("Keeper", some "apply"), "apply", "Keeper.apply", defArgs s_Keeper_apply, defBody s_Keeper_apply, defScope s_Keeper_apply, [], []⟩
abbrev d_Keeper_known : He.DefD := ⟨("Keeper", some "known"), "known", "Keeper.known", defArgs s_Keeper_known, defBody s_Keeper_known, defScope s_Keeper_known, [], []⟩
abbrev d_is_wished : He.DefD := ⟨("is_wished", none), "is_wished", "is_wished", defArgs s_is_wished, defBody s_is_wished, defScope s_is_wished, [], []⟩
abbrev d_has_form : He.DefD := ⟨("has_form", none), "has_form", "has_form", defArgs s_has_form, defBody s_has_form, defScope s_has_form, [], []⟩
abbrev d_first_wrong : He.DefD := ⟨("first_wrong", none), "first_wrong", "first_wrong", defArgs s_first_wrong, defBody s_first_wrong, defScope s_first_wrong, [], []⟩
abbrev d_Wish_check_rings : He.DefD := ⟨("Wish", some "check_rings"), "check_rings", "Wish.check_rings", defArgs s_Wish_check_rings, defBody s_Wish_check_rings, defScope s_Wish_check_rings, [], []⟩
abbrev d_Wish_init : He.DefD := ⟨("Wish", some "__init__"), "__init__", "Wish.__init__", defArgs s_Wish_init, defBody s_Wish_init, defScope s_Wish_init, [], []⟩
abbrev d_Wish_names : He.DefD := ⟨("Wish", some "names"), "names", "Wish.names", defArgs s_Wish_names, defBody s_Wish_names, defScope s_Wish_names, [], []⟩
abbrev d_Wish_leans : He.DefD := ⟨("Wish", some "leans"), "leans", "Wish.leans", defArgs s_Wish_leans, defBody s_Wish_leans, defScope s_Wish_leans, [], []⟩
abbrev d__law_cell_at : He.DefD := ⟨("_law_cell_at", none), "_law_cell_at", "_law_cell_at", defArgs s__law_cell_at, defBody s__law_cell_at, defScope s__law_cell_at, [], []⟩
abbrev d__law_draw : He.DefD := ⟨("_law_draw", none), "_law_draw", "_law_draw", defArgs s__law_draw, defBody s__law_draw, defScope s__law_draw, [], []⟩
abbrev d__law_number : He.DefD := ⟨("_law_number", none), "_law_number", "_law_number", defArgs s__law_number, defBody s__law_number, defScope s__law_number, [], []⟩
abbrev d__law_land_right : He.DefD := ⟨("_law_land_right", none), "_law_land_right", "_law_land_right", defArgs s__law_land_right, defBody s__law_land_right, defScope s__law_land_right, [], []⟩
abbrev d__law_wish_right : He.DefD := ⟨("_law_wish_right", none), "_law_wish_right", "_law_wish_right", defArgs s__law_wish_right, defBody s__law_wish_right, defScope s__law_wish_right, [], []⟩
abbrev d_law : He.DefD := ⟨("law", none), "law", "law", defArgs s_law, defBody s_law, defScope s_law, [], []⟩
def fnL : List He.DefD := [d_is_whole, d_is_name, d_are_unlike_names, d_is_kind, d_Thing_init, d_Land_init, d_Land_check_kind, d_Land_thing_of, d_Land_next_word, d_Land_ended, d_Land_make, d_Land_change, d_Land_take, d_Land_fails, d_Land_ids, d_Land_kind, d_Land_fields, d_Land_touched, d_Land_made_by, d_Known_init, d_found_in, d_check_wish, d_spoken_of, d_Wish_leaned_on, d_Wish_in_turn, d_Look_id_of, d_Look_wished_number, d_Look_due_of, d_Look_init, d_Look_takes, d_Look_leaned_by, d_Look_deeds, d_Look_ahead, d_Look_drift, d_allowed, d_Plan_init, d_Plan_deeds, d_Plan_drift, d_Keeper_init, d_Keeper_plan, d_Keeper_lock, d_Keeper_check_hand, d_Keeper_know_look, d_Keeper_number_for, d_Keeper_numbers_for, d_Keeper_make, d_Keeper_change, d_Keeper_take, d_Keeper_apply, d_Keeper_known, d_is_wished, d_has_form, d_first_wrong, d_Wish_check_rings, d_Wish_init, d_Wish_names, d_Wish_leans, d__law_cell_at, d__law_draw, d__law_number, d__law_land_right, d__law_wish_right, d_law]
def faL0 : List He.Fa := [.free "isinstance", .free "int", .free "bool", .free "str", .free "len", .str "LETTERS" "abcdefghijklmnopqrstuvwxyz", .free "all", .free "list", .free "tuple", .int "MOST_FIELDS" 5, .str "ID" "id", .cls "Known", .noat "Known" "number", .cls "Thing", .noat "Thing" "number", .noat "Known" "sort_of", .noat "Thing" "sort_of", .free "dict", .noat "Known" "numbers", .noat "Thing" "numbers", .noat "Known" "key", .noat "Thing" "key", .noat "Thing" "times", .int "MOST_KINDS" 5, .cls "Land", .noat "Land" "kinds_there", .noat "Land" "things", .noat "Land" "made_so_far", .noat "Land" "deeds_done", .noat "Land" "failing"]
def faL1 : List He.Fa := [.noat "Land" "asked", .free "sorted", .noat "Known" "leaned", .cls "Wish", .noat "Wish" "rows", .cls "Plan", .noat "Plan" "rows", .noat "Wish" "table", .cls "Keeper", .noat "Keeper" "table", .cls "Look", .noat "Look" "table", .noat "Keeper" "land", .noat "Look" "land", .noat "Look" "wish", .noat "Look" "found", .noat "Look" "due", .free "any", .free "enumerate", .noat "Plan" "look", .noat "Plan" "land_done", .noat "Plan" "keeper_done", .noat "Plan" "changed", .noat "Keeper" "mark", .noat "Keeper" "keys_so_far", .noat "Keeper" "done_so_far", .noat "Keeper" "hand_now", .int "MOST_WISHED" 12, .free "range", .glo "law"]
def faL2 : List He.Fa := [.glo "is_whole", .glo "is_name", .glo "are_unlike_names", .glo "is_kind", .glo "Thing", .mkr "Thing", .glo "Land", .mkr "Land", .meth "Land" "check_kind", .meth "Land" "thing_of", .meth "Land" "next_word", .meth "Land" "ended", .meth "Land" "make", .meth "Land" "change", .meth "Land" "take", .meth "Land" "fails", .meth "Land" "ids", .meth "Land" "kind", .meth "Land" "fields", .meth "Land" "touched", .meth "Land" "made_by", .glo "Known", .mkr "Known", .glo "found_in", .glo "check_wish", .glo "spoken_of", .meth "Wish" "leaned_on", .meth "Wish" "in_turn", .meth "Look" "id_of", .meth "Look" "wished_number"]
def faL3 : List He.Fa := [.meth "Look" "due_of", .glo "Look", .mkr "Look", .meth "Look" "takes", .meth "Look" "leaned_by", .meth "Look" "deeds", .meth "Look" "ahead", .meth "Look" "drift", .glo "allowed", .glo "Plan", .mkr "Plan", .meth "Plan" "deeds", .meth "Plan" "drift", .glo "Keeper", .mkr "Keeper", .meth "Keeper" "plan", .meth "Keeper" "lock", .meth "Keeper" "check_hand", .meth "Keeper" "know_look", .meth "Keeper" "number_for", .meth "Keeper" "numbers_for", .meth "Keeper" "make", .meth "Keeper" "change", .meth "Keeper" "take", .meth "Keeper" "apply", .meth "Keeper" "known", .glo "is_wished", .glo "has_form", .glo "first_wrong", .meth "Wish" "check_rings"]
def faL4 : List He.Fa := [.glo "Wish", .mkr "Wish", .meth "Wish" "names", .meth "Wish" "leans", .glo "_law_draw", .glo "_law_number", .glo "_law_land_right", .glo "_law_wish_right"]
def faL : List He.Fa := faL0 ++ faL1 ++ faL2 ++ faL3 ++ faL4
section
variable {P : Program} {w : World} {K : PySem.W.Frag} {h : Heap} {mg : Str → Option Value}
theorem fx_of {y : Nat → Int} {hy : ∀ k, 0 ≤ y k ∧ y k < 10 ^ 10} (X : K.In h) (G : h.Ns mainGlobals mg) (c : He.SaysD faL fnL K) : Fx (caOf K y hy) K mg where
  hK := rfl
  f_isinstance := He.free_ok X G (c.fact 0 (f := .free "isinstance") rfl)
  f_int := He.free_ok X G (c.fact 1 (f := .free "int") rfl)
  f_bool := He.free_ok X G (c.fact 2 (f := .free "bool") rfl)
  f_str := He.free_ok X G (c.fact 3 (f := .free "str") rfl)
  f_len := He.free_ok X G (c.fact 4 (f := .free "len") rfl)
  k_LETTERS := He.str_ok X G (c.fact 5 (f := .str "LETTERS" "abcdefghijklmnopqrstuvwxyz") rfl)
  f_all := He.free_ok X G (c.fact 6 (f := .free "all") rfl)
  f_list := He.free_ok X G (c.fact 7 (f := .free "list") rfl)
  f_tuple := He.free_ok X G (c.fact 8 (f := .free "tuple") rfl)
  k_MOST_FIELDS := He.int_ok X G (c.fact 9 (f := .int "MOST_FIELDS" 5) rfl)
  k_ID := He.str_ok X G (c.fact 10 (f := .str "ID" "id") rfl)
  c_Known := He.cls_ok (c.fact 11 (f := .cls "Known") rfl)
  n_Known_number := He.noat_ok (c.fact 12 (f := .noat "Known" "number") rfl)
  c_Thing := He.cls_ok (c.fact 13 (f := .cls "Thing") rfl)
  n_Thing_number := He.noat_ok (c.fact 14 (f := .noat "Thing" "number") rfl)
  n_Known_sort_of := He.noat_ok (c.fact 15 (f := .noat "Known" "sort_of") rfl)
  n_Thing_sort_of := He.noat_ok (c.fact 16 (f := .noat "Thing" "sort_of") rfl)
  f_dict := He.free_ok X G (c.fact 17 (f := .free "dict") rfl)
  n_Known_numbers := He.noat_ok (c.fact 18 (f := .noat "Known" "numbers") rfl)
  n_Thing_numbers := He.noat_ok (c.fact 19 (f := .noat "Thing" "numbers") rfl)
  n_Known_key := He.noat_ok (c.fact 20 (f := .noat "Known" "key") rfl)
  n_Thing_key := He.noat_ok (c.fact 21 (f := .noat "Thing" "key") rfl)
  n_Thing_times := He.noat_ok (c.fact 22 (f := .noat "Thing" "times") rfl)
  k_MOST_KINDS := He.int_ok X G (c.fact 23 (f := .int "MOST_KINDS" 5) rfl)
  c_Land := He.cls_ok (c.fact 24 (f := .cls "Land") rfl)
  n_Land_kinds_there := He.noat_ok (c.fact 25 (f := .noat "Land" "kinds_there") rfl)
  n_Land_things := He.noat_ok (c.fact 26 (f := .noat "Land" "things") rfl)
  n_Land_made_so_far := He.noat_ok (c.fact 27 (f := .noat "Land" "made_so_far") rfl)
  n_Land_deeds_done := He.noat_ok (c.fact 28 (f := .noat "Land" "deeds_done") rfl)
  n_Land_failing := He.noat_ok (c.fact 29 (f := .noat "Land" "failing") rfl)
  n_Land_asked := He.noat_ok (c.fact 30 (f := .noat "Land" "asked") rfl)
  f_sorted := He.free_ok X G (c.fact 31 (f := .free "sorted") rfl)
  n_Known_leaned := He.noat_ok (c.fact 32 (f := .noat "Known" "leaned") rfl)
  c_Wish := He.cls_ok (c.fact 33 (f := .cls "Wish") rfl)
  n_Wish_rows := He.noat_ok (c.fact 34 (f := .noat "Wish" "rows") rfl)
  c_Plan := He.cls_ok (c.fact 35 (f := .cls "Plan") rfl)
  n_Plan_rows := He.noat_ok (c.fact 36 (f := .noat "Plan" "rows") rfl)
  n_Wish_table := He.noat_ok (c.fact 37 (f := .noat "Wish" "table") rfl)
  c_Keeper := He.cls_ok (c.fact 38 (f := .cls "Keeper") rfl)
  n_Keeper_table := He.noat_ok (c.fact 39 (f := .noat "Keeper" "table") rfl)
  c_Look := He.cls_ok (c.fact 40 (f := .cls "Look") rfl)
  n_Look_table := He.noat_ok (c.fact 41 (f := .noat "Look" "table") rfl)
  n_Keeper_land := He.noat_ok (c.fact 42 (f := .noat "Keeper" "land") rfl)
  n_Look_land := He.noat_ok (c.fact 43 (f := .noat "Look" "land") rfl)
  n_Look_wish := He.noat_ok (c.fact 44 (f := .noat "Look" "wish") rfl)
  n_Look_found := He.noat_ok (c.fact 45 (f := .noat "Look" "found") rfl)
  n_Look_due := He.noat_ok (c.fact 46 (f := .noat "Look" "due") rfl)
  f_any := He.free_ok X G (c.fact 47 (f := .free "any") rfl)
  f_enumerate := He.free_ok X G (c.fact 48 (f := .free "enumerate") rfl)
  n_Plan_look := He.noat_ok (c.fact 49 (f := .noat "Plan" "look") rfl)
  n_Plan_land_done := He.noat_ok (c.fact 50 (f := .noat "Plan" "land_done") rfl)
  n_Plan_keeper_done := He.noat_ok (c.fact 51 (f := .noat "Plan" "keeper_done") rfl)
  n_Plan_changed := He.noat_ok (c.fact 52 (f := .noat "Plan" "changed") rfl)
  n_Keeper_mark := He.noat_ok (c.fact 53 (f := .noat "Keeper" "mark") rfl)
  n_Keeper_keys_so_far := He.noat_ok (c.fact 54 (f := .noat "Keeper" "keys_so_far") rfl)
  n_Keeper_done_so_far := He.noat_ok (c.fact 55 (f := .noat "Keeper" "done_so_far") rfl)
  n_Keeper_hand_now := He.noat_ok (c.fact 56 (f := .noat "Keeper" "hand_now") rfl)
  k_MOST_WISHED := He.int_ok X G (c.fact 57 (f := .int "MOST_WISHED" 12) rfl)
  f_range := He.free_ok X G (c.fact 58 (f := .free "range") rfl)
theorem law_ok {y : Nat → Int} {hy : ∀ k, 0 ≤ y k ∧ y k < 10 ^ 10} (X : K.In h) (G : h.Ns mainGlobals mg) (c : He.SaysD faL fnL K) {f0 : Addr} (hfa : mg ("law" : Str) = some (.ref f0)) :
    ∃ fd : FuncData, (∀ (s : Shared) (v : Value), BindsTo s fd ⟨[v], []⟩ [("_law_script", v)]) ∧ ∀ base : Heap, K.In base → base.Ns mainGlobals mg → M3N.FnG P w K mg base (L2.CX P w) 10 f0 fd ["_law_script"] (spM (caOf K y hy) m_law) := by
  obtain ⟨fd_is_whole, F_is_whole⟩ := c.def_ 0 (d := d_is_whole) rfl
  obtain ⟨fd_is_name, F_is_name⟩ := c.def_ 1 (d := d_is_name) rfl
  obtain ⟨fd_are_unlike_names, F_are_unlike_names⟩ := c.def_ 2 (d := d_are_unlike_names) rfl
  obtain ⟨fd_is_kind, F_is_kind⟩ := c.def_ 3 (d := d_is_kind) rfl
  obtain ⟨fd_Thing_init, F_Thing_init⟩ := c.def_ 4 (d := d_Thing_init) rfl
  obtain ⟨fd_Land_init, F_Land_init⟩ := c.def_ 5 (d := d_Land_init) rfl
  obtain ⟨fd_Land_check_kind, F_Land_check_kind⟩ := c.def_ 6 (d := d_Land_check_kind) rfl
  obtain ⟨fd_Land_thing_of, F_Land_thing_of⟩ := c.def_ 7 (d := d_Land_thing_of) rfl
  obtain ⟨fd_Land_next_word, F_Land_next_word⟩ := c.def_ 8 (d := d_Land_next_word) rfl
  obtain ⟨fd_Land_ended, F_Land_ended⟩ := c.def_ 9 (d := d_Land_ended) rfl
  obtain ⟨fd_Land_make, F_Land_make⟩ := c.def_ 10 (d := d_Land_make) rfl
  obtain ⟨fd_Land_change, F_Land_change⟩ := c.def_ 11 (d := d_Land_change) rfl
  obtain ⟨fd_Land_take, F_Land_take⟩ := c.def_ 12 (d := d_Land_take) rfl
  obtain ⟨fd_Land_fails, F_Land_fails⟩ := c.def_ 13 (d := d_Land_fails) rfl
  obtain ⟨fd_Land_ids, F_Land_ids⟩ := c.def_ 14 (d := d_Land_ids) rfl
  obtain ⟨fd_Land_kind, F_Land_kind⟩ := c.def_ 15 (d := d_Land_kind) rfl
  obtain ⟨fd_Land_fields, F_Land_fields⟩ := c.def_ 16 (d := d_Land_fields) rfl
  obtain ⟨fd_Land_touched, F_Land_touched⟩ := c.def_ 17 (d := d_Land_touched) rfl
  obtain ⟨fd_Land_made_by, F_Land_made_by⟩ := c.def_ 18 (d := d_Land_made_by) rfl
  obtain ⟨fd_Known_init, F_Known_init⟩ := c.def_ 19 (d := d_Known_init) rfl
  obtain ⟨fd_found_in, F_found_in⟩ := c.def_ 20 (d := d_found_in) rfl
  obtain ⟨fd_check_wish, F_check_wish⟩ := c.def_ 21 (d := d_check_wish) rfl
  obtain ⟨fd_spoken_of, F_spoken_of⟩ := c.def_ 22 (d := d_spoken_of) rfl
  obtain ⟨fd_Wish_leaned_on, F_Wish_leaned_on⟩ := c.def_ 23 (d := d_Wish_leaned_on) rfl
  obtain ⟨fd_Wish_in_turn, F_Wish_in_turn⟩ := c.def_ 24 (d := d_Wish_in_turn) rfl
  obtain ⟨fd_Look_id_of, F_Look_id_of⟩ := c.def_ 25 (d := d_Look_id_of) rfl
  obtain ⟨fd_Look_wished_number, F_Look_wished_number⟩ := c.def_ 26 (d := d_Look_wished_number) rfl
  obtain ⟨fd_Look_due_of, F_Look_due_of⟩ := c.def_ 27 (d := d_Look_due_of) rfl
  obtain ⟨fd_Look_init, F_Look_init⟩ := c.def_ 28 (d := d_Look_init) rfl
  obtain ⟨fd_Look_takes, F_Look_takes⟩ := c.def_ 29 (d := d_Look_takes) rfl
  obtain ⟨fd_Look_leaned_by, F_Look_leaned_by⟩ := c.def_ 30 (d := d_Look_leaned_by) rfl
  obtain ⟨fd_Look_deeds, F_Look_deeds⟩ := c.def_ 31 (d := d_Look_deeds) rfl
  obtain ⟨fd_Look_ahead, F_Look_ahead⟩ := c.def_ 32 (d := d_Look_ahead) rfl
  obtain ⟨fd_Look_drift, F_Look_drift⟩ := c.def_ 33 (d := d_Look_drift) rfl
  obtain ⟨fd_allowed, F_allowed⟩ := c.def_ 34 (d := d_allowed) rfl
  obtain ⟨fd_Plan_init, F_Plan_init⟩ := c.def_ 35 (d := d_Plan_init) rfl
  obtain ⟨fd_Plan_deeds, F_Plan_deeds⟩ := c.def_ 36 (d := d_Plan_deeds) rfl
  obtain ⟨fd_Plan_drift, F_Plan_drift⟩ := c.def_ 37 (d := d_Plan_drift) rfl
  obtain ⟨fd_Keeper_init, F_Keeper_init⟩ := c.def_ 38 (d := d_Keeper_init) rfl
  obtain ⟨fd_Keeper_plan, F_Keeper_plan⟩ := c.def_ 39 (d := d_Keeper_plan) rfl
  obtain ⟨fd_Keeper_lock, F_Keeper_lock⟩ := c.def_ 40 (d := d_Keeper_lock) rfl
  obtain ⟨fd_Keeper_check_hand, F_Keeper_check_hand⟩ := c.def_ 41 (d := d_Keeper_check_hand) rfl
  obtain ⟨fd_Keeper_know_look, F_Keeper_know_look⟩ := c.def_ 42 (d := d_Keeper_know_look) rfl
  obtain ⟨fd_Keeper_number_for, F_Keeper_number_for⟩ := c.def_ 43 (d := d_Keeper_number_for) rfl
  obtain ⟨fd_Keeper_numbers_for, F_Keeper_numbers_for⟩ := c.def_ 44 (d := d_Keeper_numbers_for) rfl
  obtain ⟨fd_Keeper_make, F_Keeper_make⟩ := c.def_ 45 (d := d_Keeper_make) rfl
  obtain ⟨fd_Keeper_change, F_Keeper_change⟩ := c.def_ 46 (d := d_Keeper_change) rfl
  obtain ⟨fd_Keeper_take, F_Keeper_take⟩ := c.def_ 47 (d := d_Keeper_take) rfl
  obtain ⟨fd_Keeper_apply, F_Keeper_apply⟩ := c.def_ 48 (d := d_Keeper_apply) rfl
  obtain ⟨fd_Keeper_known, F_Keeper_known⟩ := c.def_ 49 (d := d_Keeper_known) rfl
  obtain ⟨fd_is_wished, F_is_wished⟩ := c.def_ 50 (d := d_is_wished) rfl
  obtain ⟨fd_has_form, F_has_form⟩ := c.def_ 51 (d := d_has_form) rfl
  obtain ⟨fd_first_wrong, F_first_wrong⟩ := c.def_ 52 (d := d_first_wrong) rfl
  obtain ⟨fd_Wish_check_rings, F_Wish_check_rings⟩ := c.def_ 53 (d := d_Wish_check_rings) rfl
  obtain ⟨fd_Wish_init, F_Wish_init⟩ := c.def_ 54 (d := d_Wish_init) rfl
  obtain ⟨fd_Wish_names, F_Wish_names⟩ := c.def_ 55 (d := d_Wish_names) rfl
  obtain ⟨fd_Wish_leans, F_Wish_leans⟩ := c.def_ 56 (d := d_Wish_leans) rfl
  obtain ⟨fd__law_cell_at, F__law_cell_at⟩ := c.def_ 57 (d := d__law_cell_at) rfl
  obtain ⟨fd__law_draw, F__law_draw⟩ := c.def_ 58 (d := d__law_draw) rfl
  obtain ⟨fd__law_number, F__law_number⟩ := c.def_ 59 (d := d__law_number) rfl
  obtain ⟨fd__law_land_right, F__law_land_right⟩ := c.def_ 60 (d := d__law_land_right) rfl
  obtain ⟨fd__law_wish_right, F__law_wish_right⟩ := c.def_ 61 (d := d__law_wish_right) rfl
  obtain ⟨fd_law, F_law⟩ := c.def_ 62 (d := d_law) rfl
  have e := hfa.symm.trans (He.glo_ok X G (c.fact 59 (f := .glo "law") rfl))
  cases e
  refine ⟨fd_law, fun s v => FunD.bindsA (ps := ["_law_script"]) F_law (fun _ _ _ _ _ _ us hl => match us, hl with | [_], _ => rfl) s [v] rfl, fun base _ _ => ?_⟩
  have pre : ∀ (y : Nat → Int) (hy : ∀ k, 0 ≤ y k ∧ y k < 10 ^ 10), M3N.FnG P w K mg base (L2.CX P w) 6 (He.fAd K ("_law_land_right", none)) fd__law_land_right ["_law_number_here"] (spM (caOf K y hy) m__law_land_right) ∧ FnOk P w K mg base (L2.CX P w) 9 (He.fAd K ("_law_wish_right", none)) fd__law_wish_right ["_law_number_here"] (spM (caOf K y hy) m__law_wish_right) := by
    intro y hy
    have fx := fx_of (y := y) (hy := hy) X G c
    have o_is_whole : FnOk P w K mg base (L2.CX P w) 1 (He.fAd K ("is_whole", none)) fd_is_whole ["thing"] (spM (caOf K y hy) m_is_whole) := ok_is_whole fx F_is_whole 
    have h_is_whole : CalF (caOf K y hy) P w K mg base 1 "is_whole" m_is_whole [] := ⟨_, _, _, o_is_whole, He.glo_ok X G (c.fact 60 (f := .glo "is_whole") rfl), F_is_whole.kp, (dfl0 (F_is_whole.bindsN fun _ _ _ _ _ _ us hl => match us, hl with | [_], _ => rfl))⟩
    have o_is_name : FnOk P w K mg base (L2.CX P w) 1 (He.fAd K ("is_name", none)) fd_is_name ["thing"] (spM (caOf K y hy) m_is_name) := ok_is_name fx F_is_name 
    have h_is_name : CalF (caOf K y hy) P w K mg base 1 "is_name" m_is_name [] := ⟨_, _, _, o_is_name, He.glo_ok X G (c.fact 61 (f := .glo "is_name") rfl), F_is_name.kp, (dfl0 (F_is_name.bindsN fun _ _ _ _ _ _ us hl => match us, hl with | [_], _ => rfl))⟩
    have o_are_unlike_names : FnOk P w K mg base (L2.CX P w) 2 (He.fAd K ("are_unlike_names", none)) fd_are_unlike_names ["thing"] (spM (caOf K y hy) m_are_unlike_names) := ok_are_unlike_names fx F_are_unlike_names h_is_name
    have h_are_unlike_names : CalF (caOf K y hy) P w K mg base 2 "are_unlike_names" m_are_unlike_names [] := ⟨_, _, _, o_are_unlike_names, He.glo_ok X G (c.fact 62 (f := .glo "are_unlike_names") rfl), F_are_unlike_names.kp, (dfl0 (F_are_unlike_names.bindsN fun _ _ _ _ _ _ us hl => match us, hl with | [_], _ => rfl))⟩
    have o_is_kind : FnOk P w K mg base (L2.CX P w) 3 (He.fAd K ("is_kind", none)) fd_is_kind ["thing"] (spM (caOf K y hy) m_is_kind) := ok_is_kind fx F_is_kind h_are_unlike_names
    have h_is_kind : CalF (caOf K y hy) P w K mg base 3 "is_kind" m_is_kind [] := ⟨_, _, _, o_is_kind, He.glo_ok X G (c.fact 63 (f := .glo "is_kind") rfl), F_is_kind.kp, (dfl0 (F_is_kind.bindsN fun _ _ _ _ _ _ us hl => match us, hl with | [_], _ => rfl))⟩
    have o_Thing_init : FnOk P w K mg base (L2.CX P w) 1 (He.fAd K ("Thing", some "__init__")) fd_Thing_init ["self", "number", "kind", "numbers", "key"] (spM (caOf K y hy) m_Thing_init) := ok_Thing_init fx F_Thing_init 
    have h_Thing_init : CalC (caOf K y hy) P w K mg base 1 14 "Thing" m_Thing_init [] := ⟨_, _, _, o_Thing_init, He.glo_ok X G (c.fact 64 (f := .glo "Thing") rfl), He.mkr_ok (c.fact 65 (f := .mkr "Thing") rfl), (dfl0 (F_Thing_init.bindsN fun _ _ _ _ _ _ us hl => match us, hl with | [_, _, _, _, _], _ => rfl))⟩
    have o_Land_init : FnOk P w K mg base (L2.CX P w) 4 (He.fAd K ("Land", some "__init__")) fd_Land_init ["self", "kinds"] (spM (caOf K y hy) m_Land_init) := ok_Land_init fx F_Land_init h_is_name h_is_kind
    have h_Land_init : CalC (caOf K y hy) P w K mg base 4 15 "Land" m_Land_init [] := ⟨_, _, _, o_Land_init, He.glo_ok X G (c.fact 66 (f := .glo "Land") rfl), He.mkr_ok (c.fact 67 (f := .mkr "Land") rfl), (dfl0 (F_Land_init.bindsN fun _ _ _ _ _ _ us hl => match us, hl with | [_, _], _ => rfl))⟩
    have o_Land_check_kind : FnOk P w K mg base (L2.CX P w) 1 (He.fAd K ("Land", some "check_kind")) fd_Land_check_kind ["self", "kind"] (spM (caOf K y hy) m_Land_check_kind) := ok_Land_check_kind fx F_Land_check_kind 
    have h_Land_check_kind : CalM (caOf K y hy) P w K mg base 1 15 "check_kind" m_Land_check_kind [] := ⟨_, _, _, o_Land_check_kind, He.cls_ok (c.fact 24 (f := .cls "Land") rfl), He.meth_ok (c.fact 68 (f := .meth "Land" "check_kind") rfl), (dfl0 (F_Land_check_kind.bindsN fun _ _ _ _ _ _ us hl => match us, hl with | [_, _], _ => rfl))⟩
    have o_Land_thing_of : FnOk P w K mg base (L2.CX P w) 2 (He.fAd K ("Land", some "thing_of")) fd_Land_thing_of ["self", "thing"] (spM (caOf K y hy) m_Land_thing_of) := ok_Land_thing_of fx F_Land_thing_of h_is_whole
    have h_Land_thing_of : CalM (caOf K y hy) P w K mg base 2 15 "thing_of" m_Land_thing_of [] := ⟨_, _, _, o_Land_thing_of, He.cls_ok (c.fact 24 (f := .cls "Land") rfl), He.meth_ok (c.fact 69 (f := .meth "Land" "thing_of") rfl), (dfl0 (F_Land_thing_of.bindsN fun _ _ _ _ _ _ us hl => match us, hl with | [_, _], _ => rfl))⟩
    have o_Land_next_word : FnOk P w K mg base (L2.CX P w) 1 (He.fAd K ("Land", some "next_word")) fd_Land_next_word ["self"] (spM (caOf K y hy) m_Land_next_word) := ok_Land_next_word fx F_Land_next_word 
    have h_Land_next_word : CalM (caOf K y hy) P w K mg base 1 15 "next_word" m_Land_next_word [] := ⟨_, _, _, o_Land_next_word, He.cls_ok (c.fact 24 (f := .cls "Land") rfl), He.meth_ok (c.fact 70 (f := .meth "Land" "next_word") rfl), (dfl0 (F_Land_next_word.bindsN fun _ _ _ _ _ _ us hl => match us, hl with | [_], _ => rfl))⟩
    have o_Land_ended : FnOk P w K mg base (L2.CX P w) 1 (He.fAd K ("Land", some "ended")) fd_Land_ended ["self", "word"] (spM (caOf K y hy) m_Land_ended) := ok_Land_ended fx F_Land_ended 
    have h_Land_ended : CalM (caOf K y hy) P w K mg base 1 15 "ended" m_Land_ended [] := ⟨_, _, _, o_Land_ended, He.cls_ok (c.fact 24 (f := .cls "Land") rfl), He.meth_ok (c.fact 71 (f := .meth "Land" "ended") rfl), (dfl0 (F_Land_ended.bindsN fun _ _ _ _ _ _ us hl => match us, hl with | [_, _], _ => rfl))⟩
    have o_Land_make : FnOk P w K mg base (L2.CX P w) 3 (He.fAd K ("Land", some "make")) fd_Land_make ["self", "kind", "fields", "key"] (spM (caOf K y hy) m_Land_make) := ok_Land_make fx F_Land_make h_Land_check_kind h_is_whole h_Land_next_word h_Thing_init h_Land_ended
    have hk_Land_make : CalMK (caOf K y hy) P w K mg base 3 15 "make" m_Land_make 3 ["key"] := ⟨_, _, _, o_Land_make, He.cls_ok (c.fact 24 (f := .cls "Land") rfl), He.meth_ok (c.fact 72 (f := .meth "Land" "make") rfl), (kbn_of F_Land_make fun _ _ _ _ _ _ us ws h1 h2 => match us, ws, h1, h2 with | [_, _, _], [_], _, _ => rfl)⟩
    have o_Land_change : FnOk P w K mg base (L2.CX P w) 3 (He.fAd K ("Land", some "change")) fd_Land_change ["self", "thing", "fields"] (spM (caOf K y hy) m_Land_change) := ok_Land_change fx F_Land_change h_Land_thing_of h_is_whole h_Land_next_word h_Land_ended
    have h_Land_change : CalM (caOf K y hy) P w K mg base 3 15 "change" m_Land_change [] := ⟨_, _, _, o_Land_change, He.cls_ok (c.fact 24 (f := .cls "Land") rfl), He.meth_ok (c.fact 73 (f := .meth "Land" "change") rfl), (dfl0 (F_Land_change.bindsN fun _ _ _ _ _ _ us hl => match us, hl with | [_, _, _], _ => rfl))⟩
    have o_Land_take : FnOk P w K mg base (L2.CX P w) 3 (He.fAd K ("Land", some "take")) fd_Land_take ["self", "thing"] (spM (caOf K y hy) m_Land_take) := ok_Land_take fx F_Land_take h_Land_thing_of h_Land_next_word h_Land_ended
    have h_Land_take : CalM (caOf K y hy) P w K mg base 3 15 "take" m_Land_take [] := ⟨_, _, _, o_Land_take, He.cls_ok (c.fact 24 (f := .cls "Land") rfl), He.meth_ok (c.fact 74 (f := .meth "Land" "take") rfl), (dfl0 (F_Land_take.bindsN fun _ _ _ _ _ _ us hl => match us, hl with | [_, _], _ => rfl))⟩
    have o_Land_fails : FnOk P w K mg base (L2.CX P w) 2 (He.fAd K ("Land", some "fails")) fd_Land_fails ["self", "counts"] (spM (caOf K y hy) m_Land_fails) := ok_Land_fails fx F_Land_fails h_is_whole
    have h_Land_fails : CalM (caOf K y hy) P w K mg base 2 15 "fails" m_Land_fails [] := ⟨_, _, _, o_Land_fails, He.cls_ok (c.fact 24 (f := .cls "Land") rfl), He.meth_ok (c.fact 75 (f := .meth "Land" "fails") rfl), (dfl0 (F_Land_fails.bindsN fun _ _ _ _ _ _ us hl => match us, hl with | [_, _], _ => rfl))⟩
    have o_Land_ids : FnOk P w K mg base (L2.CX P w) 1 (He.fAd K ("Land", some "ids")) fd_Land_ids ["self"] (spM (caOf K y hy) m_Land_ids) := ok_Land_ids fx F_Land_ids 
    have h_Land_ids : CalM (caOf K y hy) P w K mg base 1 15 "ids" m_Land_ids [] := ⟨_, _, _, o_Land_ids, He.cls_ok (c.fact 24 (f := .cls "Land") rfl), He.meth_ok (c.fact 76 (f := .meth "Land" "ids") rfl), (dfl0 (F_Land_ids.bindsN fun _ _ _ _ _ _ us hl => match us, hl with | [_], _ => rfl))⟩
    have o_Land_kind : FnOk P w K mg base (L2.CX P w) 3 (He.fAd K ("Land", some "kind")) fd_Land_kind ["self", "thing"] (spM (caOf K y hy) m_Land_kind) := ok_Land_kind fx F_Land_kind h_Land_thing_of
    have h_Land_kind : CalM (caOf K y hy) P w K mg base 3 15 "kind" m_Land_kind [] := ⟨_, _, _, o_Land_kind, He.cls_ok (c.fact 24 (f := .cls "Land") rfl), He.meth_ok (c.fact 77 (f := .meth "Land" "kind") rfl), (dfl0 (F_Land_kind.bindsN fun _ _ _ _ _ _ us hl => match us, hl with | [_, _], _ => rfl))⟩
    have o_Land_fields : FnOk P w K mg base (L2.CX P w) 3 (He.fAd K ("Land", some "fields")) fd_Land_fields ["self", "thing"] (spM (caOf K y hy) m_Land_fields) := ok_Land_fields fx F_Land_fields h_Land_thing_of
    have h_Land_fields : CalM (caOf K y hy) P w K mg base 3 15 "fields" m_Land_fields [] := ⟨_, _, _, o_Land_fields, He.cls_ok (c.fact 24 (f := .cls "Land") rfl), He.meth_ok (c.fact 78 (f := .meth "Land" "fields") rfl), (dfl0 (F_Land_fields.bindsN fun _ _ _ _ _ _ us hl => match us, hl with | [_, _], _ => rfl))⟩
    have o_Land_touched : FnOk P w K mg base (L2.CX P w) 3 (He.fAd K ("Land", some "touched")) fd_Land_touched ["self", "thing"] (spM (caOf K y hy) m_Land_touched) := ok_Land_touched fx F_Land_touched h_Land_thing_of
    have h_Land_touched : CalM (caOf K y hy) P w K mg base 3 15 "touched" m_Land_touched [] := ⟨_, _, _, o_Land_touched, He.cls_ok (c.fact 24 (f := .cls "Land") rfl), He.meth_ok (c.fact 79 (f := .meth "Land" "touched") rfl), (dfl0 (F_Land_touched.bindsN fun _ _ _ _ _ _ us hl => match us, hl with | [_, _], _ => rfl))⟩
    have o_Land_made_by : FnOk P w K mg base (L2.CX P w) 1 (He.fAd K ("Land", some "made_by")) fd_Land_made_by ["self", "key"] (spM (caOf K y hy) m_Land_made_by) := ok_Land_made_by fx F_Land_made_by 
    have h_Land_made_by : CalM (caOf K y hy) P w K mg base 1 15 "made_by" m_Land_made_by [] := ⟨_, _, _, o_Land_made_by, He.cls_ok (c.fact 24 (f := .cls "Land") rfl), He.meth_ok (c.fact 80 (f := .meth "Land" "made_by") rfl), (dfl0 (F_Land_made_by.bindsN fun _ _ _ _ _ _ us hl => match us, hl with | [_, _], _ => rfl))⟩
    have o_Known_init : FnOk P w K mg base (L2.CX P w) 1 (He.fAd K ("Known", some "__init__")) fd_Known_init ["self", "kind", "number", "key", "leaned", "numbers"] (spM (caOf K y hy) m_Known_init) := ok_Known_init fx F_Known_init 
    have h_Known_init : CalC (caOf K y hy) P w K mg base 1 16 "Known" m_Known_init [] := ⟨_, _, _, o_Known_init, He.glo_ok X G (c.fact 81 (f := .glo "Known") rfl), He.mkr_ok (c.fact 82 (f := .mkr "Known") rfl), (dfl0 (F_Known_init.bindsN fun _ _ _ _ _ _ us hl => match us, hl with | [_, _, _, _, _, _], _ => rfl))⟩
    have o_found_in : FnOk P w K mg base (L2.CX P w) 2 (He.fAd K ("found_in", none)) fd_found_in ["land", "known"] (spM (caOf K y hy) m_found_in) := ok_found_in fx F_found_in h_Land_made_by
    have h_found_in : CalF (caOf K y hy) P w K mg base 2 "found_in" m_found_in [] := ⟨_, _, _, o_found_in, He.glo_ok X G (c.fact 83 (f := .glo "found_in") rfl), F_found_in.kp, (dfl0 (F_found_in.bindsN fun _ _ _ _ _ _ us hl => match us, hl with | [_, _], _ => rfl))⟩
    have o_check_wish : FnOk P w K mg base (L2.CX P w) 2 (He.fAd K ("check_wish", none)) fd_check_wish ["land", "wish"] (spM (caOf K y hy) m_check_wish) := ok_check_wish fx F_check_wish h_is_whole
    have h_check_wish : CalF (caOf K y hy) P w K mg base 2 "check_wish" m_check_wish [] := ⟨_, _, _, o_check_wish, He.glo_ok X G (c.fact 84 (f := .glo "check_wish") rfl), F_check_wish.kp, (dfl0 (F_check_wish.bindsN fun _ _ _ _ _ _ us hl => match us, hl with | [_, _], _ => rfl))⟩
    have o_spoken_of : FnOk P w K mg base (L2.CX P w) 2 (He.fAd K ("spoken_of", none)) fd_spoken_of ["thing"] (spM (caOf K y hy) m_spoken_of) := ok_spoken_of fx F_spoken_of h_is_whole
    have h_spoken_of : CalF (caOf K y hy) P w K mg base 2 "spoken_of" m_spoken_of [] := ⟨_, _, _, o_spoken_of, He.glo_ok X G (c.fact 85 (f := .glo "spoken_of") rfl), F_spoken_of.kp, (dfl0 (F_spoken_of.bindsN fun _ _ _ _ _ _ us hl => match us, hl with | [_], _ => rfl))⟩
    have o_Wish_leaned_on : FnOk P w K mg base (L2.CX P w) 3 (He.fAd K ("Wish", some "leaned_on")) fd_Wish_leaned_on ["self", "name"] (spM (caOf K y hy) m_Wish_leaned_on) := ok_Wish_leaned_on fx F_Wish_leaned_on h_spoken_of
    have h_Wish_leaned_on : CalM (caOf K y hy) P w K mg base 3 20 "leaned_on" m_Wish_leaned_on [] := ⟨_, _, _, o_Wish_leaned_on, He.cls_ok (c.fact 33 (f := .cls "Wish") rfl), He.meth_ok (c.fact 86 (f := .meth "Wish" "leaned_on") rfl), (dfl0 (F_Wish_leaned_on.bindsN fun _ _ _ _ _ _ us hl => match us, hl with | [_, _], _ => rfl))⟩
    have o_Wish_in_turn : FnOk P w K mg base (L2.CX P w) 4 (He.fAd K ("Wish", some "in_turn")) fd_Wish_in_turn ["self"] (spM (caOf K y hy) m_Wish_in_turn) := ok_Wish_in_turn fx F_Wish_in_turn h_Wish_leaned_on
    have h_Wish_in_turn : CalM (caOf K y hy) P w K mg base 4 20 "in_turn" m_Wish_in_turn [] := ⟨_, _, _, o_Wish_in_turn, He.cls_ok (c.fact 33 (f := .cls "Wish") rfl), He.meth_ok (c.fact 87 (f := .meth "Wish" "in_turn") rfl), (dfl0 (F_Wish_in_turn.bindsN fun _ _ _ _ _ _ us hl => match us, hl with | [_], _ => rfl))⟩
    have o_Look_id_of : FnOk P w K mg base (L2.CX P w) 1 (He.fAd K ("Look", some "id_of")) fd_Look_id_of ["self", "name"] (spM (caOf K y hy) m_Look_id_of) := ok_Look_id_of fx F_Look_id_of 
    have h_Look_id_of : CalM (caOf K y hy) P w K mg base 1 17 "id_of" m_Look_id_of [] := ⟨_, _, _, o_Look_id_of, He.cls_ok (c.fact 40 (f := .cls "Look") rfl), He.meth_ok (c.fact 88 (f := .meth "Look" "id_of") rfl), (dfl0 (F_Look_id_of.bindsN fun _ _ _ _ _ _ us hl => match us, hl with | [_, _], _ => rfl))⟩
    have o_Look_wished_number : FnOk P w K mg base (L2.CX P w) 2 (He.fAd K ("Look", some "wished_number")) fd_Look_wished_number ["self", "name", "field"] (spM (caOf K y hy) m_Look_wished_number) := ok_Look_wished_number fx F_Look_wished_number h_is_whole h_Look_id_of
    have h_Look_wished_number : CalM (caOf K y hy) P w K mg base 2 17 "wished_number" m_Look_wished_number [] := ⟨_, _, _, o_Look_wished_number, He.cls_ok (c.fact 40 (f := .cls "Look") rfl), He.meth_ok (c.fact 89 (f := .meth "Look" "wished_number") rfl), (dfl0 (F_Look_wished_number.bindsN fun _ _ _ _ _ _ us hl => match us, hl with | [_, _, _], _ => rfl))⟩
    have o_Look_due_of : FnOk P w K mg base (L2.CX P w) 4 (He.fAd K ("Look", some "due_of")) fd_Look_due_of ["self", "name"] (spM (caOf K y hy) m_Look_due_of) := ok_Look_due_of fx F_Look_due_of h_Land_kind h_Look_wished_number h_Land_fields
    have h_Look_due_of : CalM (caOf K y hy) P w K mg base 4 17 "due_of" m_Look_due_of [] := ⟨_, _, _, o_Look_due_of, He.cls_ok (c.fact 40 (f := .cls "Look") rfl), He.meth_ok (c.fact 90 (f := .meth "Look" "due_of") rfl), (dfl0 (F_Look_due_of.bindsN fun _ _ _ _ _ _ us hl => match us, hl with | [_, _], _ => rfl))⟩
    have o_Look_init : FnOk P w K mg base (L2.CX P w) 5 (He.fAd K ("Look", some "__init__")) fd_Look_init ["self", "land", "table", "wish"] (spM (caOf K y hy) m_Look_init) := ok_Look_init fx F_Look_init h_check_wish h_found_in h_Wish_in_turn h_Look_due_of
    have h_Look_init : CalC (caOf K y hy) P w K mg base 5 17 "Look" m_Look_init [] := ⟨_, _, _, o_Look_init, He.glo_ok X G (c.fact 91 (f := .glo "Look") rfl), He.mkr_ok (c.fact 92 (f := .mkr "Look") rfl), (dfl0 (F_Look_init.bindsN fun _ _ _ _ _ _ us hl => match us, hl with | [_, _, _, _], _ => rfl))⟩
    have o_Look_takes : FnOk P w K mg base (L2.CX P w) 1 (He.fAd K ("Look", some "takes")) fd_Look_takes ["self"] (spM (caOf K y hy) m_Look_takes) := ok_Look_takes fx F_Look_takes 
    have h_Look_takes : CalM (caOf K y hy) P w K mg base 1 17 "takes" m_Look_takes [] := ⟨_, _, _, o_Look_takes, He.cls_ok (c.fact 40 (f := .cls "Look") rfl), He.meth_ok (c.fact 93 (f := .meth "Look" "takes") rfl), (dfl0 (F_Look_takes.bindsN fun _ _ _ _ _ _ us hl => match us, hl with | [_], _ => rfl))⟩
    have o_Look_leaned_by : FnOk P w K mg base (L2.CX P w) 4 (He.fAd K ("Look", some "leaned_by")) fd_Look_leaned_by ["self", "name"] (spM (caOf K y hy) m_Look_leaned_by) := ok_Look_leaned_by fx F_Look_leaned_by h_Wish_leaned_on
    have h_Look_leaned_by : CalM (caOf K y hy) P w K mg base 4 17 "leaned_by" m_Look_leaned_by [] := ⟨_, _, _, o_Look_leaned_by, He.cls_ok (c.fact 40 (f := .cls "Look") rfl), He.meth_ok (c.fact 94 (f := .meth "Look" "leaned_by") rfl), (dfl0 (F_Look_leaned_by.bindsN fun _ _ _ _ _ _ us hl => match us, hl with | [_, _], _ => rfl))⟩
    have o_Look_deeds : FnOk P w K mg base (L2.CX P w) 5 (He.fAd K ("Look", some "deeds")) fd_Look_deeds ["self"] (spM (caOf K y hy) m_Look_deeds) := ok_Look_deeds fx F_Look_deeds h_Look_takes h_Look_leaned_by
    have h_Look_deeds : CalM (caOf K y hy) P w K mg base 5 17 "deeds" m_Look_deeds [] := ⟨_, _, _, o_Look_deeds, He.cls_ok (c.fact 40 (f := .cls "Look") rfl), He.meth_ok (c.fact 95 (f := .meth "Look" "deeds") rfl), (dfl0 (F_Look_deeds.bindsN fun _ _ _ _ _ _ us hl => match us, hl with | [_], _ => rfl))⟩
    have o_Look_ahead : FnOk P w K mg base (L2.CX P w) 5 (He.fAd K ("Look", some "ahead")) fd_Look_ahead ["self", "one", "other"] (spM (caOf K y hy) m_Look_ahead) := ok_Look_ahead fx F_Look_ahead h_Look_leaned_by h_Wish_leaned_on
    have h_Look_ahead : CalM (caOf K y hy) P w K mg base 5 17 "ahead" m_Look_ahead [] := ⟨_, _, _, o_Look_ahead, He.cls_ok (c.fact 40 (f := .cls "Look") rfl), He.meth_ok (c.fact 96 (f := .meth "Look" "ahead") rfl), (dfl0 (F_Look_ahead.bindsN fun _ _ _ _ _ _ us hl => match us, hl with | [_, _, _], _ => rfl))⟩
    have o_Look_drift : FnOk P w K mg base (L2.CX P w) 4 (He.fAd K ("Look", some "drift")) fd_Look_drift ["self"] (spM (caOf K y hy) m_Look_drift) := ok_Look_drift fx F_Look_drift h_Land_fields
    have h_Look_drift : CalM (caOf K y hy) P w K mg base 4 17 "drift" m_Look_drift [] := ⟨_, _, _, o_Look_drift, He.cls_ok (c.fact 40 (f := .cls "Look") rfl), He.meth_ok (c.fact 97 (f := .meth "Look" "drift") rfl), (dfl0 (F_Look_drift.bindsN fun _ _ _ _ _ _ us hl => match us, hl with | [_], _ => rfl))⟩
    have o_allowed : FnOk P w K mg base (L2.CX P w) 7 (He.fAd K ("allowed", none)) fd_allowed ["keeper", "wish", "deeds"] (spM (caOf K y hy) m_allowed) := ok_allowed fx F_allowed h_Look_init h_Look_deeds h_Look_ahead
    have h_allowed : CalF (caOf K y hy) P w K mg base 7 "allowed" m_allowed [] := ⟨_, _, _, o_allowed, He.glo_ok X G (c.fact 98 (f := .glo "allowed") rfl), F_allowed.kp, (dfl0 (F_allowed.bindsN fun _ _ _ _ _ _ us hl => match us, hl with | [_, _, _], _ => rfl))⟩
    have o_Plan_init : FnOk P w K mg base (L2.CX P w) 6 (He.fAd K ("Plan", some "__init__")) fd_Plan_init ["self", "look", "land_done", "keeper_done"] (spM (caOf K y hy) m_Plan_init) := ok_Plan_init fx F_Plan_init h_Look_deeds h_Look_drift
    have h_Plan_init : CalC (caOf K y hy) P w K mg base 6 18 "Plan" m_Plan_init [] := ⟨_, _, _, o_Plan_init, He.glo_ok X G (c.fact 99 (f := .glo "Plan") rfl), He.mkr_ok (c.fact 100 (f := .mkr "Plan") rfl), (dfl0 (F_Plan_init.bindsN fun _ _ _ _ _ _ us hl => match us, hl with | [_, _, _, _], _ => rfl))⟩
    have o_Plan_deeds : FnOk P w K mg base (L2.CX P w) 1 (He.fAd K ("Plan", some "deeds")) fd_Plan_deeds ["self"] (spM (caOf K y hy) m_Plan_deeds) := ok_Plan_deeds fx F_Plan_deeds 
    have h_Plan_deeds : CalM (caOf K y hy) P w K mg base 1 18 "deeds" m_Plan_deeds [] := ⟨_, _, _, o_Plan_deeds, He.cls_ok (c.fact 35 (f := .cls "Plan") rfl), He.meth_ok (c.fact 101 (f := .meth "Plan" "deeds") rfl), (dfl0 (F_Plan_deeds.bindsN fun _ _ _ _ _ _ us hl => match us, hl with | [_], _ => rfl))⟩
    have o_Plan_drift : FnOk P w K mg base (L2.CX P w) 1 (He.fAd K ("Plan", some "drift")) fd_Plan_drift ["self"] (spM (caOf K y hy) m_Plan_drift) := ok_Plan_drift fx F_Plan_drift 
    have h_Plan_drift : CalM (caOf K y hy) P w K mg base 1 18 "drift" m_Plan_drift [] := ⟨_, _, _, o_Plan_drift, He.cls_ok (c.fact 35 (f := .cls "Plan") rfl), He.meth_ok (c.fact 102 (f := .meth "Plan" "drift") rfl), (dfl0 (F_Plan_drift.bindsN fun _ _ _ _ _ _ us hl => match us, hl with | [_], _ => rfl))⟩
    have o_Keeper_init : FnOk P w K mg base (L2.CX P w) 2 (He.fAd K ("Keeper", some "__init__")) fd_Keeper_init ["self", "land", "mark"] (spM (caOf K y hy) m_Keeper_init) := ok_Keeper_init fx F_Keeper_init h_is_name
    have h_Keeper_init : CalC (caOf K y hy) P w K mg base 2 19 "Keeper" m_Keeper_init [.str "k"] := ⟨_, _, _, o_Keeper_init, He.glo_ok X G (c.fact 103 (f := .glo "Keeper") rfl), He.mkr_ok (c.fact 104 (f := .mkr "Keeper") rfl), (dflK (F_Keeper_init.binds0 2 (fun z => nomatch z) rfl fun D doc pm an cdv ct us ks h1 h2 => match us, ks, h1, h2 with | [_, _], [_], _, _ => ⟨_, _, _, _, _, _, rfl, rfl, rfl⟩) fun _ => .cons (.str _) .nil)⟩
    have o_Keeper_plan : FnOk P w K mg base (L2.CX P w) 8 (He.fAd K ("Keeper", some "plan")) fd_Keeper_plan ["self", "wish"] (spM (caOf K y hy) m_Keeper_plan) := ok_Keeper_plan fx F_Keeper_plan h_Plan_init h_Look_init
    have h_Keeper_plan : CalM (caOf K y hy) P w K mg base 8 19 "plan" m_Keeper_plan [] := ⟨_, _, _, o_Keeper_plan, He.cls_ok (c.fact 38 (f := .cls "Keeper") rfl), He.meth_ok (c.fact 105 (f := .meth "Keeper" "plan") rfl), (dfl0 (F_Keeper_plan.bindsN fun _ _ _ _ _ _ us hl => match us, hl with | [_, _], _ => rfl))⟩
    have o_Keeper_lock : FnOk P w K mg base (L2.CX P w) 2 (He.fAd K ("Keeper", some "lock")) fd_Keeper_lock ["self", "hand"] (spM (caOf K y hy) m_Keeper_lock) := ok_Keeper_lock fx F_Keeper_lock h_is_name
    have h_Keeper_lock : CalM (caOf K y hy) P w K mg base 2 19 "lock" m_Keeper_lock [] := ⟨_, _, _, o_Keeper_lock, He.cls_ok (c.fact 38 (f := .cls "Keeper") rfl), He.meth_ok (c.fact 106 (f := .meth "Keeper" "lock") rfl), (dfl0 (F_Keeper_lock.bindsN fun _ _ _ _ _ _ us hl => match us, hl with | [_, _], _ => rfl))⟩
    have o_Keeper_check_hand : FnOk P w K mg base (L2.CX P w) 1 (He.fAd K ("Keeper", some "check_hand")) fd_Keeper_check_hand ["self", "hand"] (spM (caOf K y hy) m_Keeper_check_hand) := ok_Keeper_check_hand fx F_Keeper_check_hand 
    have h_Keeper_check_hand : CalM (caOf K y hy) P w K mg base 1 19 "check_hand" m_Keeper_check_hand [] := ⟨_, _, _, o_Keeper_check_hand, He.cls_ok (c.fact 38 (f := .cls "Keeper") rfl), He.meth_ok (c.fact 107 (f := .meth "Keeper" "check_hand") rfl), (dfl0 (F_Keeper_check_hand.bindsN fun _ _ _ _ _ _ us hl => match us, hl with | [_, _], _ => rfl))⟩
    have o_Keeper_know_look : FnOk P w K mg base (L2.CX P w) 5 (He.fAd K ("Keeper", some "know_look")) fd_Keeper_know_look ["self", "look"] (spM (caOf K y hy) m_Keeper_know_look) := ok_Keeper_know_look fx F_Keeper_know_look h_Look_leaned_by h_Land_fields h_Land_kind h_Known_init
    have h_Keeper_know_look : CalM (caOf K y hy) P w K mg base 5 19 "know_look" m_Keeper_know_look [] := ⟨_, _, _, o_Keeper_know_look, He.cls_ok (c.fact 38 (f := .cls "Keeper") rfl), He.meth_ok (c.fact 108 (f := .meth "Keeper" "know_look") rfl), (dfl0 (F_Keeper_know_look.bindsN fun _ _ _ _ _ _ us hl => match us, hl with | [_, _], _ => rfl))⟩
    have o_Keeper_number_for : FnOk P w K mg base (L2.CX P w) 1 (He.fAd K ("Keeper", some "number_for")) fd_Keeper_number_for ["self", "wish", "name", "field"] (spM (caOf K y hy) m_Keeper_number_for) := ok_Keeper_number_for fx F_Keeper_number_for 
    have h_Keeper_number_for : CalM (caOf K y hy) P w K mg base 1 19 "number_for" m_Keeper_number_for [] := ⟨_, _, _, o_Keeper_number_for, He.cls_ok (c.fact 38 (f := .cls "Keeper") rfl), He.meth_ok (c.fact 109 (f := .meth "Keeper" "number_for") rfl), (dfl0 (F_Keeper_number_for.bindsN fun _ _ _ _ _ _ us hl => match us, hl with | [_, _, _, _], _ => rfl))⟩
    have o_Keeper_numbers_for : FnOk P w K mg base (L2.CX P w) 2 (He.fAd K ("Keeper", some "numbers_for")) fd_Keeper_numbers_for ["self", "wish", "name", "fields"] (spM (caOf K y hy) m_Keeper_numbers_for) := ok_Keeper_numbers_for fx F_Keeper_numbers_for h_Keeper_number_for
    have h_Keeper_numbers_for : CalM (caOf K y hy) P w K mg base 2 19 "numbers_for" m_Keeper_numbers_for [] := ⟨_, _, _, o_Keeper_numbers_for, He.cls_ok (c.fact 38 (f := .cls "Keeper") rfl), He.meth_ok (c.fact 110 (f := .meth "Keeper" "numbers_for") rfl), (dfl0 (F_Keeper_numbers_for.bindsN fun _ _ _ _ _ _ us hl => match us, hl with | [_, _, _, _], _ => rfl))⟩
    have o_Keeper_make : FnOk P w K mg base (L2.CX P w) 4 (He.fAd K ("Keeper", some "make")) fd_Keeper_make ["self", "wish", "name"] (spM (caOf K y hy) m_Keeper_make) := ok_Keeper_make fx F_Keeper_make h_Keeper_numbers_for h_Known_init h_Wish_leaned_on hk_Land_make
    have h_Keeper_make : CalM (caOf K y hy) P w K mg base 4 19 "make" m_Keeper_make [] := ⟨_, _, _, o_Keeper_make, He.cls_ok (c.fact 38 (f := .cls "Keeper") rfl), He.meth_ok (c.fact 111 (f := .meth "Keeper" "make") rfl), (dfl0 (F_Keeper_make.bindsN fun _ _ _ _ _ _ us hl => match us, hl with | [_, _, _], _ => rfl))⟩
    have o_Keeper_change : FnOk P w K mg base (L2.CX P w) 4 (He.fAd K ("Keeper", some "change")) fd_Keeper_change ["self", "wish", "name"] (spM (caOf K y hy) m_Keeper_change) := ok_Keeper_change fx F_Keeper_change h_Land_fields h_Keeper_numbers_for h_Land_change
    have h_Keeper_change : CalM (caOf K y hy) P w K mg base 4 19 "change" m_Keeper_change [] := ⟨_, _, _, o_Keeper_change, He.cls_ok (c.fact 38 (f := .cls "Keeper") rfl), He.meth_ok (c.fact 112 (f := .meth "Keeper" "change") rfl), (dfl0 (F_Keeper_change.bindsN fun _ _ _ _ _ _ us hl => match us, hl with | [_, _, _], _ => rfl))⟩
    have o_Keeper_take : FnOk P w K mg base (L2.CX P w) 4 (He.fAd K ("Keeper", some "take")) fd_Keeper_take ["self", "wish", "name"] (spM (caOf K y hy) m_Keeper_take) := ok_Keeper_take fx F_Keeper_take h_Land_take
    have h_Keeper_take : CalM (caOf K y hy) P w K mg base 4 19 "take" m_Keeper_take [] := ⟨_, _, _, o_Keeper_take, He.cls_ok (c.fact 38 (f := .cls "Keeper") rfl), He.meth_ok (c.fact 113 (f := .meth "Keeper" "take") rfl), (dfl0 (F_Keeper_take.bindsN fun _ _ _ _ _ _ us hl => match us, hl with | [_, _, _], _ => rfl))⟩
    have o_Keeper_apply : FnOk P w K mg base (L2.CX P w) 6 (He.fAd K ("Keeper", some "apply")) fd_Keeper_apply ["self", "plan", "hand"] (spM (caOf K y hy) m_Keeper_apply) := ok_Keeper_apply fx F_Keeper_apply h_Keeper_check_hand h_Keeper_know_look h_Keeper_make h_Keeper_change h_Keeper_take
    have hk_Keeper_apply : CalMK (caOf K y hy) P w K mg base 6 19 "apply" m_Keeper_apply 2 ["hand"] := ⟨_, _, _, o_Keeper_apply, He.cls_ok (c.fact 38 (f := .cls "Keeper") rfl), He.meth_ok (c.fact 114 (f := .meth "Keeper" "apply") rfl), (kbn_of F_Keeper_apply fun _ _ _ _ _ _ us ws h1 h2 => match us, ws, h1, h2 with | [_, _], [_], _, _ => rfl)⟩
    have o_Keeper_known : FnOk P w K mg base (L2.CX P w) 1 (He.fAd K ("Keeper", some "known")) fd_Keeper_known ["self"] (spM (caOf K y hy) m_Keeper_known) := ok_Keeper_known fx F_Keeper_known 
    have h_Keeper_known : CalM (caOf K y hy) P w K mg base 1 19 "known" m_Keeper_known [] := ⟨_, _, _, o_Keeper_known, He.cls_ok (c.fact 38 (f := .cls "Keeper") rfl), He.meth_ok (c.fact 115 (f := .meth "Keeper" "known") rfl), (dfl0 (F_Keeper_known.bindsN fun _ _ _ _ _ _ us hl => match us, hl with | [_], _ => rfl))⟩
    have o_is_wished : FnOk P w K mg base (L2.CX P w) 2 (He.fAd K ("is_wished", none)) fd_is_wished ["thing"] (spM (caOf K y hy) m_is_wished) := ok_is_wished fx F_is_wished h_is_whole h_is_name
    have h_is_wished : CalF (caOf K y hy) P w K mg base 2 "is_wished" m_is_wished [] := ⟨_, _, _, o_is_wished, He.glo_ok X G (c.fact 116 (f := .glo "is_wished") rfl), F_is_wished.kp, (dfl0 (F_is_wished.bindsN fun _ _ _ _ _ _ us hl => match us, hl with | [_], _ => rfl))⟩
    have o_has_form : FnOk P w K mg base (L2.CX P w) 3 (He.fAd K ("has_form", none)) fd_has_form ["thing"] (spM (caOf K y hy) m_has_form) := ok_has_form fx F_has_form h_is_name h_are_unlike_names h_is_wished
    have h_has_form : CalF (caOf K y hy) P w K mg base 3 "has_form" m_has_form [] := ⟨_, _, _, o_has_form, He.glo_ok X G (c.fact 117 (f := .glo "has_form") rfl), F_has_form.kp, (dfl0 (F_has_form.bindsN fun _ _ _ _ _ _ us hl => match us, hl with | [_], _ => rfl))⟩
    have o_first_wrong : FnOk P w K mg base (L2.CX P w) 4 (He.fAd K ("first_wrong", none)) fd_first_wrong ["things"] (spM (caOf K y hy) m_first_wrong) := ok_first_wrong fx F_first_wrong h_has_form h_spoken_of
    have h_first_wrong : CalF (caOf K y hy) P w K mg base 4 "first_wrong" m_first_wrong [] := ⟨_, _, _, o_first_wrong, He.glo_ok X G (c.fact 118 (f := .glo "first_wrong") rfl), F_first_wrong.kp, (dfl0 (F_first_wrong.bindsN fun _ _ _ _ _ _ us hl => match us, hl with | [_], _ => rfl))⟩
    have o_Wish_check_rings : FnOk P w K mg base (L2.CX P w) 4 (He.fAd K ("Wish", some "check_rings")) fd_Wish_check_rings ["self"] (spM (caOf K y hy) m_Wish_check_rings) := ok_Wish_check_rings fx F_Wish_check_rings h_Wish_leaned_on
    have h_Wish_check_rings : CalM (caOf K y hy) P w K mg base 4 20 "check_rings" m_Wish_check_rings [] := ⟨_, _, _, o_Wish_check_rings, He.cls_ok (c.fact 33 (f := .cls "Wish") rfl), He.meth_ok (c.fact 119 (f := .meth "Wish" "check_rings") rfl), (dfl0 (F_Wish_check_rings.bindsN fun _ _ _ _ _ _ us hl => match us, hl with | [_], _ => rfl))⟩
    have o_Wish_init : FnOk P w K mg base (L2.CX P w) 5 (He.fAd K ("Wish", some "__init__")) fd_Wish_init ["self", "things"] (spM (caOf K y hy) m_Wish_init) := ok_Wish_init fx F_Wish_init h_first_wrong h_Wish_check_rings
    have h_Wish_init : CalC (caOf K y hy) P w K mg base 5 20 "Wish" m_Wish_init [] := ⟨_, _, _, o_Wish_init, He.glo_ok X G (c.fact 120 (f := .glo "Wish") rfl), He.mkr_ok (c.fact 121 (f := .mkr "Wish") rfl), (dfl0 (F_Wish_init.bindsN fun _ _ _ _ _ _ us hl => match us, hl with | [_, _], _ => rfl))⟩
    have o_Wish_names : FnOk P w K mg base (L2.CX P w) 1 (He.fAd K ("Wish", some "names")) fd_Wish_names ["self"] (spM (caOf K y hy) m_Wish_names) := ok_Wish_names fx F_Wish_names 
    have h_Wish_names : CalM (caOf K y hy) P w K mg base 1 20 "names" m_Wish_names [] := ⟨_, _, _, o_Wish_names, He.cls_ok (c.fact 33 (f := .cls "Wish") rfl), He.meth_ok (c.fact 122 (f := .meth "Wish" "names") rfl), (dfl0 (F_Wish_names.bindsN fun _ _ _ _ _ _ us hl => match us, hl with | [_], _ => rfl))⟩
    have o_Wish_leans : FnOk P w K mg base (L2.CX P w) 4 (He.fAd K ("Wish", some "leans")) fd_Wish_leans ["self", "name"] (spM (caOf K y hy) m_Wish_leans) := ok_Wish_leans fx F_Wish_leans h_Wish_leaned_on
    have h_Wish_leans : CalM (caOf K y hy) P w K mg base 4 20 "leans" m_Wish_leans [] := ⟨_, _, _, o_Wish_leans, He.cls_ok (c.fact 33 (f := .cls "Wish") rfl), He.meth_ok (c.fact 123 (f := .meth "Wish" "leans") rfl), (dfl0 (F_Wish_leans.bindsN fun _ _ _ _ _ _ us hl => match us, hl with | [_, _], _ => rfl))⟩
    have o__law_cell_at : FnOk P w K mg base (L2.CX P w) 1 (He.fAd K ("_law_cell_at", none)) fd__law_cell_at ["_law_script", "_law_k"] (spM (caOf K y hy) m__law_cell_at) := ok__law_cell_at fx F__law_cell_at 
    have o__law_draw : FnOk P w K mg base (L2.CX P w) 1 (He.fAd K ("_law_draw", none)) fd__law_draw ["_law_cell", "_law_k", "_law_most"] (spM (caOf K y hy) m__law_draw) := ok__law_draw fx F__law_draw 
    have h__law_draw : CalF (caOf K y hy) P w K mg base 1 "_law_draw" m__law_draw [] := ⟨_, _, _, o__law_draw, He.glo_ok X G (c.fact 124 (f := .glo "_law_draw") rfl), F__law_draw.kp, (dfl0 (F__law_draw.bindsN fun _ _ _ _ _ _ us hl => match us, hl with | [_, _, _], _ => rfl))⟩
    have o__law_number : FnOk P w K mg base (L2.CX P w) 2 (He.fAd K ("_law_number", none)) fd__law_number ["_law_cell", "_law_k", "_law_limit"] (spM (caOf K y hy) m__law_number) := ok__law_number fx F__law_number h__law_draw
    have h__law_number : CalF (caOf K y hy) P w K mg base 2 "_law_number" m__law_number [] := ⟨_, _, _, o__law_number, He.glo_ok X G (c.fact 125 (f := .glo "_law_number") rfl), F__law_number.kp, (dfl0 (F__law_number.bindsN fun _ _ _ _ _ _ us hl => match us, hl with | [_, _, _], _ => rfl))⟩
    have o__law_land_right : M3N.FnG P w K mg base (L2.CX P w) 6 (He.fAd K ("_law_land_right", none)) fd__law_land_right ["_law_number_here"] (spM (caOf K y hy) m__law_land_right) := ok__law_land_right fx F__law_land_right h_Land_init hk_Land_make h_Land_fields h_Land_fails h_Land_change h_Land_ids h_Land_touched
    have h__law_land_right : CalG (caOf K y hy) P w K mg base 6 "_law_land_right" m__law_land_right := ⟨_, _, _, o__law_land_right, He.glo_ok X G (c.fact 126 (f := .glo "_law_land_right") rfl), F__law_land_right.kp, F__law_land_right.bindsN fun _ _ _ _ _ _ us hl => match us, hl with | [_], _ => rfl⟩
    have o__law_wish_right : FnOk P w K mg base (L2.CX P w) 9 (He.fAd K ("_law_wish_right", none)) fd__law_wish_right ["_law_number_here"] (spM (caOf K y hy) m__law_wish_right) := ok__law_wish_right fx F__law_wish_right h_Land_init h_Keeper_init h_Wish_init h_Keeper_lock h_Keeper_plan h_Wish_names h_Wish_leans h_Plan_deeds h_Plan_drift h_allowed hk_Keeper_apply h_Land_fields h_Keeper_known
    have h__law_wish_right : CalF (caOf K y hy) P w K mg base 9 "_law_wish_right" m__law_wish_right [] := ⟨_, _, _, o__law_wish_right, He.glo_ok X G (c.fact 127 (f := .glo "_law_wish_right") rfl), F__law_wish_right.kp, (dfl0 (F__law_wish_right.bindsN fun _ _ _ _ _ _ us hl => match us, hl with | [_], _ => rfl))⟩
    exact ⟨o__law_land_right, o__law_wish_right⟩
  have fx := fx_of (y := y) (hy := hy) X G c
  have o__law_draw : FnOk P w K mg base (L2.CX P w) 1 (He.fAd K ("_law_draw", none)) fd__law_draw ["_law_cell", "_law_k", "_law_most"] (spM (caOf K y hy) m__law_draw) := ok__law_draw fx F__law_draw 
  have h__law_draw : CalF (caOf K y hy) P w K mg base 1 "_law_draw" m__law_draw [] := ⟨_, _, _, o__law_draw, He.glo_ok X G (c.fact 124 (f := .glo "_law_draw") rfl), F__law_draw.kp, (dfl0 (F__law_draw.bindsN fun _ _ _ _ _ _ us hl => match us, hl with | [_, _, _], _ => rfl))⟩
  have o__law_number : FnOk P w K mg base (L2.CX P w) 2 (He.fAd K ("_law_number", none)) fd__law_number ["_law_cell", "_law_k", "_law_limit"] (spM (caOf K y hy) m__law_number) := ok__law_number fx F__law_number h__law_draw
  have h__law_number : CalF (caOf K y hy) P w K mg base 2 "_law_number" m__law_number [] := ⟨_, _, _, o__law_number, He.glo_ok X G (c.fact 125 (f := .glo "_law_number") rfl), F__law_number.kp, (dfl0 (F__law_number.bindsN fun _ _ _ _ _ _ us hl => match us, hl with | [_, _, _], _ => rfl))⟩
  have o__law_land_right : M3N.FnG P w K mg base (L2.CX P w) 6 (He.fAd K ("_law_land_right", none)) fd__law_land_right ["_law_number_here"] (spM (caOf K y hy) (symFn m__law_land_right)) := fnG_sym fun n hn => (pre (fun _ => n) (fun _ => hn)).1
  have h__law_land_right : CalG (caOf K y hy) P w K mg base 6 "_law_land_right" (symFn m__law_land_right) := ⟨_, _, _, o__law_land_right, He.glo_ok X G (c.fact 126 (f := .glo "_law_land_right") rfl), F__law_land_right.kp, F__law_land_right.bindsN fun _ _ _ _ _ _ us hl => match us, hl with | [_], _ => rfl⟩
  have o__law_wish_right : FnOk P w K mg base (L2.CX P w) 9 (He.fAd K ("_law_wish_right", none)) fd__law_wish_right ["_law_number_here"] (spM (caOf K y hy) (symFn m__law_wish_right)) := fnOk_sym fun n hn => (pre (fun _ => n) (fun _ => hn)).2
  have h__law_wish_right : CalF (caOf K y hy) P w K mg base 9 "_law_wish_right" (symFn m__law_wish_right) [] := ⟨_, _, _, o__law_wish_right, He.glo_ok X G (c.fact 127 (f := .glo "_law_wish_right") rfl), F__law_wish_right.kp, (dfl0 (F__law_wish_right.bindsN fun _ _ _ _ _ _ us hl => match us, hl with | [_], _ => rfl))⟩
  exact ok_law fx F_law h__law_number h__law_land_right h__law_wish_right
end
def names0 : List Str := ["_wall", "LandError", "BadKinds", "BadKind", "BadFields", "BadKey", "BadFails", "NoThing", "BadName", "Locked", "Stale", "Failed", "BadWish", "Ring", "Stopped", "LETTERS", "ID", "is_whole", "is_name", "are_unlike_names", "MOST_KINDS", "MOST_FIELDS", "is_kind", "Thing", "Land", "Known", "found_in", "check_wish", "Look", "allowed"]
def names1 : List Str := ["Plan", "Keeper", "MOST_WISHED", "is_wished", "has_form", "spoken_of", "first_wrong", "Wish", "_law_cell_at", "_law_draw", "_law_number", "_law_land_right", "_law_wish_right"]
def names : List Str := names0 ++ names1
abbrev R : PySem.W.OpenRow := PySem.W.OpenLaw.row PySem.Challenge.rw_wishedland_k08_whole_anew
abbrev hk : PySem.W.Hook := He.hookD 4 faL fnL
def ob (s : PySem.W.SharedT) : He.AlD := He.obsDG 4 faL fnL (HandSHeadRun.getT s)
theorem ob_eq (s : PySem.W.SharedT) : ob s = hk.obs s.abs := He.obsDG_eq (HandSHeadRun.getT_eq s)
theorem run (w : World) : HandSHeadRun.RunEq R (PySem.W.view R.prog [51]) hk ob 8000 names w := by
  intro os
  kernel_rfl
end K8
open PySem PySem.W PySem.Calls PyProof.Rows
theorem end_of (plain : ∀ ns : List Int, ns.length ≤ 63 → ∃ S', K8.m_law [.scr (ns.map .int)] M3.S0 = .ok (.bl true) S') : PySem.Challenge.rw_wishedland_k08_whole_anew.Holds := by
  w_on; o_law
  refine HandSHeadRun.head_any (r := OpenLaw.row PySem.Challenge.rw_wishedland_k08_whole_anew) (q := view (OpenLaw.row PySem.Challenge.rw_wishedland_k08_whole_anew).prog [51]) (H := K8.hk) (ob := K8.ob) (M := 8000) (loose := K8.names) (d := HandSHeadRun.topDef (OpenLaw.row PySem.Challenge.rw_wishedland_k08_whole_anew).prog 51) (kwd := []) K8.ob_eq
    (by kernel_rfl) (fun s => by kernel_rfl) K8.run (by kernel_rfl) (by kernel_rfl) (by kernel_rfl) (by rfl) (by first | assumption | decide +kernel) (by decide +kernel) ⟨rfl, rfl, rfl, rfl, rfl, by decide +kernel⟩ ?hw ?hc
  case hw => w_witness2
  case hc =>
    refine M3.walk_ofG (l := PySem.Challenge.rw_wishedland_k08_whole_anew) (n := 63) (k := 10) (x := "_law_script") (m := K8.m_law) rfl (by decide) (by kernel_rfl) ⟨rfl, by decide, by decide⟩ plain ?F
    intro w mg fa h Y G hmg0
    obtain ⟨K, KX, c⟩ := Y
    have hmg : mg ("law" : PySem.Str) = some (.ref fa) := by
      have e : (HandSHeadRun.topDef (OpenLaw.row PySem.Challenge.rw_wishedland_k08_whole_anew).prog 51).name = ("law" : PySem.Str) := by kernel_rfl
      rw [← e]
      exact hmg0
    obtain ⟨fd, hb, hF⟩ := K8.law_ok (y := fun _ => 0) (hy := fun _ => ⟨by decide, by decide⟩) (P := (PySem.Challenge.rw_wishedland_k08_whole_anew).prog) (w := w) KX G c hmg
    exact ⟨K8.caOf K (fun _ => 0) (fun _ => ⟨by decide, by decide⟩), fd, KX, hb, hF⟩
theorem PySem.Challenge.cw_wishedland_k08_whole_anew_holds : PySem.Challenge.rw_wishedland_k08_whole_anew.Holds := by
  exact end_of K8.plain
