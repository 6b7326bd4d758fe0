import PyProof.Rows.All
import Wide.All
import OpenK.AllK
import Wide.FinOn
import HandS.ForMost
import HandS.ForExc
import HandS.Defaults
import HandS.IsInst
import KE.KEqNest
import HandS.Conv
import HandS.SortInts
import HandS.Style
import HandS.Flow
import HandS.DictComp
import HandS.TryOnly
import HandS.ExcOwn
import HandS.Set
import HandS.CallSlots
import HandS.MakeKwOnly
import HandS.ExcCtx
import HandS.FStr
import HandS.Finally
import HandS.SortOrd
import HandS.Sort
import HandS.SetBool
import HandS.Ends
import HandS.HeadEnd
import PyProof.ReprRoads
import PyProof.StrOps2
import HandS.ExcIs
import HandS.HeadHook2
import KE.KStateDown
import Lean
import HandS.Words
import HandS.WordsExc
import HandS.Head0
import HandS.Head1
import HandS.Head2
import HandS.HeadHook1
import PySem.Challenge.RW_wishedland_k01_whole_land
set_option Elab.async false
set_option linter.all false
set_option maxRecDepth 100000
set_option maxHeartbeats 4000000
/-! M3A: a small machine of trees and cells over the abstract heap: data, worlds, what represents what. -/
namespace M3
open PySem L2

/-! ### data -/
inductive D where
  | non | bl (b : Bool) | int (i : Int) | str (s : Str) | cell (n : Nat) | scr (xs : List D)
  | lst (xs : List D) | tup (xs : List D) | dic (ks : List (Key × D)) | ins (c : Nat) (fs : List (Str × D)) | sym (k : Nat) | txt (ks : List (Key × D))
  deriving Inhabited
inductive Ob where
  | lst (xs : List D) | dic (ks : List (Key × D)) | ins (c : Nat) (fs : List (Str × D))
/-- the machine's store: cells, the next free one, the locked ones -/
structure S3 where
  cs : Nat → Option Ob
  nx : Nat
  lk : List Nat
structure Exn where
  c : Nat
  fs : List (Str × D)
inductive R (α : Type) where
  | ok (a : α) (s : S3)
  | ex (e : Exn) (s : S3)
  | bad
def R.bind {α β : Type} (r : R α) (f : α → S3 → R β) : R β := match r with
  | .ok a s => f a s
  | .ex e s => .ex e s
  | .bad => .bad
abbrev Ev := List (Option D)
abbrev CE := Ev → S3 → R D
inductive SR where
  | nx (v : Ev) (s : S3)
  | rt (d : D) (s : S3)
  | bk (v : Ev) (s : S3)
  | ct (v : Ev) (s : S3)
  | ex (e : Exn) (v : Ev) (s : S3)
  | bad
abbrev SC := Ev → S3 → SR
abbrev Fn := List D → S3 → R D

def S3.set (S : S3) (n : Nat) (o : Ob) : S3 := { S with cs := fun m => cond (Nat.beq m n) (some o) (S.cs m) }
def S3.new (S : S3) (o : Ob) : S3 := { S with cs := fun m => cond (Nat.beq m S.nx) (some o) (S.cs m), nx := Nat.succ S.nx }
def S3.kill (S : S3) (n : Nat) : S3 := { S with cs := fun m => cond (Nat.beq m n) none (S.cs m) }
theorem condN {α : Type} (m n : Nat) (x y : α) : cond (Nat.beq m n) x y = if m = n then x else y := by
  by_cases h : m = n
  · rw [if_pos h, Nat.beq_eq.mpr h]; rfl
  · rw [if_neg h, Bool.eq_false_iff.mpr (fun z => h (Nat.beq_eq.mp z))]; rfl

/-! ### tables -/
section
variable {κ : Type} [DecidableEq κ] {α : Type}
def getA : List (κ × α) → κ → Option α
  | [], _ => none
  | (k, v) :: r, j => if k = j then some v else getA r j
def putA : List (κ × α) → κ → α → List (κ × α)
  | [], j, x => [(j, x)]
  | (k, v) :: r, j, x => if k = j then (k, x) :: r else (k, v) :: putA r j x
def dropA (l : List (κ × α)) (j : κ) : List (κ × α) := l.filter fun p => decide (p.1 ≠ j)
end

/-! ### worlds -/
structure Wld where
  ph : List Addr
  F : Hp
structure Wld.Le (g g' : Wld) : Prop where
  ph : ∀ (n : Nat) (a : Addr), g.ph[n]? = some a → g'.ph[n]? = some a
  fr : ∀ a u, g.F a = some u → g'.F a = some u
theorem Wld.Le.refl (g : Wld) : g.Le g := ⟨fun _ _ h => h, fun _ _ h => h⟩
theorem Wld.Le.trans {g g1 g2 : Wld} (a : g.Le g1) (b : g1.Le g2) : g.Le g2 := ⟨fun n x h => b.ph n x (a.ph n x h), fun x u h => b.fr x u (a.fr x u h)⟩

/-- where the classes stand, what the head saw -/
structure CAK where
  f : Nat → Addr
  K : PySem.W.Frag
  /-- what the symbolic numbers stand for -/
  sy : Nat → Int := fun _ => 0
  syB : ∀ k, 0 ≤ sy k ∧ sy k < 10 ^ 10 := by intro k; exact ⟨by show (0 : Int) ≤ 0; decide, by show (0 : Int) < _; decide⟩
instance : CoeFun CAK (fun _ => Nat → Addr) := ⟨CAK.f⟩
/-- flat data as it is read, the symbolic numbers put in -/
def pdFlatY (y : Nat → Int) : D → Option PyData
  | .non => some .none
  | .bl b => some (.bool b)
  | .int i => if i.natAbs.log2 < 1920 then some (.int i) else none
  | .str z => some (.str z)
  | .sym k => some (.int (y k))
  | _ => none
def keyP : Key → Option PyData
  | .inl i => if i.natAbs.log2 < 1920 then some (.int i) else none
  | .inr s => some (.str s)
def pdKvY (y : Nat → Int) : List (Key × D) → Option (List (PyData × PyData))
  | [] => some []
  | (k, d) :: r => match keyP k, pdFlatY y d, pdKvY y r with
    | some a, some b, some c => some ((a, b) :: c)
    | _, _, _ => none
/-- a list among the head's objects -/
def KLst (K : PySem.W.Frag) (a : Addr) (xs : List V) : Prop := ∃ (o : Obj) (its : Array Value) (n : Nat), K.lookup a = some o ∧ o.cls = .type "list" ∧ o.dict = none ∧ o.data = .seq its n ∧ its.size ≤ sizeLine ∧ Vals xs its.toList
variable (ca : CAK)
mutual
inductive Rep (g : Wld) : V → D → Prop
  | non : Rep g .non .non
  | bl (b : Bool) : Rep g (.bl b) (.bl b)
  | int (i : Int) : Rep g (.int i) (.int i)
  | sym (k : Nat) : Rep g (.int (ca.sy k)) (.sym k)
  | txt {ks : List (Key × D)} {ps : List (PyData × PyData)} : pdKvY ca.sy ks = some ps → Rep g (.str (PyData.dict ps).shown) (.txt ks)
  | str (s : Str) : Rep g (.str s) (.str s)
  | cell {n : Nat} {a : Addr} : g.ph[n]? = some a → Rep g (.ref a) (.cell n)
  | lst {a : Addr} {vs : List V} {ds : List D} : g.F a = some (.lst vs) → RepL g vs ds → Rep g (.ref a) (.lst ds)
  | scrK {a : Addr} {vs : List V} {ds : List D} : KLst ca.K a vs → RepL g vs ds → Rep g (.ref a) (.scr ds)
  | scrF {a : Addr} {vs : List V} {ds : List D} : g.F a = some (.lst vs) → RepL g vs ds → Rep g (.ref a) (.scr ds)
  | tup {a : Addr} {vs : List V} {ds : List D} : g.F a = some (.tup vs) → RepL g vs ds → Rep g (.ref a) (.tup ds)
  | dic {a : Addr} {vs : List (Key × V)} {ds : List (Key × D)} : g.F a = some (.dK vs) → RepK g vs ds → Rep g (.ref a) (.dic ds)
  | ins {a dx : Addr} {c : Nat} {vs : List (Str × V)} {ds : List (Str × D)} : g.F a = some (.ins (ca c) dx vs) → RepF g vs ds → Rep g (.ref a) (.ins c ds)
inductive RepL (g : Wld) : List V → List D → Prop
  | nil : RepL g [] []
  | cons {v : V} {d : D} {vs : List V} {ds : List D} : Rep g v d → RepL g vs ds → RepL g (v :: vs) (d :: ds)
inductive RepK (g : Wld) : List (Key × V) → List (Key × D) → Prop
  | nil : RepK g [] []
  | cons {k : Key} {v : V} {d : D} {vs : List (Key × V)} {ds : List (Key × D)} : Rep g v d → RepK g vs ds → RepK g ((k, v) :: vs) ((k, d) :: ds)
inductive RepF (g : Wld) : List (Str × V) → List (Str × D) → Prop
  | nil : RepF g [] []
  | cons {k : Str} {v : V} {d : D} {vs : List (Str × V)} {ds : List (Str × D)} : Rep g v d → RepF g vs ds → RepF g ((k, v) :: vs) ((k, d) :: ds)
end
inductive RepO (g : Wld) : Ob → HO → Prop
  | lst {vs : List V} {ds : List D} : RepL ca g vs ds → RepO g (.lst ds) (.lst vs)
  | dic {vs : List (Key × V)} {ds : List (Key × D)} : RepK ca g vs ds → RepO g (.dic ds) (.dK vs)
  | ins {dx : Addr} {c : Nat} {vs : List (Str × V)} {ds : List (Str × D)} : RepF ca g vs ds → RepO g (.ins c ds) (.ins (ca c) dx vs)

variable {ca}
mutual
theorem Rep.mono {g g' : Wld} (h : g.Le g') : ∀ {v : V} {d : D}, Rep ca g v d → Rep ca g' v d
  | _, _, .non => .non
  | _, _, .bl b => .bl b
  | _, _, .int i => .int i
  | _, _, .sym k => .sym k
  | _, _, .txt e => .txt e
  | _, _, .str s => .str s
  | _, _, .cell e => .cell (h.ph _ _ e)
  | _, _, .lst e r => .lst (h.fr _ _ e) (RepL.mono h r)
  | _, _, .scrK e r => .scrK e (RepL.mono h r)
  | _, _, .scrF e r => .scrF (h.fr _ _ e) (RepL.mono h r)
  | _, _, .tup e r => .tup (h.fr _ _ e) (RepL.mono h r)
  | _, _, .dic e r => .dic (h.fr _ _ e) (RepK.mono h r)
  | _, _, .ins e r => .ins (h.fr _ _ e) (RepF.mono h r)
theorem RepL.mono {g g' : Wld} (h : g.Le g') : ∀ {v : List V} {d : List D}, RepL ca g v d → RepL ca g' v d
  | _, _, .nil => .nil
  | _, _, .cons r t => .cons (Rep.mono h r) (RepL.mono h t)
theorem RepK.mono {g g' : Wld} (h : g.Le g') : ∀ {v : List (Key × V)} {d : List (Key × D)}, RepK ca g v d → RepK ca g' v d
  | _, _, .nil => .nil
  | _, _, .cons r t => .cons (Rep.mono h r) (RepK.mono h t)
theorem RepF.mono {g g' : Wld} (h : g.Le g') : ∀ {v : List (Str × V)} {d : List (Str × D)}, RepF ca g v d → RepF ca g' v d
  | _, _, .nil => .nil
  | _, _, .cons r t => .cons (Rep.mono h r) (RepF.mono h t)
end
theorem RepO.mono {g g' : Wld} (h : g.Le g') {o : Ob} {u : HO} : RepO ca g o u → RepO ca g' o u
  | .lst r => .lst (r.mono h)
  | .dic r => .dic (r.mono h)
  | .ins r => .ins (r.mono h)

/-- how a frozen thing stands: a list, a dict may be locked -/
def FrzAs (H : Hp) (a : Addr) : HO → Prop
  | .lst xs => Rd H a (.lst xs)
  | .dK ks => Rd H a (.dK ks)
  | .tup xs => H a = some (.tup xs)
  | .ins C dx fs => H a = some (.ins C dx fs)
  | _ => False
/-- how a cell stands -/
def CelAs (lk : List Nat) (H : Hp) (n : Nat) (a : Addr) (u : HO) : Prop := (n ∈ lk → ∃ o, H a = some (.frz o u)) ∧ (n ∉ lk → H a = some u)
/-- what may be locked -/
def Lkb : Ob → Prop
  | .ins _ _ => False
  | _ => True
variable (ca)
structure Sim (g : Wld) (S : S3) (H : Hp) : Prop where
  len : g.ph.length = S.nx
  inj : g.ph.Nodup
  frz : ∀ a u, g.F a = some u → FrzAs H a u
  cel : ∀ (n : Nat) (ob : Ob), S.cs n = some ob → ∃ a u, g.ph[n]? = some a ∧ g.F a = none ∧ RepO ca g ob u ∧ CelAs S.lk H n a u
  old : ∀ (n : Nat) (a : Addr), g.ph[n]? = some a → H a ≠ none
  lkd : ∀ (n : Nat), n ∈ S.lk → ∃ ob, S.cs n = some ob ∧ Lkb ob
/-- a thing of H that the world doesn't speak of -/
def Out (g : Wld) (a : Addr) : Prop := (∀ n : Nat, g.ph[n]? ≠ some a) ∧ g.F a = none
/-- later worlds -/
structure Ext (g : Wld) (H : Hp) (g' : Wld) (H' : Hp) : Prop where
  le : g.Le g'
  fz : ∀ a o u, H a = some (.frz o u) → H' a = some (.frz o u)
  old : ∀ a, H a ≠ none → H' a ≠ none
  nph : ∀ (n : Nat) (a : Addr), g'.ph[n]? = some a → g.ph[n]? = some a ∨ H a = none
  nfr : ∀ a u, g'.F a = some u → g.F a = some u ∨ H a = none ∨ ∃ n : Nat, g.ph[n]? = some a
  rest : ∀ a o, H a = some o → Out g a → H' a = some o
variable {ca}
theorem Ext.refl (g : Wld) (H : Hp) : Ext g H g H := ⟨.refl g, fun _ _ _ h => h, fun _ h => h, fun _ _ h => .inl h, fun _ _ h => .inl h, fun _ _ h _ => h⟩
theorem Ext.out {g g' : Wld} {H H' : Hp} (x : Ext g H g' H') {a : Addr} (h : Out g a) (e : H a ≠ none) : Out g' a := by
  refine ⟨fun n q => ?_, ?_⟩
  · rcases x.nph n a q with z | z
    · exact h.1 n z
    · exact e z
  · cases q : g'.F a with
    | none => rfl
    | some u =>
      rcases x.nfr a u q with z | z | ⟨n, z⟩
      · rw [h.2] at z; cases z
      · exact absurd z e
      · exact absurd z (h.1 n)
theorem Ext.trans {g g1 g2 : Wld} {H H1 H2 : Hp} (a : Ext g H g1 H1) (b : Ext g1 H1 g2 H2) : Ext g H g2 H2 where
  le := a.le.trans b.le
  fz := fun x o u h => b.fz x o u (a.fz x o u h)
  old := fun x h => b.old x (a.old x h)
  nph := fun n x h => by
    rcases b.nph n x h with z | z
    · exact a.nph n x z
    · by_cases e : H x = none
      · exact .inr e
      · exact absurd z (a.old x e)
  nfr := fun x u h => by
    rcases b.nfr x u h with z | z | ⟨n, z⟩
    · exact a.nfr x u z
    · by_cases e : H x = none
      · exact .inr (.inl e)
      · exact absurd z (a.old x e)
    · rcases a.nph n x z with q | q
      · exact .inr (.inr ⟨n, q⟩)
      · exact .inr (.inl q)
  rest := fun x o h q => b.rest x o (a.rest x o h q) (a.out q (by rw [h]; exact fun z => nomatch z))
/-- a thing that was not there ahead is written -/
theorem Ext.upd {g g' : Wld} {H H' : Hp} (x : Ext g H g' H') {p : Addr} (hp : H p = none) (o : HO) : Ext g H g' (L2.upd H' p o) where
  le := x.le
  fz := fun a q u h => by rw [upd_ne (ne_of_none h hp)]; exact x.fz a q u h
  old := fun a h => by
    by_cases e : a = p
    · rw [e, upd_same]; exact fun z => nomatch z
    · rw [upd_ne e]; exact x.old a h
  nph := x.nph
  nfr := x.nfr
  rest := fun a q h z => by rw [upd_ne (ne_of_none h hp)]; exact x.rest a q h z

/-! ### slots -/
variable (ca)
structure EnvR (g : Wld) (v : Ev) (σ : St) : Prop where
  len : v.length = σ.length
  at_ : ∀ (i : Nat) (d : D), v[i]? = some (some d) → ∃ x, σ[i]? = some (some x) ∧ Rep ca g x d
variable {ca}
theorem EnvR.mono {g g' : Wld} (h : g.Le g') {v : Ev} {σ : St} (e : EnvR ca g v σ) : EnvR ca g' v σ := ⟨e.len, fun i d q => let ⟨x, a, b⟩ := e.at_ i d q; ⟨x, a, b.mono h⟩⟩
theorem EnvR.set {g : Wld} {v : Ev} {σ : St} (e : EnvR ca g v σ) (i : Nat) {x : V} {d : D} (r : Rep ca g x d) : EnvR ca g (v.set i (some d)) (σ.set i (some x)) := by
  refine ⟨by rw [List.length_set, List.length_set, e.len], fun j d' q => ?_⟩
  by_cases hj : i = j
  · subst hj
    by_cases hi : i < v.length
    · rw [List.getElem?_set_self hi] at q
      cases q
      exact ⟨x, List.getElem?_set_self (by rw [← e.len]; exact hi), r⟩
    · rw [List.getElem?_eq_none (by rw [List.length_set]; omega)] at q
      cases q
  · rw [List.getElem?_set_ne hj] at q
    rw [List.getElem?_set_ne hj]
    exact e.at_ j d' q
theorem EnvR.unset {g : Wld} {v : Ev} {σ : St} (e : EnvR ca g v σ) (i : Nat) : EnvR ca g (v.set i none) (σ.set i none) := by
  refine ⟨by rw [List.length_set, List.length_set, e.len], fun j d' q => ?_⟩
  by_cases hj : i = j
  · subst hj
    by_cases hi : i < v.length
    · rw [List.getElem?_set_self hi] at q; cases q
    · rw [List.getElem?_eq_none (by rw [List.length_set]; omega)] at q; cases q
  · rw [List.getElem?_set_ne hj] at q
    rw [List.getElem?_set_ne hj]
    exact e.at_ j d' q

/-! ### what follows a run -/
variable (ca)
def Fin {α : Type} (g : Wld) (H : Hp) (r : R α) (QO : α → Wld → Hp → Prop) (QE : Exn → Wld → Hp → Prop) : Prop := match r with
  | .ok a S' => ∀ g' H', Ext g H g' H' → Sim ca g' S' H' → QO a g' H'
  | .ex e S' => ∀ g' H', Ext g H g' H' → Sim ca g' S' H' → QE e g' H'
  | .bad => False
/-- an exception and its words -/
def RepX (g : Wld) (H : Hp) (cls : Value) (od : Option Addr) (e : Exn) : Prop :=
  cls = .ref (ca e.c) ∧ match e.fs with
    | [] => od = none
    | f :: r => ∃ dx vs, od = some dx ∧ H dx = some (.xd vs) ∧ RepF ca g vs (f :: r)
def rdE (W : WX) (m : CE) : TE := fun σ H Q => ∃ v S g, Sim ca g S H ∧ EnvR ca g v σ ∧
  Fin ca g H (m v S) (fun d g' H' => ∀ x, Rep ca g' x d → Q x H') (fun e g' H' => ∀ cls od, RepX ca g' H' cls od e → W cls od σ H')
variable {ca}
theorem Fin.imp {α : Type} {g : Wld} {H : Hp} {r : R α} {QO QO' : α → Wld → Hp → Prop} {QE QE' : Exn → Wld → Hp → Prop} (h : Fin ca g H r QO QE)
    (ho : ∀ a g' H', Ext g H g' H' → QO a g' H' → QO' a g' H') (he : ∀ e g' H', Ext g H g' H' → QE e g' H' → QE' e g' H') : Fin ca g H r QO' QE' := by
  cases r with
  | ok a S => exact fun g' H' x s => ho a g' H' x (h g' H' x s)
  | ex e S => exact fun g' H' x s => he e g' H' x (h g' H' x s)
  | bad => exact h
theorem Fin.bind {α β : Type} {g : Wld} {H : Hp} {r : R α} {f : α → S3 → R β} {QO : β → Wld → Hp → Prop} {QE : Exn → Wld → Hp → Prop} (h : Fin ca g H (r.bind f) QO QE) :
    Fin ca g H r (fun _ _ _ => True) QE ∧ ∀ a S', r = .ok a S' → ∀ g' H', Ext g H g' H' → Sim ca g' S' H' → Fin ca g' H' (f a S') QO QE := by
  cases r with
  | ok a S =>
    refine ⟨fun _ _ _ _ => True.intro, fun a' S' e g' H' x s => ?_⟩
    cases e
    have h' : Fin ca g H (f a S) QO QE := h
    generalize f a S = q at h' ⊢
    cases q with
    | ok b S2 => exact fun g2 H2 x2 s2 => h' g2 H2 (x.trans x2) s2
    | ex b S2 => exact fun g2 H2 x2 s2 => h' g2 H2 (x.trans x2) s2
    | bad => exact h'
  | ex e S => exact ⟨h, fun _ _ e => nomatch e⟩
  | bad => exact h.elim
/-- the first part run: what is asked of the rest -/
theorem Fin.seq {α β : Type} {g : Wld} {H : Hp} {r : R α} {f : α → S3 → R β} {QO : β → Wld → Hp → Prop} {QE : Exn → Wld → Hp → Prop} (h : Fin ca g H (r.bind f) QO QE) :
    Fin ca g H r (fun a g' H' => ∃ S', Sim ca g' S' H' ∧ Fin ca g' H' (f a S') QO QE) QE := by
  obtain ⟨h1, h2⟩ := h.bind
  cases r with
  | ok a S => exact fun g' H' x s => ⟨S, s, h2 a S rfl g' H' x s⟩
  | ex e S => exact h1
  | bad => exact h1

/-! ### judgements weakened -/
theorem PE_imp {X : Cx} {e : Expr} {t t' : TE} (h : PE X e t) (i : ∀ σ H Q, t' σ H Q → t σ H Q) : PE X e t' := ⟨fun pins s σ H Q I q => h.run pins s σ H Q I (i σ H Q q)⟩
theorem PT_imp {X : Cx} {e : Expr} {t t' : TT} (h : PT X e t) (i : ∀ σ H Q, t' σ H Q → t σ H Q) : PT X e t' := ⟨fun pins s σ H Q I q => h.run pins s σ H Q I (i σ H Q q)⟩
theorem PA_imp {X : Cx} {e : List Expr} {t t' : TA} (h : PA X e t) (i : ∀ σ H Q, t' σ H Q → t σ H Q) : PA X e t' := ⟨fun pos pins s σ H Q I q => h.run pos pins s σ H Q I (i σ H Q q)⟩
theorem PS_imp {X : Cx} {e : Stmt} {t t' : TS} (h : PS X e t) (i : ∀ D σ H, t' D σ H → t D σ H) : PS X e t' := ⟨fun pins s σ H D I q => h.run pins s σ H D I (i D σ H q)⟩
theorem PSs_imp {X : Cx} {e : List Stmt} {t t' : TS} (h : PSs X e t) (i : ∀ D σ H, t' D σ H → t D σ H) : PSs X e t' := ⟨fun pins s σ H D I q => h.run pins s σ H D I (i D σ H q)⟩

/-! ### the store: new trees, new cells, written cells -/
theorem FrzAs.there {H : Hp} {a : Addr} {u : HO} (h : FrzAs H a u) : H a ≠ none := by
  intro e
  cases u with
  | lst xs => rcases h with h | ⟨o, h⟩ <;> (rw [e] at h; cases h)
  | dK xs => rcases h with h | ⟨o, h⟩ <;> (rw [e] at h; cases h)
  | tup xs =>
    have h : H a = some (.tup xs) := h
    rw [e] at h; cases h
  | ins C dx fs =>
    have h : H a = some (.ins C dx fs) := h
    rw [e] at h; cases h
  | _ => exact h
theorem CelAs.there {lk : List Nat} {H : Hp} {n : Nat} {a : Addr} {u : HO} (h : CelAs lk H n a u) : H a ≠ none := by
  intro e
  by_cases m : n ∈ lk
  · obtain ⟨o, q⟩ := h.1 m
    rw [e] at q; cases q
  · have q := h.2 m
    rw [e] at q; cases q
/-- the heap at other places -/
theorem FrzAs.of_eq {H H' : Hp} {a : Addr} {u : HO} (h : FrzAs H a u) (e : H' a = H a) : FrzAs H' a u := by
  cases u with
  | lst xs =>
    rcases h with h | ⟨o, h⟩
    · exact .inl (e.trans h)
    · exact .inr ⟨o, e.trans h⟩
  | dK xs =>
    rcases h with h | ⟨o, h⟩
    · exact .inl (e.trans h)
    · exact .inr ⟨o, e.trans h⟩
  | tup xs => exact e.trans h
  | ins C dx fs => exact e.trans h
  | _ => exact h
theorem CelAs.of_eq {lk : List Nat} {H H' : Hp} {n : Nat} {a : Addr} {u : HO} (h : CelAs lk H n a u) (e : H' a = H a) : CelAs lk H' n a u :=
  ⟨fun m => let ⟨o, q⟩ := h.1 m; ⟨o, e.trans q⟩, fun m => e.trans (h.2 m)⟩
def Wld.tree (g : Wld) (p : Addr) (u : HO) : Wld := ⟨g.ph, upd g.F p u⟩
def Wld.cell (g : Wld) (p : Addr) : Wld := ⟨g.ph ++ [p], g.F⟩
/-- a thing that may be frozen -/
def Frzn : HO → Prop
  | .lst _ => True
  | .dK _ => True
  | .tup _ => True
  | .ins _ _ _ => True
  | _ => False
section
variable {g : Wld} {S : S3} {H : Hp} {p : Addr} {u : HO}
theorem Sim.fresh (s : Sim ca g S H) (hp : H p = none) : g.F p = none ∧ ∀ (n : Nat), g.ph[n]? ≠ some p := by
  refine ⟨?_, fun n e => s.old n p e hp⟩
  cases e : g.F p with
  | none => rfl
  | some u => exact ((s.frz p u e).there hp).elim
theorem Sim.leTree (s : Sim ca g S H) (hp : H p = none) : g.Le (g.tree p u) := ⟨fun _ _ e => e, fun a w e => by
  show upd g.F p u a = some w
  rw [upd_ne (fun z => by rw [z, (s.fresh hp).1] at e; cases e)]
  exact e⟩
theorem Sim.extTree (s : Sim ca g S H) (hp : H p = none) : Ext g H (g.tree p u) (upd H p u) where
  le := s.leTree hp
  fz := fun a o w e => by rw [upd_ne (ne_of_none e hp)]; exact e
  old := fun a h => by rw [upd_ne (fun z : a = p => h (by rw [z]; exact hp))]; exact h
  nph := fun n a h => .inl h
  nfr := fun a w h => by
    by_cases e : a = p
    · exact .inr (.inl (e ▸ hp))
    · have h : L2.upd g.F p u a = some w := h
      rw [upd_ne e] at h
      exact .inl h
  rest := fun a o h _ => by rw [upd_ne (ne_of_none h hp)]; exact h
theorem Sim.tree (s : Sim ca g S H) (hp : H p = none) (hu : Frzn u) : Sim ca (g.tree p u) S (upd H p u) where
  len := s.len
  inj := s.inj
  frz := fun a w e => by
    by_cases ha : a = p
    · subst ha
      have e : upd g.F a u a = some w := e
      rw [upd_same] at e
      cases e
      cases u with
      | lst xs => exact .inl upd_same
      | dK xs => exact .inl upd_same
      | tup xs => exact upd_same
      | ins C dx fs => exact upd_same
      | _ => exact hu.elim
    · have e : upd g.F p u a = some w := e
      rw [upd_ne ha] at e
      exact (s.frz a w e).of_eq (upd_ne ha)
  cel := fun n ob e => by
    obtain ⟨a, w, h1, h2, h3, h4⟩ := s.cel n ob e
    have ha : a ≠ p := fun z => (s.fresh hp).2 n (z ▸ h1)
    exact ⟨a, w, h1, by show upd g.F p u a = none; rw [upd_ne ha]; exact h2, h3.mono (s.leTree hp), h4.of_eq (upd_ne ha)⟩
  old := fun n a e => by
    have ha : a ≠ p := fun z => (s.fresh hp).2 n (z ▸ e)
    rw [upd_ne ha]
    exact s.old n a e
  lkd := s.lkd
theorem get_snoc {α : Type} (l : List α) (x : α) : (l ++ [x])[l.length]? = some x := by simp
theorem get_app {α : Type} {l : List α} {x y : α} {n : Nat} (h : l[n]? = some y) : (l ++ [x])[n]? = some y := by
  rw [List.getElem?_append_left (List.getElem?_eq_some_iff.mp h).1]
  exact h
theorem Sim.leCell (g : Wld) (p : Addr) : g.Le (g.cell p) := ⟨fun n a e => get_app e, fun _ _ e => e⟩
theorem Sim.extCell (s : Sim ca g S H) (hp : H p = none) : Ext g H (g.cell p) (upd H p u) where
  le := Sim.leCell g p
  fz := fun a o w e => by rw [upd_ne (ne_of_none e hp)]; exact e
  old := fun a h => by rw [upd_ne (fun z : a = p => h (by rw [z]; exact hp))]; exact h
  nph := fun n a h => by
    have h : (g.ph ++ [p])[n]? = some a := h
    by_cases hn : n < g.ph.length
    · rw [List.getElem?_append_left hn] at h
      exact .inl h
    · rw [List.getElem?_append_right (by omega)] at h
      have : a ∈ [p] := List.mem_of_getElem? h
      have e : a = p := by simpa using this
      exact .inr (e ▸ hp)
  nfr := fun a w h => .inl h
  rest := fun a o h _ => by rw [upd_ne (ne_of_none h hp)]; exact h
theorem Sim.lk_lt (s : Sim ca g S H) {n : Nat} (h : n ∈ S.lk) : n < S.nx := by
  obtain ⟨ks, e, _⟩ := s.lkd n h
  obtain ⟨a, w, h1, _⟩ := s.cel n _ e
  rw [← s.len]
  exact (List.getElem?_eq_some_iff.mp h1).1
theorem Sim.cell (s : Sim ca g S H) (hp : H p = none) {ob : Ob} (r : RepO ca (g.cell p) ob u) : Sim ca (g.cell p) (S.new ob) (upd H p u) where
  len := by show (g.ph ++ [p]).length = S.nx + 1; rw [List.length_append, s.len]; rfl
  inj := by
    show (g.ph ++ [p]).Nodup
    refine List.nodup_append.mpr ⟨s.inj, by simp, fun a ha b hb e => ?_⟩
    have hb : b = p := by simpa using hb
    subst hb e
    obtain ⟨n, hn⟩ := List.getElem?_of_mem ha
    exact (s.fresh hp).2 n hn
  frz := fun a w e => (s.frz a w e).of_eq (upd_ne fun z => by
    have e : g.F a = some w := e
    rw [z, (s.fresh hp).1] at e; cases e)
  cel := fun n o e => by
    have e : (if n = S.nx then some ob else S.cs n) = some o := (condN _ _ _ _).symm.trans e
    by_cases hn : n = S.nx
    · rw [if_pos hn] at e
      cases e
      refine ⟨p, u, by rw [hn, ← s.len]; exact get_snoc _ _, (s.fresh hp).1, r, fun m => ?_, fun _ => upd_same⟩
      exact absurd (s.lk_lt m) (by rw [hn]; exact Nat.lt_irrefl _)
    · rw [if_neg hn] at e
      obtain ⟨a, w, h1, h2, h3, h4⟩ := s.cel n o e
      have ha : a ≠ p := fun z => (s.fresh hp).2 n (z ▸ h1)
      exact ⟨a, w, get_app h1, h2, h3.mono (Sim.leCell g p), h4.of_eq (upd_ne ha)⟩
  old := fun n a e => by
    have e : (g.ph ++ [p])[n]? = some a := e
    by_cases ha : a = p
    · rw [ha, upd_same]; exact fun z => nomatch z
    · rw [upd_ne ha]
      by_cases hn : n < g.ph.length
      · rw [List.getElem?_append_left hn] at e
        exact s.old n a e
      · rw [List.getElem?_append_right (by omega)] at e
        have : a ∈ [p] := List.mem_of_getElem? e
        exact absurd (by simpa using this) ha
  lkd := fun n m => by
    obtain ⟨ks, e, hb⟩ := s.lkd n m
    refine ⟨ks, ?_, hb⟩
    refine (condN _ _ _ _).trans ?_
    rw [if_neg (Nat.ne_of_lt (s.lk_lt m))]
    exact e
theorem nodup_ix' {l : List Addr} (hN : l.Nodup) {i j : Nat} {x : Addr} (a : l[i]? = some x) (b : l[j]? = some x) : i = j := by
  obtain ⟨h1, e1⟩ := List.getElem?_eq_some_iff.mp a
  obtain ⟨h2, e2⟩ := List.getElem?_eq_some_iff.mp b
  exact (List.getElem_inj hN).mp (e1.trans e2.symm)
/-- the address of a cell -/
theorem Sim.at_ (s : Sim ca g S H) {n : Nat} {a b : Addr} (h : g.ph[n]? = some a) {m : Nat} (h' : g.ph[m]? = some b) (hn : n ≠ m) : a ≠ b := fun e => by
  subst e
  exact hn (nodup_ix' s.inj h h')
/-- a cell that isn't locked is written -/
theorem Sim.write (s : Sim ca g S H) {n : Nat} {a : Addr} (h : g.ph[n]? = some a) {o' : Ob} (hc : S.cs n = some o') (hl : n ∉ S.lk) {ob : Ob} (r : RepO ca g ob u) : Sim ca g (S.set n ob) (upd H a u) where
  len := s.len
  inj := s.inj
  frz := fun b w e => (s.frz b w e).of_eq (upd_ne fun z => by
    obtain ⟨a', w', h1, h2, _⟩ := s.cel n o' hc
    rw [h] at h1; cases h1
    rw [z, h2] at e; cases e)
  cel := fun m o e => by
    have e : (if m = n then some ob else S.cs m) = some o := (condN _ _ _ _).symm.trans e
    by_cases hm : m = n
    · rw [if_pos hm] at e
      cases e
      subst hm
      obtain ⟨a', w', h1, h2, _⟩ := s.cel m o' hc
      rw [h] at h1; cases h1
      exact ⟨a, u, h, h2, r, fun z => absurd z hl, fun _ => upd_same⟩
    · rw [if_neg hm] at e
      obtain ⟨b, w, h1, h2, h3, h4⟩ := s.cel m o e
      exact ⟨b, w, h1, h2, h3, h4.of_eq (upd_ne (s.at_ h1 h hm))⟩
  old := fun m b e => by
    by_cases hb : b = a
    · rw [hb, upd_same]; exact fun z => nomatch z
    · rw [upd_ne hb]; exact s.old m b e
  lkd := fun m hm => by
    obtain ⟨ks, e, hb⟩ := s.lkd m hm
    refine ⟨ks, ?_, hb⟩
    refine (condN _ _ _ _).trans ?_
    rw [if_neg (fun z : m = n => hl (by rw [← z]; exact hm))]
    exact e
theorem Sim.extWrite {n : Nat} {a : Addr} (hn : ∀ o w, H a ≠ some (.frz o w)) (h : g.ph[n]? = some a) : Ext g H g (upd H a u) where
  le := .refl g
  fz := fun b o w e => by
    by_cases hb : b = a
    · rw [hb] at e; exact (hn o w e).elim
    · rw [upd_ne hb]; exact e
  old := fun b h => by
    by_cases hb : b = a
    · rw [hb, upd_same]; exact fun z => nomatch z
    · rw [upd_ne hb]; exact h
  nph := fun _ _ h => .inl h
  nfr := fun _ _ h => .inl h
  rest := fun b o e q => by
    by_cases hb : b = a
    · exact absurd h (hb ▸ q.1 n)
    · rw [upd_ne hb]; exact e
theorem Wld.leOut {g : Wld} {p : Addr} {u : HO} (hp : g.F p = none) : g.Le (g.tree p u) := ⟨fun _ _ e => e, fun b w e => by
  show upd g.F p u b = some w
  rw [upd_ne (fun z => by rw [z, hp] at e; cases e)]
  exact e⟩
/-- a thing beside the world comes into it -/
theorem Sim.adopt (s : Sim ca g S H) (hp : Out g p) (hH : H p = some u) (hu : Frzn u) : Sim ca (g.tree p u) S H where
  len := s.len
  inj := s.inj
  frz := fun a w e => by
    by_cases ha : a = p
    · subst ha
      have e : upd g.F a u a = some w := e
      rw [upd_same] at e
      cases e
      cases u with
      | lst xs => exact .inl hH
      | dK xs => exact .inl hH
      | tup xs => exact hH
      | ins C dx fs => exact hH
      | _ => exact hu.elim
    · have e : upd g.F p u a = some w := e
      rw [upd_ne ha] at e
      exact s.frz a w e
  cel := fun n ob e => by
    obtain ⟨a, w, h1, h2, h3, h4⟩ := s.cel n ob e
    have ha : a ≠ p := fun z => hp.1 n (z ▸ h1)
    exact ⟨a, w, h1, by show upd g.F p u a = none; rw [upd_ne ha]; exact h2, h3.mono (Wld.leOut hp.2), h4⟩
  old := s.old
  lkd := s.lkd
theorem Sim.extAdopt (s : Sim ca g S H) {g0 : Wld} {H0 : Hp} (x : Ext g0 H0 g H) (h0 : H0 p = none) (hp : Out g p) : Ext g0 H0 (g.tree p u) H where
  le := x.le.trans ⟨fun _ _ e => e, fun b w e => by
    show upd g.F p u b = some w
    rw [upd_ne (fun z => by rw [z, hp.2] at e; cases e)]
    exact e⟩
  fz := x.fz
  old := x.old
  nph := x.nph
  nfr := fun a w h => by
    by_cases e : a = p
    · exact .inr (.inl (e ▸ h0))
    · have h : upd g.F p u a = some w := h
      rw [upd_ne e] at h
      exact x.nfr a w h
  rest := x.rest
/-- a thing beside the world is written -/
theorem Sim.updOut (s : Sim ca g S H) (hp : Out g p) : Sim ca g S (upd H p u) where
  len := s.len
  inj := s.inj
  frz := fun a w e => (s.frz a w e).of_eq (upd_ne fun z => by rw [z, hp.2] at e; cases e)
  cel := fun n ob e => by
    obtain ⟨a, w, h1, h2, h3, h4⟩ := s.cel n ob e
    exact ⟨a, w, h1, h2, h3, h4.of_eq (upd_ne fun z => hp.1 n (z ▸ h1))⟩
  old := fun n a e => by
    rw [upd_ne (fun z : a = p => hp.1 n (by rw [← z]; exact e))]
    exact s.old n a e
  lkd := s.lkd
theorem Sim.freshOut (s : Sim ca g S H) (hp : H p = none) : Out g p := ⟨(s.fresh hp).2, (s.fresh hp).1⟩
/-- a cell that is not to change any more becomes a tree -/
theorem Sim.freeze (s : Sim ca g S H) {n : Nat} {ob : Ob} (h : S.cs n = some ob) (hl : n ∉ S.lk) : ∃ a u, g.ph[n]? = some a ∧ RepO ca g ob u ∧ H a = some u ∧ Frzn u ∧ Sim ca (g.tree a u) (S.kill n) H ∧ Ext g H (g.tree a u) H := by
  obtain ⟨a, u, h1, h2, h3, h4⟩ := s.cel n ob h
  have hu : Frzn u := by cases h3 <;> exact True.intro
  have le : g.Le (g.tree a u) := ⟨fun _ _ e => e, fun b w e => by
    show upd g.F a u b = some w
    rw [upd_ne (fun z => by rw [z, h2] at e; cases e)]
    exact e⟩
  refine ⟨a, u, h1, h3, h4.2 hl, hu, ⟨s.len, s.inj, fun b w e => ?_, fun m o e => ?_, s.old, fun m hm => ?_⟩, ⟨le, fun _ _ _ e => e, fun _ e => e, fun _ _ e => .inl e, fun b w e => ?_, fun _ _ e _ => e⟩⟩
  · by_cases hb : b = a
    · subst hb
      have e : upd g.F b u b = some w := e
      rw [upd_same] at e
      cases e
      have z := h4.2 hl
      cases u with
      | lst xs => exact .inl z
      | dK xs => exact .inl z
      | tup xs => exact z
      | ins C dx fs => exact z
      | _ => exact hu.elim
    · have e : upd g.F a u b = some w := e
      rw [upd_ne hb] at e
      exact s.frz b w e
  · have e : (if m = n then none else S.cs m) = some o := (condN _ _ _ _).symm.trans e
    by_cases hm : m = n
    · rw [if_pos hm] at e; cases e
    · rw [if_neg hm] at e
      obtain ⟨b, w, k1, k2, k3, k4⟩ := s.cel m o e
      exact ⟨b, w, k1, by show upd g.F a u b = none; rw [upd_ne (s.at_ k1 h1 hm)]; exact k2, k3.mono le, k4⟩
  · obtain ⟨ks, e, hb⟩ := s.lkd m hm
    refine ⟨ks, ?_, hb⟩
    refine (condN _ _ _ _).trans ?_
    rw [if_neg (fun z : m = n => hl (by rw [← z]; exact hm))]
    exact e
  · by_cases hb : b = a
    · exact .inr (.inr ⟨n, hb ▸ h1⟩)
    · have e : upd g.F a u b = some w := e
      rw [upd_ne hb] at e
      exact .inl e
end
end M3
/-! M3B: expressions, their machine readings. -/
namespace M3
open PySem L2
variable {ca : CAK}

/-! ### what stands behind a datum -/
def obOf (S : S3) : D → Option Ob
  | .lst xs => some (.lst xs)
  | .dic ks => some (.dic ks)
  | .ins c fs => some (.ins c fs)
  | .cell n => S.cs n
  | _ => none
def lstOf (S : S3) (d : D) : Option (List D) := match obOf S d with
  | some (.lst xs) => some xs
  | _ => none
def dicOf (S : S3) (d : D) : Option (List (Key × D)) := match obOf S d with
  | some (.dic ks) => some ks
  | _ => none
def insOf (S : S3) (d : D) : Option (Nat × List (Str × D)) := match obOf S d with
  | some (.ins c fs) => some (c, fs)
  | _ => none
theorem lstOf_eq {S : S3} {d : D} {xs : List D} (h : lstOf S d = some xs) : obOf S d = some (.lst xs) := by
  unfold lstOf at h
  split at h
  · rename_i ys e
    cases h
    exact e
  · cases h
theorem dicOf_eq {S : S3} {d : D} {xs : List (Key × D)} (h : dicOf S d = some xs) : obOf S d = some (.dic xs) := by
  unfold dicOf at h
  split at h
  · rename_i ys e
    cases h
    exact e
  · cases h
theorem insOf_eq {S : S3} {d : D} {c : Nat} {fs : List (Str × D)} (h : insOf S d = some (c, fs)) : obOf S d = some (.ins c fs) := by
  unfold insOf at h
  split at h
  · rename_i c' ys e
    cases h
    exact e
  · cases h
section
variable {g : Wld} {S : S3} {H : Hp} {v : V} {d : D}
theorem Sim.ob (s : Sim ca g S H) (r : Rep ca g v d) {o : Ob} (h : obOf S d = some o) :
    ∃ a u, v = .ref a ∧ RepO ca g o u ∧ ((FrzAs H a u ∧ g.F a = some u) ∨ ∃ n, d = .cell n ∧ g.ph[n]? = some a ∧ S.cs n = some o ∧ CelAs S.lk H n a u) := by
  cases r with
  | cell e =>
    obtain ⟨a, u, h1, h2, h3, h4⟩ := s.cel _ _ h
    rw [e] at h1
    cases h1
    exact ⟨_, u, rfl, h3, .inr ⟨_, rfl, e, h, h4⟩⟩
  | lst e r => cases h; exact ⟨_, _, rfl, .lst r, .inl ⟨s.frz _ _ e, e⟩⟩
  | dic e r => cases h; exact ⟨_, _, rfl, .dic r, .inl ⟨s.frz _ _ e, e⟩⟩
  | ins e r => cases h; exact ⟨_, _, rfl, .ins r, .inl ⟨s.frz _ _ e, e⟩⟩
  | _ => cases h
theorem Sim.nolk (s : Sim ca g S H) {n : Nat} {o : Ob} (h : S.cs n = some o) (hd : ¬ Lkb o) : n ∉ S.lk := fun m => by
  obtain ⟨ks, e, hb⟩ := s.lkd n m
  rw [h] at e
  cases e
  exact hd hb
theorem Sim.lst (s : Sim ca g S H) (r : Rep ca g v d) {ds : List D} (h : lstOf S d = some ds) : ∃ a vs, v = .ref a ∧ Rd H a (.lst vs) ∧ RepL ca g vs ds := by
  obtain ⟨a, u, e, ro, q⟩ := s.ob r (lstOf_eq h)
  cases ro with
  | lst rl =>
    refine ⟨a, _, e, ?_, rl⟩
    rcases q with ⟨q, _⟩ | ⟨n, _, _, hc, q⟩
    · exact q
    · by_cases m : n ∈ S.lk
      · obtain ⟨o, z⟩ := q.1 m
        exact .inr ⟨o, z⟩
      · exact .inl (q.2 m)
theorem Sim.dic (s : Sim ca g S H) (r : Rep ca g v d) {ds : List (Key × D)} (h : dicOf S d = some ds) : ∃ a vs, v = .ref a ∧ Rd H a (.dK vs) ∧ RepK ca g vs ds := by
  obtain ⟨a, u, e, ro, q⟩ := s.ob r (dicOf_eq h)
  cases ro with
  | dic rl =>
    refine ⟨a, _, e, ?_, rl⟩
    rcases q with ⟨q, _⟩ | ⟨n, _, _, hc, q⟩
    · exact q
    · by_cases m : n ∈ S.lk
      · obtain ⟨o, z⟩ := q.1 m
        exact .inr ⟨o, z⟩
      · exact .inl (q.2 m)
theorem Sim.ins (s : Sim ca g S H) (r : Rep ca g v d) {c : Nat} {ds : List (Str × D)} (h : insOf S d = some (c, ds)) : ∃ a dx vs, v = .ref a ∧ H a = some (.ins (ca c) dx vs) ∧ RepF ca g vs ds := by
  obtain ⟨a, u, e, ro, q⟩ := s.ob r (insOf_eq h)
  cases ro with
  | @ins dx _ vs _ rl =>
    refine ⟨a, dx, vs, e, ?_, rl⟩
    rcases q with ⟨q, _⟩ | ⟨n, _, _, hc, q⟩
    · exact q
    · exact q.2 (s.nolk hc fun z => z)
theorem Sim.tup (s : Sim ca g S H) {ds : List D} (r : Rep ca g v (.tup ds)) : ∃ a vs, v = .ref a ∧ H a = some (.tup vs) ∧ RepL ca g vs ds := by
  cases r with
  | tup e r => exact ⟨_, _, rfl, s.frz _ _ e, r⟩
theorem Sim.cellOb (s : Sim ca g S H) {n : Nat} {o : Ob} (r : Rep ca g v (.cell n)) (h : S.cs n = some o) (hl : n ∉ S.lk) : ∃ a u, v = .ref a ∧ g.ph[n]? = some a ∧ RepO ca g o u ∧ H a = some u := by
  cases r with
  | cell e =>
    obtain ⟨a, u, h1, h2, h3, h4⟩ := s.cel _ _ h
    rw [e] at h1
    cases h1
    exact ⟨_, u, rfl, e, h3, h4.2 hl⟩
end
/-! ### lists of representations -/
section
variable {g : Wld}
theorem RepL.len : ∀ {vs : List V} {ds : List D}, RepL ca g vs ds → vs.length = ds.length
  | _, _, .nil => rfl
  | _, _, .cons _ t => congrArg Nat.succ (RepL.len t)
theorem RepK.len : ∀ {vs : List (Key × V)} {ds : List (Key × D)}, RepK ca g vs ds → vs.length = ds.length
  | _, _, .nil => rfl
  | _, _, .cons _ t => congrArg Nat.succ (RepK.len t)
theorem RepF.len : ∀ {vs : List (Str × V)} {ds : List (Str × D)}, RepF ca g vs ds → vs.length = ds.length
  | _, _, .nil => rfl
  | _, _, .cons _ t => congrArg Nat.succ (RepF.len t)
theorem RepL.get : ∀ {vs : List V} {ds : List D} {i : Nat} {d : D}, RepL ca g vs ds → ds[i]? = some d → ∃ v, vs[i]? = some v ∧ Rep ca g v d
  | _, _, _, _, .nil, e => by simp at e
  | _, _, 0, _, .cons r _, e => by simp at e; subst e; exact ⟨_, rfl, r⟩
  | _, _, i + 1, d, .cons _ t, e => by
    obtain ⟨u, h1, h2⟩ := RepL.get (i := i) (d := d) t (by simpa using e)
    exact ⟨u, by simpa using h1, h2⟩
theorem RepL.app : ∀ {vs ws : List V} {ds es : List D}, RepL ca g vs ds → RepL ca g ws es → RepL ca g (vs ++ ws) (ds ++ es)
  | _, _, _, _, .nil, s => s
  | _, _, _, _, .cons r t, s => .cons r (RepL.app t s)
theorem RepL.take : ∀ {vs : List V} {ds : List D} (n : Nat), RepL ca g vs ds → RepL ca g (vs.take n) (ds.take n)
  | _, _, 0, _ => .nil
  | _, _, _ + 1, .nil => .nil
  | _, _, n + 1, .cons r t => .cons r (RepL.take n t)
theorem RepL.drop : ∀ {vs : List V} {ds : List D} (n : Nat), RepL ca g vs ds → RepL ca g (vs.drop n) (ds.drop n)
  | _, _, 0, r => r
  | _, _, _ + 1, .nil => .nil
  | _, _, n + 1, .cons _ t => RepL.drop n t
theorem RepL.set {v : V} {d : D} (r : Rep ca g v d) : ∀ {vs : List V} {ds : List D} (i : Nat), RepL ca g vs ds → RepL ca g (vs.set i v) (ds.set i d)
  | _, _, _, .nil => .nil
  | _, _, 0, .cons _ t => .cons r t
  | _, _, i + 1, .cons q t => .cons q (RepL.set r i t)
theorem RepL.rev {vs : List V} {ds : List D} (r : RepL ca g vs ds) : RepL ca g vs.reverse ds.reverse := by
  have all : ∀ {vs : List V} {ds : List D} {ws : List V} {es : List D}, RepL ca g vs ds → RepL ca g ws es → RepL ca g (vs.reverseAux ws) (ds.reverseAux es) := by
    intro vs
    induction vs with
    | nil => intro ds ws es h k; cases h; exact k
    | cons v vs ih =>
      intro ds ws es h k
      cases h with
      | cons r t =>
        have z := ih t (RepL.cons r k)
        exact z
  exact all r .nil
theorem RepF.get : ∀ {vs : List (Str × V)} {ds : List (Str × D)} {f : Str} {d : D}, RepF ca g vs ds → getA ds f = some d → ∃ v, vs.lookup f = some v ∧ Rep ca g v d
  | _, _, _, _, .nil, e => by cases e
  | _, _, f, d, .cons (k := k) r t, e => by
    unfold getA at e
    by_cases h : k = f
    · rw [if_pos h] at e
      cases e
      refine ⟨_, ?_, r⟩
      simp [List.lookup_cons, h]
    · rw [if_neg h] at e
      obtain ⟨v, q, rv⟩ := RepF.get t e
      refine ⟨v, ?_, rv⟩
      have hb : (f == k) = false := beq_eq_false_iff_ne.mpr fun z => h z.symm
      rw [List.lookup_cons, hb]
      exact q
theorem RepF.none : ∀ {vs : List (Str × V)} {ds : List (Str × D)} {f : Str}, RepF ca g vs ds → getA ds f = none → vs.lookup f = none
  | _, _, _, .nil, _ => rfl
  | _, _, f, .cons (k := k) r t, e => by
    unfold getA at e
    by_cases h : k = f
    · rw [if_pos h] at e; cases e
    · rw [if_neg h] at e
      have hb : (f == k) = false := beq_eq_false_iff_ne.mpr fun z => h z.symm
      rw [List.lookup_cons, hb]
      exact RepF.none t e
theorem RepF.put {v : V} {d : D} (r : Rep ca g v d) (f : Str) : ∀ {vs : List (Str × V)} {ds : List (Str × D)}, RepF ca g vs ds → RepF ca g (putF f v vs) (putA ds f d)
  | _, _, .nil => .cons r .nil
  | _, _, .cons (k := k) (v := v') (vs := vs) q t => by
    show RepF ca g (if k = f then (k, v) :: vs else (k, v') :: putF f v vs) (putA _ f d)
    unfold putA
    by_cases h : k = f
    · rw [if_pos h, if_pos h]; exact .cons r t
    · rw [if_neg h, if_neg h]; exact .cons q (RepF.put r f t)
theorem RepK.get : ∀ {vs : List (Key × V)} {ds : List (Key × D)} {k : Key} {d : D}, RepK ca g vs ds → getA ds k = some d → ∃ v, valV vs k = some v ∧ Rep ca g v d
  | _, _, _, _, .nil, e => by cases e
  | _, _, f, d, .cons (k := k) r t, e => by
    unfold getA at e
    by_cases h : k = f
    · rw [if_pos h] at e
      cases e
      exact ⟨_, valV_pos h, r⟩
    · rw [if_neg h] at e
      obtain ⟨v, q, rv⟩ := RepK.get t e
      exact ⟨v, (valV_neg h).trans q, rv⟩
theorem RepK.none : ∀ {vs : List (Key × V)} {ds : List (Key × D)} {k : Key}, RepK ca g vs ds → getA ds k = none → valV vs k = none
  | _, _, _, .nil, _ => rfl
  | _, _, f, .cons (k := k) r t, e => by
    unfold getA at e
    by_cases h : k = f
    · rw [if_pos h] at e; cases e
    · rw [if_neg h] at e
      exact (valV_neg h).trans (RepK.none t e)
theorem RepK.val {vs : List (Key × V)} {ds : List (Key × D)} (r : RepK ca g vs ds) (k : Key) : (valV vs k).isSome = (getA ds k).isSome := by
  cases e : getA ds k with
  | none => rw [r.none e]; rfl
  | some d =>
    obtain ⟨v, q, _⟩ := r.get e
    rw [q]; rfl
theorem RepK.app : ∀ {vs ws : List (Key × V)} {ds es : List (Key × D)}, RepK ca g vs ds → RepK ca g ws es → RepK ca g (vs ++ ws) (ds ++ es)
  | _, _, _, _, .nil, s => s
  | _, _, _, _, .cons r t, s => .cons r (RepK.app t s)
theorem putA_new {κ α : Type} [DecidableEq κ] : ∀ {l : List (κ × α)} {k : κ} {x : α}, getA l k = none → putA l k x = l ++ [(k, x)]
  | [], _, _, _ => rfl
  | (j, y) :: r, k, x, h => by
    unfold getA at h
    unfold putA
    by_cases e : j = k
    · rw [if_pos e] at h; cases h
    · rw [if_neg e] at h
      rw [if_neg e, putA_new h]
      rfl
/-- no key twice -/
def NdK {α : Type} : List (Key × α) → Prop := fun l => (l.map (·.1)).Nodup
theorem RepK.keys : ∀ {vs : List (Key × V)} {ds : List (Key × D)}, RepK ca g vs ds → vs.map (·.1) = ds.map (·.1)
  | _, _, .nil => rfl
  | _, _, .cons (k := k) _ t => by rw [List.map_cons, List.map_cons, RepK.keys t]
theorem map_put {v : V} {k : Key} : ∀ (l : List (Key × V)), k ∉ l.map (·.1) → l.map (fun kv => if kv.1 = k then (kv.1, v) else kv) = l
  | [], _ => rfl
  | p :: r, h => by
    have h1 : ¬ p.1 = k := fun e => h (by rw [List.map_cons, e]; exact List.mem_cons_self)
    have h2 : k ∉ r.map (·.1) := fun e => h (by rw [List.map_cons]; exact List.mem_cons_of_mem _ e)
    rw [List.map_cons, if_neg h1, map_put r h2]
theorem RepK.mapPut {v : V} {d : D} (rv : Rep ca g v d) (k : Key) : ∀ {vs : List (Key × V)} {ds : List (Key × D)}, RepK ca g vs ds → (getA ds k).isSome = true → (vs.map (·.1)).Nodup →
    RepK ca g (vs.map fun kv => if kv.1 = k then (kv.1, v) else kv) (putA ds k d)
  | _, _, .nil, e, _ => by cases e
  | _, _, .cons (k := j) (v := w) (vs := vs) (ds := ds) r t, e, nd => by
    rw [List.map_cons] at nd
    obtain ⟨n1, n2⟩ := List.nodup_cons.mp nd
    rw [List.map_cons]
    unfold putA
    by_cases h : j = k
    · rw [if_pos h, if_pos (show ((j, w) : Key × V).1 = k from h), map_put vs (by rw [← h]; exact n1)]
      exact .cons rv t
    · unfold getA at e
      rw [if_neg h] at e
      rw [if_neg h, if_neg (show ¬ ((j, w) : Key × V).1 = k from h)]
      exact .cons r (RepK.mapPut rv k t e n2)
theorem RepK.put {v : V} {d : D} (rv : Rep ca g v d) (k : Key) {vs : List (Key × V)} {ds : List (Key × D)} (r : RepK ca g vs ds) (nd : (vs.map (·.1)).Nodup) : RepK ca g (putK vs k v) (putA ds k d) := by
  unfold putK
  rw [valV_any]
  cases e : getA ds k with
  | none =>
    rw [r.none e, if_neg (by exact Bool.false_ne_true), putA_new e]
    exact r.app (.cons rv .nil)
  | some x =>
    obtain ⟨w, q, _⟩ := r.get e
    rw [q, if_pos (show (some w).isSome = true from rfl)]
    exact r.mapPut rv k (by rw [e]; rfl) nd
theorem RepK.drop (k : Key) : ∀ {vs : List (Key × V)} {ds : List (Key × D)}, RepK ca g vs ds → RepK ca g (dropK vs k) (dropA ds k)
  | _, _, .nil => .nil
  | _, _, .cons (k := j) (v := w) (d := d) r t => by
    have ih := RepK.drop k t
    unfold dropK dropA at ih ⊢
    rw [List.filter_cons, List.filter_cons]
    by_cases h : j = k
    · have hb : decide (j ≠ k) = false := by simp [h]
      show RepK ca g (if decide (j ≠ k) = true then _ else _) (if decide (j ≠ k) = true then _ else _)
      rw [hb, if_neg Bool.false_ne_true, if_neg Bool.false_ne_true]
      exact ih
    · have hb : decide (j ≠ k) = true := by simp [h]
      show RepK ca g (if decide (j ≠ k) = true then _ else _) (if decide (j ≠ k) = true then _ else _)
      rw [hb, if_pos rfl, if_pos rfl]
      exact .cons r ih
theorem ndK {X : Cx} {pins : List (Addr × Obj)} {σ : L2.St} {H : Hp} {s : Shared} (I : Inv X pins σ H s) {a : Addr} {kvs : List (Key × V)} (h : Rd H a (.dK kvs)) : (kvs.map (·.1)).Nodup := by
  obtain ⟨_, _, vs, kv, _, _, _, _, _, _, _, _, nd⟩ := L2.dk_rd I.hok h
  rw [KV.keys kv]
  exact nd
end
end M3
/-! M3C: expressions, their machine readings. -/
namespace M3
open PySem L2
variable {ca : CAK}

def lift {α : Type} (o : Option (α × S3)) : R α := match o with
  | some (a, S) => .ok a S
  | none => .bad
variable (ca)
def FinO {α : Type} (g : Wld) (H : Hp) (o : Option (α × S3)) (QO : α → Wld → Hp → Prop) : Prop := match o with
  | some (a, S') => ∀ g' H', Ext g H g' H' → Sim ca g' S' H' → QO a g' H'
  | none => False
variable {ca}
theorem FinO.of {α : Type} {g : Wld} {H : Hp} {o : Option (α × S3)} {QO : α → Wld → Hp → Prop} {QE : Exn → Wld → Hp → Prop} (h : Fin ca g H (lift o) QO QE) : FinO ca g H o QO := by
  cases o with
  | some p => exact h
  | none => exact h
theorem FinO.now {α : Type} {g : Wld} {H : Hp} {a : α} {S : S3} {QO : α → Wld → Hp → Prop} (h : FinO ca g H (some (a, S)) QO) (s : Sim ca g S H) : QO a g H := h g H (.refl g H) s

/-! ### the judgement -/
variable (ca)
structure SD (X : Cx) (W : WX) (e : Expr) (m : CE) : Prop where
  pe : PE X e (rdE ca W m)
  pt : PT X e (tTest (rdE ca W m))
variable {ca}
section
variable {X : Cx} {W : WX} {e a b c : Expr} {m ma mb mc : CE} {pos : Pos}
theorem SD.of (h : PE X e (rdE ca W m)) (he : ∀ whole, isTrue e X.env whole = (do let v ← whole; standAt e.pos; holding [v] (truthy v)) := by intro _; rfl) : SD ca X W e m := ⟨h, pt_val h he⟩

/-! ### names, constants -/
def xv (i : Nat) : CE := fun v S => match v[i]? with
  | some (some d) => .ok d S
  | _ => .bad
def xc (d : D) : CE := fun _ S => .ok d S
theorem rd_now {r : R D} {σ : St} {H : Hp} {Q : VK} {d : D} {S : S3} {g : Wld} {QE : Exn → Wld → Hp → Prop} (s : Sim ca g S H) (h : Fin ca g H (.ok d S) (fun d g' H' => ∀ x, Rep ca g' x d → Q x H') QE) {x : V} (r : Rep ca g x d) : Q x H := h g H (.refl g H) s x r
theorem sd_var {i : Nat} {x : Str} (hN : X.N[i]? = some x := by rfl) (hv : Vis X.env.scope x := by first | exact Or.inl rfl | exact Or.inr (Or.inl rfl) | exact Or.inr (Or.inr rfl)) (hd : (x == ("__debug__" : Str)) = false := by decide)
    (hcd : (x == ("__classdict__" : Str)) = false := by decide) : SD ca X W (.Name x pos) (xv i) := .of <| PE_imp (pe_var hN hv hd hcd) <| by
  rintro σ H Q ⟨v, S, g, s, e, h⟩
  unfold xv at h
  split at h
  · rename_i d hd
    obtain ⟨x, hx, r⟩ := e.at_ i d hd
    exact ⟨x, hx, h g H (.refl g H) s x r⟩
  · exact h.elim
theorem rd_c {x : V} {d : D} (r : ∀ g : Wld, Rep ca g x d) : ∀ σ H Q, rdE ca W (xc d) σ H Q → tC x σ H Q := by
  rintro σ H Q ⟨v, S, g, s, e, h⟩
  exact h g H (.refl g H) s x (r g)
theorem sd_int {i j} : SD ca X W (.Constant (.int i) j pos) (xc (.int i)) := .of (PE_imp pe_int (rd_c fun _ => .int i))
theorem sd_bl {i j} : SD ca X W (.Constant (.bool i) j pos) (xc (.bl i)) := .of (PE_imp pe_bl (rd_c fun _ => .bl i))
theorem sd_non {j} : SD ca X W (.Constant .none j pos) (xc .non) := .of (PE_imp pe_non (rd_c fun _ => .non))
theorem sd_str {i j} : SD ca X W (.Constant (.str i) j pos) (xc (.str i)) := .of (PE_imp pe_str (rd_c fun _ => .str i))
/-- a module's constant: a number, a text -/
theorem sd_gint {x : Str} {i : Int} (hg : Gl X x) (hm : ∃ t, X.mg x = some (.int i t)) (hd : (x == ("__debug__" : Str)) = false := by decide) : SD ca X W (.Name x pos) (xc (.int i)) := by
  obtain ⟨t, hm⟩ := hm
  exact .of (PE_imp (pe_glob (v := .int i) hg hm ⟨t, rfl⟩ hd) (rd_c fun _ => .int i))
theorem sd_gstr {x : Str} {i : Str} (hg : Gl X x) (hm : ∃ t, X.mg x = some (.str i t)) (hd : (x == ("__debug__" : Str)) = false := by decide) : SD ca X W (.Name x pos) (xc (.str i)) := by
  obtain ⟨t, hm⟩ := hm
  exact .of (PE_imp (pe_glob (v := .str i) hg hm ⟨t, rfl⟩ hd) (rd_c fun _ => .str i))

/-! ### two in a row -/
abbrev O1 := D → S3 → Option (D × S3)
abbrev O2 := D → D → S3 → Option (D × S3)
abbrev OL := List D → S3 → Option (D × S3)
def b1 (ma : CE) (f : O1) : CE := fun v S => (ma v S).bind fun x S1 => lift (f x S1)
def b2 (ma mb : CE) (f : O2) : CE := fun v S => (ma v S).bind fun x S1 => (mb v S1).bind fun y S2 => lift (f x y S2)
variable (ca)
def rdO1 (f : O1) : V → Hp → VK → Prop := fun x H Q => ∃ g S d, Sim ca g S H ∧ Rep ca g x d ∧ FinO ca g H (f d S) (fun r g' H' => ∀ z, Rep ca g' z r → Q z H')
def rdO2 (f : O2) : R2 := fun x y H Q => ∃ g S d e, Sim ca g S H ∧ Rep ca g x d ∧ Rep ca g y e ∧ FinO ca g H (f d e S) (fun r g' H' => ∀ z, Rep ca g' z r → Q z H')
def rdOL (f : OL) : List V → Hp → VK → Prop := fun xs H Q => ∃ g S ds, Sim ca g S H ∧ RepL ca g xs ds ∧ FinO ca g H (f ds S) (fun r g' H' => ∀ z, Rep ca g' z r → Q z H')
variable {ca}
theorem rd_b1 {f : O1} : ∀ σ H Q, rdE ca W (b1 ma f) σ H Q → tUn (rdO1 ca f) (rdE ca W ma) σ H Q := by
  rintro σ H Q ⟨v, S, g, s, e, h⟩
  refine ⟨v, S, g, s, e, (Fin.seq h).imp (fun d g1 H1 x1 ⟨S1, s1, h1⟩ xv rv => ?_) fun _ _ _ _ z => z⟩
  exact ⟨g1, S1, d, s1, rv, FinO.of h1⟩
theorem rd_b2 {f : O2} : ∀ σ H Q, rdE ca W (b2 ma mb f) σ H Q → tOp (rdO2 ca f) (rdE ca W ma) (rdE ca W mb) σ H Q := by
  rintro σ H Q ⟨v, S, g, s, e, h⟩
  refine ⟨v, S, g, s, e, (Fin.seq h).imp (fun d g1 H1 x1 ⟨S1, s1, h1⟩ xv rv => ?_) fun _ _ _ _ z => z⟩
  refine ⟨v, S1, g1, s1, e.mono x1.le, (Fin.seq h1).imp (fun d2 g2 H2 x2 ⟨S2, s2, h2⟩ yv ry => ?_) fun _ _ _ _ z => z⟩
  exact ⟨g2, S2, d, d2, s2, rv.mono x2.le, ry, FinO.of h2⟩
theorem sd_bin {op : Operator} {f : O2} (ho : OpR X (binaryOp op) (rdO2 ca f)) (ha : SD ca X W a ma) (hb : SD ca X W b mb) : SD ca X W (.BinOp a op b pos) (b2 ma mb f) := .of (PE_imp (pe_op ho ha.pe hb.pe) rd_b2)
theorem tTest_imp {t t' : TE} (h : ∀ σ H Q, t' σ H Q → t σ H Q) : ∀ σ H Q, tTest t' σ H Q → tTest t σ H Q := fun σ H Q q => h σ H _ q
theorem sd_cmp {op : CmpOp} {f : O2} (ho : OpR X (compareOp op) (rdO2 ca f)) (ha : SD ca X W a ma) (hb : SD ca X W b mb) (hm : behindInMarks op b = false) : SD ca X W (.Compare a [op] [b] pos) (b2 ma mb f) :=
  ⟨PE_imp (pe_cmpR ho ha.pe hb.pe hm) rd_b2, PT_imp (pt_cmpR ho ha.pe hb.pe hm) (tTest_imp rd_b2)⟩
/-- a < b < c -/
def ch2 (ma mb mc : CE) (f f' : O2) : CE := fun v S => (ma v S).bind fun x S1 => (mb v S1).bind fun y S2 => (lift (f x y S2)).bind fun z S3 => match z with
  | .bl true => (mc v S3).bind fun w S4 => lift (f' y w S4)
  | .bl false => .ok (.bl false) S3
  | _ => .bad
theorem Rep.bl_inv {g : Wld} {x : V} {k : Bool} (r : Rep ca g x (.bl k)) : x = .bl k := by cases r; rfl
theorem rd_ch2 {f f' : O2} : ∀ σ H Q, rdE ca W (ch2 ma mb mc f f') σ H Q → tChain (rdO2 ca f) (rdO2 ca f') (rdE ca W ma) (rdE ca W mb) (rdE ca W mc) σ H Q := by
  rintro σ H Q ⟨v, S, g, s, e, h⟩
  refine ⟨v, S, g, s, e, (Fin.seq h).imp (fun d g1 H1 x1 ⟨S1, s1, h1⟩ xv rv => ?_) fun _ _ _ _ z => z⟩
  refine ⟨v, S1, g1, s1, e.mono x1.le, (Fin.seq h1).imp (fun d2 g2 H2 x2 ⟨S2, s2, h2⟩ yv ry => ?_) fun _ _ _ _ z => z⟩
  refine ⟨g2, S2, d, d2, s2, rv.mono x2.le, ry, ?_⟩
  have h3 := Fin.seq h2
  refine FinO.of (QE := fun _ _ _ => True) (h3.imp (fun z g3 H3 x3 ⟨S3', s3, h3⟩ zv rz => ?_) fun _ _ _ _ _ => True.intro)
  try dsimp only at h3
  split at h3
  · cases rz
    refine ⟨true, rfl, iteT ⟨v, S3', g3, s3, e.mono ((x1.trans x2).trans x3).le, (Fin.seq h3).imp (fun d4 g4 H4 x4 ⟨S4, s4, h4⟩ wv rw => ?_) fun _ _ _ _ z => z⟩⟩
    exact ⟨g4, S4, d2, d4, s4, ry.mono (x3.trans x4).le, rw, FinO.of h4⟩
  · cases rz
    exact ⟨false, rfl, iteF (h3 g3 H3 (.refl _ _) s3 _ (.bl false))⟩
  · exact h3.elim
theorem sd_chain {op op' : CmpOp} {f f' : O2} (ho : OpR X (compareOp op) (rdO2 ca f)) (ho' : OpR X (compareOp op') (rdO2 ca f')) (ha : SD ca X W a ma) (hb : SD ca X W b mb) (hc : SD ca X W c mc)
    (hm : lastMarks [op, op'] [b, c] = false := by with_unfolding_all rfl) : SD ca X W (.Compare a [op, op'] [b, c] pos) (ch2 ma mb mc f f') :=
  ⟨PE_imp (pe_chain ho ho' ha.pe hb.pe hc.pe hm) rd_ch2, PT_imp (pt_chain ho ho' ha.pe hb.pe hc.pe hm) (tTest_imp rd_ch2)⟩

/-! ### not, and, or, if -/
def notM (ma : CE) : CE := fun v S => (ma v S).bind fun x S1 => match x with
  | .bl b => .ok (.bl (!b)) S1
  | _ => .bad
def andM (ma mb : CE) : CE := fun v S => (ma v S).bind fun x S1 => match x with
  | .bl true => mb v S1
  | .bl false => .ok (.bl false) S1
  | _ => .bad
def orM (ma mb : CE) : CE := fun v S => (ma v S).bind fun x S1 => match x with
  | .bl true => .ok (.bl true) S1
  | .bl false => mb v S1
  | _ => .bad
def ifM (mc ma mb : CE) : CE := fun v S => (mc v S).bind fun x S1 => match x with
  | .bl true => ma v S1
  | .bl false => mb v S1
  | _ => .bad
theorem sd_not (ha : SD ca X W a ma) : SD ca X W (.UnaryOp .Not a pos) (notM ma) := by
  refine ⟨PE_imp (pe_not ha.pe) ?_, PT_imp (pt_not ha.pt) ?_⟩
  · rintro σ H Q ⟨v, S, g, s, e, h⟩
    refine ⟨v, S, g, s, e, (Fin.seq h).imp (fun d g1 H1 x1 ⟨S1, s1, h1⟩ xv rv => ?_) fun _ _ _ _ z => z⟩
    try dsimp only at h1
    split at h1
    · cases rv
      exact ⟨_, rfl, h1 g1 H1 (.refl _ _) s1 _ (.bl _)⟩
    · exact h1.elim
  · rintro σ H Q ⟨v, S, g, s, e, h⟩
    refine ⟨v, S, g, s, e, (Fin.seq h).imp (fun d g1 H1 x1 ⟨S1, s1, h1⟩ xv rv => ?_) fun _ _ _ _ z => z⟩
    try dsimp only at h1
    split at h1
    · cases rv
      obtain ⟨k, ek, q⟩ := h1 g1 H1 (.refl _ _) s1 _ (.bl _)
      cases ek
      exact ⟨_, rfl, q⟩
    · exact h1.elim
variable (ca)
structure SDB (X : Cx) (W : WX) (op : BoolOp) (es : List Expr) (m : CE) : Prop where
  pe : ∀ pos, PE X (.BoolOp op es pos) (rdE ca W m)
  pw : ∀ pos, PW X (.BoolOp op es pos) (tTest (rdE ca W m))
variable {ca}
variable {rest : List Expr}
theorem sdb_and1 (ha : SD ca X W a ma) : SDB ca X W .And [a] ma := ⟨fun _ => pe_one ha.pe, fun _ => pw_and1 ha.pt⟩
theorem sdb_or1 (ha : SD ca X W a ma) : SDB ca X W .Or [a] ma := ⟨fun _ => pe_one ha.pe, fun _ => pw_or1 ha.pt⟩
theorem PW_imp {X : Cx} {e : Expr} {t t' : TT} (h : PW X e t) (i : ∀ σ H Q, t' σ H Q → t σ H Q) : PW X e t' := ⟨fun wh pins s σ H Q I q => h.run wh pins s σ H Q I (i σ H Q q)⟩
theorem sdb_and (ha : SD ca X W a ma) (hb : SDB ca X W .And (b :: rest) mb) : SDB ca X W .And (a :: b :: rest) (andM ma mb) := by
  refine ⟨fun pos => PE_imp (pe_and ha.pe (hb.pe pos)) ?_, fun pos => PW_imp (pw_and ha.pt (hb.pw pos)) ?_⟩
  · rintro σ H Q ⟨v, S, g, s, e, h⟩
    refine ⟨v, S, g, s, e, (Fin.seq h).imp (fun d g1 H1 x1 ⟨S1, s1, h1⟩ xv rv => ?_) fun _ _ _ _ z => z⟩
    try dsimp only at h1
    split at h1
    · cases rv
      exact ⟨_, rfl, iteT ⟨v, S1, g1, s1, e.mono x1.le, h1⟩⟩
    · cases rv
      exact ⟨_, rfl, iteF (h1 g1 H1 (.refl _ _) s1 _ (.bl _))⟩
    · exact h1.elim
  · rintro σ H Q ⟨v, S, g, s, e, h⟩
    refine ⟨v, S, g, s, e, (Fin.seq h).imp (fun d g1 H1 x1 ⟨S1, s1, h1⟩ xv rv => ?_) fun _ _ _ _ z => z⟩
    try dsimp only at h1
    split at h1
    · cases rv
      exact ⟨_, rfl, iteT ⟨v, S1, g1, s1, e.mono x1.le, h1⟩⟩
    · cases rv
      obtain ⟨k, ek, q⟩ := h1 g1 H1 (.refl _ _) s1 _ (.bl _)
      cases ek
      exact ⟨_, rfl, iteF q⟩
    · exact h1.elim
theorem sdb_or (ha : SD ca X W a ma) (hb : SDB ca X W .Or (b :: rest) mb) : SDB ca X W .Or (a :: b :: rest) (orM ma mb) := by
  refine ⟨fun pos => PE_imp (pe_or ha.pe (hb.pe pos)) ?_, fun pos => PW_imp (pw_or ha.pt (hb.pw pos)) ?_⟩
  · rintro σ H Q ⟨v, S, g, s, e, h⟩
    refine ⟨v, S, g, s, e, (Fin.seq h).imp (fun d g1 H1 x1 ⟨S1, s1, h1⟩ xv rv => ?_) fun _ _ _ _ z => z⟩
    try dsimp only at h1
    split at h1
    · cases rv
      exact ⟨_, rfl, iteT (h1 g1 H1 (.refl _ _) s1 _ (.bl _))⟩
    · cases rv
      exact ⟨_, rfl, iteF ⟨v, S1, g1, s1, e.mono x1.le, h1⟩⟩
    · exact h1.elim
  · rintro σ H Q ⟨v, S, g, s, e, h⟩
    refine ⟨v, S, g, s, e, (Fin.seq h).imp (fun d g1 H1 x1 ⟨S1, s1, h1⟩ xv rv => ?_) fun _ _ _ _ z => z⟩
    try dsimp only at h1
    split at h1
    · cases rv
      obtain ⟨k, ek, q⟩ := h1 g1 H1 (.refl _ _) s1 _ (.bl _)
      cases ek
      exact ⟨_, rfl, iteT q⟩
    · cases rv
      exact ⟨_, rfl, iteF ⟨v, S1, g1, s1, e.mono x1.le, h1⟩⟩
    · exact h1.elim
theorem sd_bool {op : BoolOp} {es : List Expr} (h : SDB ca X W op es m) : SD ca X W (.BoolOp op es pos) m := ⟨h.pe pos, (h.pw pos).pt⟩
theorem sd_if (hc : SD ca X W c mc) (ha : SD ca X W a ma) (hb : SD ca X W b mb) : SD ca X W (.IfExp c a b pos) (ifM mc ma mb) := by
  refine ⟨PE_imp (pe_ifExp hc.pt ha.pe hb.pe) ?_, ⟨fun pins s σ H Q I h => ?_⟩⟩
  · rintro σ H Q ⟨v, S, g, s, e, h⟩
    refine ⟨v, S, g, s, e, (Fin.seq h).imp (fun d g1 H1 x1 ⟨S1, s1, h1⟩ xv rv => ?_) fun _ _ _ _ z => z⟩
    try dsimp only at h1
    split at h1
    · cases rv
      exact ⟨_, rfl, iteT ⟨v, S1, g1, s1, e.mono x1.le, h1⟩⟩
    · cases rv
      exact ⟨_, rfl, iteF ⟨v, S1, g1, s1, e.mono x1.le, h1⟩⟩
    · exact h1.elim
  · obtain ⟨v, S, g, sm, e, h⟩ := h
    refine PyProof.Rows.isTrue_IfExp (thn (hc.pt.run pins s σ H (fun k H1 => if k = true then tTest (rdE ca W ma) σ H1 Q else tTest (rdE ca W mb) σ H1 Q) I ⟨v, S, g, sm, e, (Fin.seq h).imp (fun d g1 H1 x1 ⟨S1, s1, h1⟩ xv rv => ?_) fun _ _ _ _ z => z⟩) fun k s1 ⟨H1, I1, q⟩ => ?_)
    · try dsimp only at h1
      split at h1
      · cases rv
        exact ⟨_, rfl, iteT ⟨v, S1, g1, s1, e.mono x1.le, h1⟩⟩
      · cases rv
        exact ⟨_, rfl, iteF ⟨v, S1, g1, s1, e.mono x1.le, h1⟩⟩
      · exact h1.elim
    · cases k with
      | true =>
        rw [if_pos rfl] at q ⊢
        exact ha.pt.run pins s1 σ H1 Q I1 q
      | false =>
        rw [if_neg Bool.false_ne_true] at q ⊢
        exact hb.pt.run pins s1 σ H1 Q I1 q
/-! ### arguments -/
abbrev CA := Ev → S3 → R (List D)
def aNil : CA := fun _ S => .ok [] S
def aCons (m : CE) (r : CA) : CA := fun v S => (m v S).bind fun x S1 => (r v S1).bind fun xs S2 => .ok (x :: xs) S2
variable (ca)
def rdA (W : WX) (m : CA) : TA := fun σ H Q => ∃ v S g, Sim ca g S H ∧ EnvR ca g v σ ∧
  Fin ca g H (m v S) (fun d g' H' => ∀ xs, RepL ca g' xs d → Q xs H') (fun e g' H' => ∀ cls od, RepX ca g' H' cls od e → W cls od σ H')
variable {ca}
theorem sda_nil : PA X [] (rdA ca W aNil) := PA_imp pa_nil <| by
  rintro σ H Q ⟨v, S, g, s, e, h⟩
  exact h g H (.refl _ _) s _ .nil
theorem sda_cons {es : List Expr} {ms : CA} (ha : SD ca X W a ma) (hr : PA X es (rdA ca W ms)) (hs : starEach (a :: es) X.env = (false, eval a X.env) :: starEach es X.env := by rfl) : PA X (a :: es) (rdA ca W (aCons ma ms)) := PA_imp (pa_cons ha.pe hr hs) <| by
  rintro σ H Q ⟨v, S, g, s, e, h⟩
  refine ⟨v, S, g, s, e, (Fin.seq h).imp (fun d g1 H1 x1 ⟨S1, s1, h1⟩ xv rv => ?_) fun _ _ _ _ z => z⟩
  refine ⟨v, S1, g1, s1, e.mono x1.le, (Fin.seq h1).imp (fun ds g2 H2 x2 ⟨S2, s2, h2⟩ xs rs => ?_) fun _ _ _ _ z => z⟩
  exact h2 g2 H2 (.refl _ _) s2 _ (.cons (rv.mono x2.le) rs)
/-- a call of a built-in by its values -/
def cb (ms : CA) (f : OL) : CE := fun v S => (ms v S).bind fun xs S1 => lift (f xs S1)
theorem rd_cb {ms : CA} {f : OL} : ∀ σ H Q, rdE ca W (cb ms f) σ H Q → tCB (rdOL ca f) (rdA ca W ms) σ H Q := by
  rintro σ H Q ⟨v, S, g, s, e, h⟩
  refine ⟨v, S, g, s, e, (Fin.seq h).imp (fun d g1 H1 x1 ⟨S1, s1, h1⟩ xs rs => ?_) fun _ _ _ _ z => z⟩
  exact ⟨g1, S1, d, s1, rs, FinO.of h1⟩
theorem sd_callB {id : String} {x : Str} {p : Pos} {f : OL} {es : List Expr} {ms : CA} (hc : CallR X (.builtin id) (rdOL ca f)) (hg : Gl X x) (hm : X.mg x = none) (hv : bootBuiltins x = some (.builtin id)) (ha : PA X (e :: es) (rdA ca W ms)) (hn : x ≠ "__name__" := by decide) (hdb : (x == ("__debug__" : Str)) = false := by decide)
    (he : starEach (e :: es) X.env = (false, eval e X.env) :: starEach es X.env := by rfl) (hpl : (backTo pos (starEach es X.env)).any (·.1) = false := by rfl) (hw : ∀ whole, isTrue (.Call (.Name x p) (e :: es) [] pos) X.env whole = (do let v ← whole; standAt (Expr.Call (.Name x p) (e :: es) [] pos).pos; holding [v] (truthy v)) := by intro _; rfl) : SD ca X W (.Call (.Name x p) (e :: es) [] pos) (cb ms f) :=
  .of (PE_imp (pe_callB hc hg hm hv ha hn hdb he hpl) rd_cb) hw
theorem sd_callT {T : String} {x : Str} {p : Pos} {f : OL} {es : List Expr} {ms : CA} (hc : CallR X (.type T) (rdOL ca f)) (hg : Gl X x) (hm : X.mg x = none) (hv : bootBuiltins x = some (.type T)) (ha : PA X (e :: es) (rdA ca W ms)) (hn : x ≠ "__name__" := by decide) (hdb : (x == ("__debug__" : Str)) = false := by decide)
    (he : starEach (e :: es) X.env = (false, eval e X.env) :: starEach es X.env := by rfl) (hpl : (backTo pos (starEach es X.env)).any (·.1) = false := by rfl) (hw : ∀ whole, isTrue (.Call (.Name x p) (e :: es) [] pos) X.env whole = (do let v ← whole; standAt (Expr.Call (.Name x p) (e :: es) [] pos).pos; holding [v] (truthy v)) := by intro _; rfl) : SD ca X W (.Call (.Name x p) (e :: es) [] pos) (cb ms f) :=
  .of (PE_imp (pe_callTy hc hg hm hv ha hn hdb he hpl) rd_cb) hw
end
end M3
/-! M3D: operators and comparisons. -/
namespace M3
open PySem L2
variable {ca : CAK}
/-- the machine's own bound on sizes -/
def lim : Nat := 1000000
theorem lim_le : lim ≤ sizeLine := by rw [sizeLine_eq]; decide
section
variable {X : Cx}
theorem OpR.imp {f : Value → Value → Sem Value} {r r' : R2} (h : OpR X f r) (i : ∀ x y H Q, r' x y H Q → r x y H Q) : OpR X f r' := fun pins s σ H x y v u Q I rx ry q => h pins s σ H x y v u Q I rx ry (i x y H Q q)
/-! ### arithmetic -/
def addF : O2 := fun x y S => match x, y with
  | .int i, .int j => some (.int (i + j), S)
  | .str a, .str b => if a.length + b.length ≤ lim then some (.str (a ++ b), S) else none
  | x, y => match lstOf S x, lstOf S y with
    | some xs, some ys => if xs.length + ys.length ≤ lim then some (.lst (xs ++ ys), S) else none
    | _, _ => none
theorem lstR {pins : List (Addr × Obj)} {σ : L2.St} {H : Hp} {s : Shared} (I : Inv X pins σ H s) {l : Addr} {xs : List V} (h : Rd H l (.lst xs)) : xs.length ≤ sizeLine ∧ ∃ (its : List Value) (n : Nat), Vals xs its ∧ xs.length = its.length ∧ s.heap.get? l = some { cls := .type "list", data := .seq its.toArray n } := by
  obtain ⟨z, its, n, r, e⟩ := h.ok I.hok
  exact ⟨z, its, n, r, r.length, e⟩
/-- list + list, of lists that may be locked -/
theorem op_catR : OpR X (binaryOp .Add) (fun x y H Q => ∃ l b xs zs, x = .ref l ∧ y = .ref b ∧ Rd H l (.lst xs) ∧ Rd H b (.lst zs) ∧ xs.length + zs.length ≤ sizeLine ∧ ∀ p, H p = none → Q (.ref p) (upd H p (.lst (xs ++ zs)))) := by
  intro pins s σ H x y v u Q I rx ry h
  obtain ⟨l, b, xs, zs, rfl, rfl, hH, hB, hz, q⟩ := h
  cases rx
  cases ry
  obtain ⟨z, its, n, r, hl, e⟩ := lstR I hH
  obtain ⟨z2, its2, n2, r2, hl2, e2⟩ := lstR I hB
  refine PySem.P.add_list e e2 ?_ (by rw [List.size_toArray, List.size_toArray]; omega)
  have ea : its.toArray ++ its2.toArray = (its ++ its2).toArray := by simp
  rw [ea]
  exact ⟨.ref _, _, I.lnew (t' := s.toks) (r.append r2) (by rw [List.length_append]; omega), rfl, q _ I.fresh⟩
theorem Rep.int_inv {g : Wld} {x : V} {k : Int} (r : Rep ca g x (.int k)) : x = .int k := by cases r; rfl
theorem Rep.str_inv {g : Wld} {x : V} {k : Str} (r : Rep ca g x (.str k)) : x = .str k := by cases r; rfl
theorem Rep.non_inv {g : Wld} {x : V} (r : Rep ca g x .non) : x = .non := by cases r; rfl
/-- a new list of trees -/
theorem newLst {g : Wld} {S : S3} {H : Hp} {ds : List D} {vs : List V} {Q : VK} (s : Sim ca g S H) (r : RepL ca g vs ds) (h : FinO ca g H (some (.lst ds, S)) (fun r g' H' => ∀ z, Rep ca g' z r → Q z H')) :
    ∀ p, H p = none → Q (.ref p) (upd H p (.lst vs)) := fun p hp => h (g.tree p (.lst vs)) _ (s.extTree hp) (s.tree hp True.intro) _ (.lst upd_same (r.mono (s.leTree hp)))
theorem op_addF : OpR X (binaryOp .Add) (rdO2 ca addF) := by
  intro pins s σ H x y v u Q I rx ry ⟨g, S, d, e, sm, rd, re, h⟩
  unfold addF at h
  split at h
  · cases rd; cases re
    exact op_add pins s σ H _ _ v u Q I rx ry ⟨_, _, rfl, rfl, h.now sm _ (.int _)⟩
  · cases rd; cases re
    split at h
    · rename_i hz
      exact op_add_str pins s σ H _ _ v u Q I rx ry ⟨_, _, rfl, rfl, Nat.le_trans hz lim_le, h.now sm _ (.str _)⟩
    · exact h.elim
  · split at h
    · rename_i xs ys ex ey
      split at h
      · rename_i hz
        obtain ⟨a, vs, rfl, ha, ra⟩ := sm.lst rd ex
        obtain ⟨b, ws, rfl, hb, rb⟩ := sm.lst re ey
        exact op_catR pins s σ H _ _ v u Q I rx ry ⟨a, b, vs, ws, rfl, rfl, ha, hb, by rw [ra.len, rb.len]; exact Nat.le_trans hz lim_le, newLst sm (ra.app rb) h⟩
      · exact h.elim
    · exact h.elim
def subF : O2 := fun x y S => match x, y with
  | .int i, .int j => some (.int (i - j), S)
  | _, _ => none
theorem op_subF : OpR X (binaryOp .Sub) (rdO2 ca subF) := by
  intro pins s σ H x y v u Q I rx ry ⟨g, S, d, e, sm, rd, re, h⟩
  unfold subF at h
  split at h
  · cases rd; cases re
    exact op_sub pins s σ H _ _ v u Q I rx ry ⟨_, _, rfl, rfl, h.now sm _ (.int _)⟩
  · exact h.elim
def small64 (i : Int) : Bool := decide (-(2 ^ 64) < i ∧ i < 2 ^ 64)
def mulF : O2 := fun x y S => match x, y with
  | .int i, .int j => if small64 i || small64 j then some (.int (i * j), S) else none
  | _, _ => none
theorem op_mulF : OpR X (binaryOp .Mult) (rdO2 ca mulF) := by
  intro pins s σ H x y v u Q I rx ry ⟨g, S, d, e, sm, rd, re, h⟩
  unfold mulF at h
  split at h
  · cases rd; cases re
    split at h
    · rename_i hc
      refine op_mul pins s σ H _ _ v u Q I rx ry ⟨_, _, rfl, rfl, ?_, h.now sm _ (.int _)⟩
      rcases Bool.or_eq_true_iff.mp hc with z | z
      · exact .inl (of_decide_eq_true z)
      · exact .inr (of_decide_eq_true z)
    · exact h.elim
  · exact h.elim
def fdivF : O2 := fun x y S => match x, y with
  | .int i, .int j => if 0 < j ∧ j < 1073741824 then some (.int (i / j), S) else none
  | _, _ => none
theorem op_fdivF : OpR X (binaryOp .FloorDiv) (rdO2 ca fdivF) := by
  intro pins s σ H x y v u Q I rx ry ⟨g, S, d, e, sm, rd, re, h⟩
  unfold fdivF at h
  split at h
  · cases rd; cases re
    split at h
    · rename_i hc
      exact op_fdiv pins s σ H _ _ v u Q I rx ry ⟨_, _, rfl, rfl, hc, h.now sm _ (.int _)⟩
    · exact h.elim
  · exact h.elim
def modF : O2 := fun x y S => match x, y with
  | .int i, .int j => if 0 < j then some (.int (i % j), S) else none
  | _, _ => none
theorem op_modF : OpR X (binaryOp .Mod) (rdO2 ca modF) := by
  intro pins s σ H x y v u Q I rx ry ⟨g, S, d, e, sm, rd, re, h⟩
  unfold modF at h
  split at h
  · cases rd; cases re
    split at h
    · rename_i hc
      exact op_mod pins s σ H _ _ v u Q I rx ry ⟨_, _, rfl, rfl, hc, h.now sm _ (.int _)⟩
    · exact h.elim
  · exact h.elim
def powF : O2 := fun x y S => match x, y with
  | .int i, .int j => if 0 ≤ j ∧ j ≤ 1000000 ∧ i.natAbs < 2 ^ 64 then some (.int (i ^ j.toNat), S) else none
  | _, _ => none
theorem op_powF : OpR X (binaryOp .Pow) (rdO2 ca powF) := by
  intro pins s σ H x y v u Q I rx ry ⟨g, S, d, e, sm, rd, re, h⟩
  unfold powF at h
  split at h
  · cases rd; cases re
    split at h
    · rename_i hc
      exact op_pow pins s σ H _ _ v u Q I rx ry ⟨_, _, rfl, rfl, hc, h.now sm _ (.int _)⟩
    · exact h.elim
  · exact h.elim
/-! ### order of ints -/
def cmpF (p : Int → Int → Bool) : O2 := fun x y S => match x, y with
  | .int i, .int j => some (.bl (p i j), S)
  | _, _ => none
theorem op_cmpF {op : CmpOp} {p : Int → Int → Bool} (ho : OpR X (compareOp op) (rI0 fun i j => .bl (p i j))) : OpR X (compareOp op) (rdO2 ca (cmpF p)) := by
  intro pins s σ H x y v u Q I rx ry ⟨g, S, d, e, sm, rd, re, h⟩
  unfold cmpF at h
  split at h
  · cases rd; cases re
    exact ho pins s σ H _ _ v u Q I rx ry ⟨_, _, rfl, rfl, h.now sm _ (.bl _)⟩
  · exact h.elim
abbrev ltF : O2 := cmpF fun i j => decide (i < j)
abbrev leF : O2 := cmpF fun i j => decide (i ≤ j)
abbrev gtF : O2 := cmpF fun i j => decide (j < i)
abbrev geF : O2 := cmpF fun i j => decide (j ≤ i)
theorem op_ltF : OpR X (compareOp .Lt) (rdO2 ca ltF) := op_cmpF op_lt
theorem op_leF : OpR X (compareOp .LtE) (rdO2 ca leF) := op_cmpF op_le
theorem op_gtF : OpR X (compareOp .Gt) (rdO2 ca gtF) := op_cmpF op_gt
theorem op_geF : OpR X (compareOp .GtE) (rdO2 ca geF) := op_cmpF op_ge
/-! ### is None -/
def isNonD : D → Bool
  | .non => true
  | _ => false
def isF : O2 := fun x y S => match y with
  | .non => some (.bl (isNonD x), S)
  | _ => none
def isNotF : O2 := fun x y S => match y with
  | .non => some (.bl (!isNonD x), S)
  | _ => none
theorem isNon_eq {g : Wld} {x : V} {d : D} (r : Rep ca g x d) : decide (x = .non) = isNonD d := by cases r <;> rfl
theorem op_isF : OpR X (compareOp .Is) (rdO2 ca isF) := by
  intro pins s σ H x y v u Q I rx ry ⟨g, S, d, e, sm, rd, re, h⟩
  unfold isF at h
  split at h
  · cases re
    refine op_isN pins s σ H _ _ v u Q I rx ry ⟨rfl, ?_⟩
    rw [isNon_eq rd]
    exact h.now sm _ (.bl _)
  · exact h.elim
theorem op_isNotF : OpR X (compareOp .IsNot) (rdO2 ca isNotF) := by
  intro pins s σ H x y v u Q I rx ry ⟨g, S, d, e, sm, rd, re, h⟩
  unfold isNotF at h
  split at h
  · cases re
    refine op_notN pins s σ H _ _ v u Q I rx ry ⟨rfl, ?_⟩
    rw [isNon_eq rd]
    exact h.now sm _ (.bl _)
  · exact h.elim
/-! ### equality -/
def flatD : D → Option V
  | .non => some .non
  | .bl b => some (.bl b)
  | .int i => some (.int i)
  | .str s => some (.str s)
  | _ => none
def eqs (f : D → D → Option Bool) : List D → List D → Option Bool
  | x :: xs, y :: ys => match f x y, eqs f xs ys with
    | some a, some b => some (a && b)
    | _, _ => none
  | _, _ => some true
def eqk (f : D → D → Option Bool) : List (Key × D) → List (Key × D) → Option Bool
  | [], _ => some true
  | (k, v) :: r, b => match getA b k with
    | none => (eqk f r b).map fun _ => false
    | some y => match f v y, eqk f r b with
      | some a, some c => some (a && c)
      | _, _ => none
/-- two symbolic numbers, two texts of the same dict -/
def flSame : D → D → Bool
  | .non, .non => true
  | .bl a, .bl b => a == b
  | .int a, .int b => decide (a = b)
  | .str a, .str b => decide (a = b)
  | .sym i, .sym j => Nat.beq i j
  | _, _ => false
def kvSame : List (Key × D) → List (Key × D) → Bool
  | [], [] => true
  | (k, x) :: r, (j, y) :: t => decide (k = j) && flSame x y && kvSame r t
  | _, _ => false
def symEq : D → D → Bool
  | .sym i, .sym j => Nat.beq i j
  | .txt a, .txt b => kvSame a b
  | _, _ => false
theorem flSame_of {x y : D} (h : flSame x y = true) : x = y := by
  unfold flSame at h
  split at h
  · rfl
  · rw [eq_of_beq h]
  · rw [of_decide_eq_true h]
  · rw [of_decide_eq_true h]
  · rw [Nat.beq_eq.mp h]
  · cases h
theorem kvSame_of : ∀ {a b : List (Key × D)}, kvSame a b = true → a = b
  | [], [], _ => rfl
  | [], _ :: _, h => by cases h
  | _ :: _, [], h => by cases h
  | (k, x) :: r, (j, y) :: t, h => by
    have h : (decide (k = j) && flSame x y && kvSame r t) = true := h
    rw [Bool.and_eq_true, Bool.and_eq_true] at h
    rw [of_decide_eq_true h.1.1, flSame_of h.1.2, kvSame_of h.2]
theorem symEq_of {g : Wld} {u v : V} {x y : D} (r : Rep ca g u x) (q : Rep ca g v y) (h : symEq x y = true) : u = v ∧ flatV u = true ∧ scal u u = true ∧ eqV u u = true := by
  unfold symEq at h
  split at h
  · have e := Nat.beq_eq.mp h
    subst e
    cases r; cases q
    exact ⟨rfl, rfl, rfl, by simp [eqV]⟩
  · have e := kvSame_of h
    subst e
    cases r with
    | txt e1 => cases q with
      | txt e2 =>
        rw [e1] at e2
        cases e2
        exact ⟨rfl, rfl, rfl, by simp [eqV]⟩
  · cases h
def eqF (S : S3) : Nat → D → D → Option Bool
  | 0, _, _ => none
  | n + 1, x, y => if symEq x y = true then some true else match flatD x, flatD y with
    | some a, some b => if scal a b = true then some (decide (a = b)) else none
    | some _, none => none
    | none, some _ => none
    | none, none => match x, y with
      | .tup a, .tup b => (eqs (eqF S n) a b).map fun r => r && a.length == b.length
      | .tup _, _ => none
      | _, .tup _ => none
      | x, y => match obOf S x, obOf S y with
        | some (.lst a), some (.lst b) => if a.length = b.length then eqs (eqF S n) a b else some false
        | some (.dic a), some (.dic b) => (eqk (eqF S n) a b).map fun r => a.length == b.length && r
        | _, _ => none
theorem flatD_rep {g : Wld} {v : V} {d : D} {a : V} (r : Rep ca g v d) (h : flatD d = some a) : v = a ∧ flatV a = true := by
  cases r <;> cases h <;> exact ⟨rfl, rfl⟩
theorem eqV_scal {a b : V} (fa : flatV a = true) (fb : flatV b = true) (h : scal a b = true) : eqV a b = decide (a = b) := by
  cases a <;> first | (cases fa; done) | (cases b <;> first | (cases fb; done) | (cases h; done) | (simp [eqV]; done) | (simp only [eqV]; first | exact dec_int.symm | exact dec_bl.symm | exact dec_str.symm))
section
variable {g : Wld} {S : S3} {H : Hp}
theorem eqs_same {f : D → D → Option Bool} (hf : ∀ v x y b, Rep ca g v x → Rep ca g v y → f x y = some b → b = true) : ∀ {vs : List V} {xs ys : List D} {b : Bool}, RepL ca g vs xs → RepL ca g vs ys → eqs f xs ys = some b → b = true
  | _, _, _, b, .nil, .nil, h => by unfold eqs at h; cases h; rfl
  | _, _, _, b, .cons r t, .cons q u, h => by
    unfold eqs at h
    split at h
    · rename_i a c e1 e2
      cases h
      rw [hf _ _ _ _ r q e1, eqs_same hf t u e2]
      rfl
    · cases h
theorem getA_keys {α β : Type} : ∀ {l : List (Key × α)} {m : List (Key × β)}, l.map (·.1) = m.map (·.1) → ∀ k, (getA l k).isSome = (getA m k).isSome
  | [], [], _, _ => rfl
  | [], _ :: _, h, _ => by simp at h
  | _ :: _, [], h, _ => by simp at h
  | (j, x) :: r, (i, y) :: t, h, k => by
    simp only [List.map_cons, List.cons.injEq] at h
    unfold getA
    rw [h.1]
    by_cases e : i = k
    · rw [if_pos e, if_pos e]; rfl
    · rw [if_neg e, if_neg e]; exact getA_keys h.2 k
theorem getA_head {α : Type} {k : Key} {x : α} {r : List (Key × α)} : getA ((k, x) :: r) k = some x := by unfold getA; rw [if_pos rfl]
theorem getA_tail {α : Type} {k j : Key} {x : α} {r : List (Key × α)} (h : ¬ j = k) : getA ((j, x) :: r) k = getA r k := by
  conv => lhs; unfold getA
  rw [if_neg h]
theorem mem_getA {α : Type} : ∀ {l : List (Key × α)} {k : Key} {x : α}, (l.map (·.1)).Nodup → (k, x) ∈ l → getA l k = some x
  | (j, y) :: r, k, x, nd, h => by
    rw [List.map_cons] at nd
    obtain ⟨n1, n2⟩ := List.nodup_cons.mp nd
    rcases List.mem_cons.mp h with e | e
    · cases e; exact getA_head
    · have hj : ¬ j = k := fun z => n1 (List.mem_map.mpr ⟨(k, x), e, z.symm⟩)
      rw [getA_tail hj]
      exact mem_getA n2 e
/-- what eqk says, key by key -/
theorem eqk_all {f : D → D → Option Bool} : ∀ {a b : List (Key × D)} {r : Bool}, eqk f a b = some r →
    (∀ k v y, (k, v) ∈ a → getA b k = some y → ∃ c, f v y = some c) ∧ r = a.all fun p => match getA b p.1 with
      | some y => (f p.2 y).getD false
      | none => false
  | [], b, r, h => by unfold eqk at h; cases h; exact ⟨fun k v y z => (by simp at z), rfl⟩
  | (j, v) :: t, b, r, h => by
    unfold eqk at h
    split at h
    · rename_i hj
      obtain ⟨c, hc, e⟩ := Option.map_eq_some_iff.mp h
      obtain ⟨h1, h2⟩ := eqk_all hc
      subst e
      refine ⟨fun k w y m q => ?_, ?_⟩
      · rcases List.mem_cons.mp m with z | z
        · cases z; rw [hj] at q; cases q
        · exact h1 k w y z q
      · rw [List.all_cons, hj]; rfl
    · rename_i y hj
      split at h
      · rename_i a c e1 e2
        obtain ⟨h1, h2⟩ := eqk_all e2
        cases h
        refine ⟨fun k w y' m q => ?_, ?_⟩
        · rcases List.mem_cons.mp m with z | z
          · cases z; rw [hj] at q; cases q; exact ⟨a, e1⟩
          · exact h1 k w y' z q
        · rw [List.all_cons, hj, h2]
          show _ = ((f v y).getD false && _)
          rw [e1]; rfl
      · cases h
theorem RepK.mem : ∀ {vs : List (Key × V)} {ds : List (Key × D)} {k : Key} {d : D}, RepK ca g vs ds → (k, d) ∈ ds → ∃ v, (k, v) ∈ vs ∧ Rep ca g v d
  | _, _, _, _, .nil, h => by simp at h
  | _, _, k, d, .cons r t, h => by
    rcases List.mem_cons.mp h with e | e
    · cases e; exact ⟨_, List.mem_cons_self, r⟩
    · obtain ⟨v, h1, h2⟩ := RepK.mem t e
      exact ⟨v, List.mem_cons_of_mem _ h1, h2⟩
theorem valV_mem {κ : Type} [DecidableEq κ] : ∀ {l : List (κ × V)} {k : κ} {x : V}, (l.map (·.1)).Nodup → (k, x) ∈ l → valV l k = some x
  | (j, y) :: r, k, x, nd, h => by
    rw [List.map_cons] at nd
    obtain ⟨n1, n2⟩ := List.nodup_cons.mp nd
    rcases List.mem_cons.mp h with e | e
    · cases e; exact valV_pos rfl
    · have hj : ¬ j = k := fun z => n1 (List.mem_map.mpr ⟨(k, x), e, z.symm⟩)
      rw [valV_neg (p := (j, y)) hj]
      exact valV_mem n2 e
/-- the same value: equal -/
theorem eqF_same (sm : Sim ca g S H) (nd : ∀ a kvs, Rd H a (.dK kvs) → (kvs.map (·.1)).Nodup) : ∀ (n : Nat) (v : V) (x y : D) (b : Bool), Rep ca g v x → Rep ca g v y → eqF S n x y = some b → b = true
  | 0, _, _, _, _, _, _, h => by cases h
  | n + 1, v, x, y, b, r, q, h => by
    unfold eqF at h
    split at h
    · cases h; rfl
    split at h
    · rename_i a c e1 e2
      obtain ⟨z1, f1⟩ := flatD_rep r e1
      obtain ⟨z2, _⟩ := flatD_rep q e2
      subst z1
      subst z2
      split at h
      · cases h
        simp
      · cases h
    · cases h
    · cases h
    · split at h
      · obtain ⟨c, hc, e⟩ := Option.map_eq_some_iff.mp h
        subst e
        cases r with
        | tup e1 r1 =>
          cases q with
          | tup e2 r2 =>
            rw [e1] at e2
            cases e2
            rw [eqs_same (eqF_same sm nd n) r1 r2 hc, ← r1.len, ← r2.len]
            simp
      · cases h
      · cases h
      · split at h
        · rename_i a c e1 e2
          obtain ⟨p, vs, z1, hp, r1⟩ := sm.lst r (by unfold lstOf; rw [e1])
          obtain ⟨p', vs', z2, hp', r2⟩ := sm.lst q (by unfold lstOf; rw [e2])
          rw [z1] at z2
          cases z2
          have ev : vs = vs' := by
            rcases hp with hp | ⟨o, hp⟩ <;> rcases hp' with hp' | ⟨o', hp'⟩ <;> (rw [hp] at hp'; cases hp' <;> rfl)
          subst ev
          rw [if_pos (by rw [← r1.len, ← r2.len])] at h
          exact eqs_same (eqF_same sm nd n) r1 r2 h
        · rename_i a c e1 e2
          obtain ⟨p, vs, z1, hp, r1⟩ := sm.dic r (by unfold dicOf; rw [e1])
          obtain ⟨p', vs', z2, hp', r2⟩ := sm.dic q (by unfold dicOf; rw [e2])
          rw [z1] at z2
          cases z2
          have ev : vs = vs' := by
            rcases hp with hp | ⟨o, hp⟩ <;> rcases hp' with hp' | ⟨o', hp'⟩ <;> (rw [hp] at hp'; cases hp' <;> rfl)
          subst ev
          obtain ⟨k, hk, e⟩ := Option.map_eq_some_iff.mp h
          subst e
          obtain ⟨h1, h2⟩ := eqk_all hk
          have hl : (a.length == c.length) = true := by rw [← r1.len, ← r2.len]; simp
          rw [hl, Bool.true_and, h2, List.all_eq_true]
          rintro ⟨k', d'⟩ hm
          obtain ⟨v1, m1, rv1⟩ := r1.mem hm
          have hv := valV_mem (nd _ _ hp) m1
          cases hg : getA c k' with
          | none => rw [r2.none hg] at hv; cases hv
          | some y' =>
            obtain ⟨v2, q2, rv2⟩ := r2.get hg
            rw [hv] at q2
            cases q2
            obtain ⟨c', hc'⟩ := h1 k' d' y' hm hg
            show (eqF S n d' y').getD false = true
            rw [hc']
            exact eqF_same sm nd n v1 d' y' c' rv1 rv2 hc'
        · cases h
end
section
variable {pins : List (Addr × Obj)} {σ : L2.St} {H : Hp} {s : Shared} {g : Wld} {S : S3}
theorem range_all_succ (e : Nat → Bool) (n : Nat) : (List.range (n + 1)).all e = (e 0 && (List.range n).all fun j => e (j + 1)) := by
  rw [List.range_succ_eq_map, List.all_cons, List.all_map]
  rfl
theorem eqs_tree {P : Program} {w : World} {n : Nat} {f : D → D → Option Bool}
    (hf : ∀ u v x y uv vv b, Rep ca g u x → Rep ca g v y → RelV u uv → RelV v vv → f x y = some b → PySem.W.EqTree P w s n uv vv b) :
    ∀ {us vs : List V} {xs ys : List D} {its jts : List Value} {b : Bool}, RepL ca g us xs → RepL ca g vs ys → Vals us its → Vals vs jts → eqs f xs ys = some b →
      ∃ e : Nat → Bool, (∀ (j : Nat) (h1 : j < its.length) (h2 : j < jts.length), PySem.W.EqTree P w s n its[j] jts[j] (e j)) ∧ (List.range (min its.length jts.length)).all e = b
  | [], vs, [], ys, [], jts, b, .nil, r2, .nil, v2, h => by
    refine ⟨fun _ => true, fun j h1 _ => absurd h1 (Nat.not_lt_zero _), ?_⟩
    have h : (some true : Option Bool) = some b := by unfold eqs at h; exact h
    cases h
    simp
  | u :: us, [], x :: xs, [], i :: its, [], b, _, .nil, _, .nil, h => by
    refine ⟨fun _ => true, fun j _ h2 => absurd h2 (Nat.not_lt_zero _), ?_⟩
    have h : (some true : Option Bool) = some b := by unfold eqs at h; exact h
    cases h
    simp
  | u :: us, v :: vs, x :: xs, y :: ys, i :: its, j :: jts, b, .cons r t, .cons q k, .cons ru rt, .cons qu qt, h => by
    unfold eqs at h
    split at h
    · rename_i a c e1 e2
      cases h
      obtain ⟨e, h1, h2⟩ := eqs_tree hf t k rt qt e2
      refine ⟨fun m => match m with
        | 0 => a
        | m + 1 => e m, fun m m1 m2 => ?_, ?_⟩
      · cases m with
        | zero => exact hf _ _ _ _ _ _ _ r q ru qu e1
        | succ m => exact h1 m (Nat.lt_of_succ_lt_succ m1) (Nat.lt_of_succ_lt_succ m2)
      · have em : min (i :: its).length (j :: jts).length = min its.length jts.length + 1 := by simp only [List.length_cons]; omega
        rw [em, range_all_succ]
        show (a && (List.range (min its.length jts.length)).all e) = _
        rw [h2]
    · cases h
theorem mem_valueAt {k : Key} {v : Value} : ∀ {l : List (Key × Value)}, (l.map (·.1)).Nodup → (k, v) ∈ l → valueAt l k = some v
  | [], _, h => by simp at h
  | p :: r, nd, h => by
    rw [List.map_cons] at nd
    obtain ⟨n1, n2⟩ := List.nodup_cons.mp nd
    unfold valueAt
    rw [List.find?_cons]
    rcases List.mem_cons.mp h with e | e
    · subst e; simp
    · have hj : ¬ p.1 = k := fun z => n1 (List.mem_map.mpr ⟨(k, v), e, z.symm⟩)
      rw [decide_eq_false hj]
      exact mem_valueAt n2 e
theorem getA_mem {α : Type} {k : Key} {d : α} : ∀ {l : List (Key × α)}, getA l k = some d → (k, d) ∈ l
  | [], h => by cases h
  | (j, x) :: r, h => by
    by_cases e : j = k
    · subst e
      rw [getA_head] at h
      cases h
      exact List.mem_cons_self
    · rw [getA_tail e] at h
      exact List.mem_cons_of_mem _ (getA_mem h)
theorem eqk_tree {P : Program} {w : World} {n : Nat} {f : D → D → Option Bool}
    (hf : ∀ u v x y uv vv b, Rep ca g u x → Rep ca g v y → RelV u uv → RelV v vv → f x y = some b → PySem.W.EqTree P w s n uv vv b)
    {vs vs' : List (Key × V)} {a c : List (Key × D)} {us us' : List (Key × Value)} {r : Bool} (r1 : RepK ca g vs a) (r2 : RepK ca g vs' c) (kv1 : KV vs us) (kv2 : KV vs' us') (nd1 : (vs.map (·.1)).Nodup) (h : eqk f a c = some r) :
    ∃ e : Key → Bool, (∀ k v y, (k, v) ∈ us → valueAt us' k = some y → PySem.W.EqTree P w s n v y (e k)) ∧ (us.all fun p => (valueAt us' p.1).isSome && e p.1) = r := by
  obtain ⟨h1, h2⟩ := eqk_all h
  refine ⟨fun k => match getA a k, getA c k with
    | some d, some d' => (f d d').getD false
    | _, _ => false, fun k v y hm hy => ?_, ?_⟩
  · have nu : (us.map (·.1)).Nodup := by rw [← KV.keys kv1]; exact nd1
    have q1 := KV.val kv1 k
    rw [mem_valueAt nu hm] at q1
    have q2 := KV.val kv2 k
    rw [hy] at q2
    cases g1 : getA a k with
    | none => rw [r1.none g1] at q1; exact q1.elim
    | some d =>
      cases g2 : getA c k with
      | none => rw [r2.none g2] at q2; exact q2.elim
      | some d' =>
        obtain ⟨v1, w1, rv1⟩ := r1.get g1
        obtain ⟨v2, w2, rv2⟩ := r2.get g2
        rw [w1] at q1
        rw [w2] at q2
        obtain ⟨c', hc'⟩ := h1 k d d' (getA_mem g1) g2
        dsimp only
        rw [g1, g2]
        show PySem.W.EqTree P w s n v y ((f d d').getD false)
        rw [hc']
        exact hf v1 v2 d d' v y c' rv1 rv2 q1 q2 hc'
  · rw [h2]
    have go : ∀ (vs : List (Key × V)) (l : List (Key × D)) (ul : List (Key × Value)), RepK ca g vs l → KV vs ul → (∀ p ∈ l, getA a p.1 = some p.2) → (ul.all fun p => (valueAt us' p.1).isSome && (match getA a p.1, getA c p.1 with
        | some d, some d' => (f d d').getD false
        | _, _ => false)) = l.all fun p => match getA c p.1 with
        | some y => (f p.2 y).getD false
        | none => false := by
      intro vs
      induction vs with
      | nil => intro l ul h1 h2 _; cases h1; cases h2; rfl
      | cons p vs ih =>
        intro l ul h1 h2 hm
        cases h1 with
        | cons ra rt =>
          cases h2 with
          | cons qa qt =>
            rename_i k0 v0 d0 ds0 b0 ul0
            rw [List.all_cons, List.all_cons, ih _ _ rt qt fun p hp => hm p (List.mem_cons_of_mem _ hp)]
            have hk : k0 = b0.1 := qa.1
            rw [← hk]
            have g1 : getA a k0 = some d0 := hm (k0, d0) List.mem_cons_self
            rw [g1]
            have q2 := KV.val kv2 k0
            cases g2 : getA c k0 with
            | none =>
              show ((valueAt us' k0).isSome && false && _) = (false && _)
              rw [Bool.and_false]
            | some d' =>
              obtain ⟨v2, w2, _⟩ := r2.get g2
              rw [w2] at q2
              obtain ⟨x2, hx2, _⟩ := RelO.some_of q2
              rw [hx2]
              rfl
    exact go vs a us r1 kv1 fun p hp => mem_getA (by rw [← r1.keys]; exact nd1) hp
theorem eqF_tree (I : Inv X pins σ H s) (sm : Sim ca g S H) : ∀ (n : Nat) (u v : V) (x y : D) (uv vv : Value) (b : Bool), Rep ca g u x → Rep ca g v y → RelV u uv → RelV v vv → eqF S n x y = some b → PySem.W.EqTree X.prog X.w s n uv vv b
  | 0, _, _, _, _, _, _, _, _, _, _, _, h => by cases h
  | n + 1, u, v, x, y, uv, vv, b, r, q, ru, qv, h => by
    have same : u = v → b = true := fun e => by
      subst e
      exact eqF_same sm (fun a kvs hr => ndK I hr) (n + 1) u x y b r q h
    have sv : u = v → uv = vv ∨ flatV u = true := fun e => by
      subst e
      cases u with
      | ref a => exact .inl ((show uv = _ from ru).trans (show vv = _ from qv).symm)
      | ty a => exact .inl ((show uv = _ from ru).trans (show vv = _ from qv).symm)
      | byt _ => cases r
      | flt _ => cases r
      | _ => exact .inr rfl
    by_cases euv : ∃ a, u = .ref a ∧ v = .ref a
    · obtain ⟨a, rfl, rfl⟩ := euv
      rw [same rfl]
      cases ru
      cases qv
      exact .same
    · unfold eqF at h
      split at h
      · rename_i hs
        obtain ⟨rfl, f1, _, e⟩ := symEq_of r q hs
        cases h
        rw [← e]
        exact .leaf fun A _ => eqAt_V ru qv f1 f1
      split at h
      · rename_i a c e1 e2
        obtain ⟨rfl, f1⟩ := flatD_rep r e1
        obtain ⟨rfl, f2⟩ := flatD_rep q e2
        split at h
        · rename_i hs
          cases h
          rw [← eqV_scal f1 f2 hs]
          exact .leaf fun A _ => eqAt_V ru qv f1 f2
        · cases h
      · cases h
      · cases h
      · split at h
        · obtain ⟨c, hc, e⟩ := Option.map_eq_some_iff.mp h
          subst e
          obtain ⟨a, vs, rfl, ha, ra⟩ := sm.tup r
          obtain ⟨a', vs', rfl, ha', ra'⟩ := sm.tup q
          cases ru
          cases qv
          obtain ⟨its, rv, ht, _⟩ := I.tuple (SqT.of ha)
          obtain ⟨jts, rv', ht', _⟩ := I.tuple (SqT.of ha')
          obtain ⟨e, h1, h2⟩ := eqs_tree (eqF_tree I sm n) ra ra' rv rv' hc
          have z := PySem.W.EqTree.tuples (prog := X.prog) (w := X.w) (fun z => euv ⟨a, rfl, by rw [z]⟩) ht ht' (n := n) (e := e) (fun j j1 j2 => by simpa using h1 j (by simpa using j1) (by simpa using j2))
          rw [List.size_toArray, List.size_toArray, h2, ← rv.length, ← rv'.length, ra.len, ra'.len] at z
          exact z
        · cases h
        · cases h
        · split at h
          · rename_i a c e1 e2
            obtain ⟨p, vs, rfl, hp, r1⟩ := sm.lst r (by unfold lstOf; rw [e1])
            obtain ⟨p', vs', rfl, hp', r2⟩ := sm.lst q (by unfold lstOf; rw [e2])
            cases ru
            cases qv
            obtain ⟨its, rv, pl, _⟩ := I.list (.inl hp)
            obtain ⟨jts, rv', pl', _⟩ := I.list (.inl hp')
            have hne : p ≠ p' := fun z => euv ⟨p, rfl, by rw [z]⟩
            have l1 : its.length = a.length := by rw [← rv.length, r1.len]
            have l2 : jts.length = c.length := by rw [← rv'.length, r2.len]
            split at h
            · rename_i hl
              obtain ⟨e, h1, h2⟩ := eqs_tree (eqF_tree I sm n) r1 r2 rv rv' h
              have z := PySem.W.EqTree.lists (prog := X.prog) (w := X.w) hne pl.isList pl'.isList (by rw [List.size_toArray, List.size_toArray]; omega) (n := n) (e := e) (fun j j1 j2 => by simpa using h1 j (by simpa using j1) (by simpa using j2))
              rw [List.size_toArray] at z
              rw [show min its.length jts.length = its.length by omega] at h2
              rw [h2] at z
              exact z
            · rename_i hl
              cases h
              exact .listsLen hne pl.isList pl'.isList (by rw [List.size_toArray, List.size_toArray]; simp; omega)
          · rename_i a c e1 e2
            obtain ⟨p, vs, rfl, hp, r1⟩ := sm.dic r (by unfold dicOf; rw [e1])
            obtain ⟨p', vs', rfl, hp', r2⟩ := sm.dic q (by unfold dicOf; rw [e2])
            cases ru
            cases qv
            obtain ⟨k, hk, e⟩ := Option.map_eq_some_iff.mp h
            subst e
            obtain ⟨_, hs1, us, kv1, d1⟩ := dk_rd I.hok hp
            obtain ⟨_, hs2, us', kv2, d2⟩ := dk_rd I.hok hp'
            have hne : p ≠ p' := fun z => euv ⟨p, rfl, by rw [z]⟩
            obtain ⟨f, t, ef⟩ := eqk_tree (eqF_tree I sm n) r1 r2 kv1 kv2 (ndK I hp) hk
            have z := PySem.W.EqTree.dicts (prog := X.prog) (w := X.w) (n := n) hne hs1 hs2 d1 d2 (e := f) t
            have e1 : (us.length == us'.length) = (a.length == c.length) := by rw [← KV.length kv1, ← KV.length kv2, r1.len, r2.len]
            rw [e1, ef] at z
            exact z
          · cases h
end
/-- == of data, ten deep -/
def eqO : O2 := fun x y S => (eqF S 10 x y).map fun b => (.bl b, S)
def neO : O2 := fun x y S => (eqF S 10 x y).map fun b => (.bl (!b), S)
end
end M3
/-! M3E: == and != of data, in, not in. -/
namespace M3N
open PySem PySem.SeqAt
open PySem.AutoSeq1 (wpAny_loadPart')
open PySem.MeetsSeq PySem.MeetsSeq2 PySem.MeetsSeq3
variable {prog : Program} {w : World}
/-- the loop of two lists' !=, from place i on -/
theorem lists_from (p q : Addr) (xs ys : Array Value) (n1 n2 : Nat) (d1 d2 : Option Addr) (s1 s2 : Array (Option Value)) (hl : xs.size = ys.size) (f : Nat → Bool) (m : Nat) :
    ∀ i : Nat, xs.size - i = m → MeetsIn prog w (Builtin.«list.__eq__.loop» ⟨[.ref p, .ref q, rawInt i, rawInt 3], []⟩)
      (fun A R s => s.heap.get? p = some { cls := .type "list", dict := d1, data := .seq xs n1, slots := s1 } ∧ s.heap.get? q = some { cls := .type "list", dict := d2, data := .seq ys n2, slots := s2 } ∧
        (∀ j (h1 : j < xs.size) (h2 : j < ys.size), EqIn prog w A.in1 s xs[j] ys[j] (f j)) ∧ R (.ok (.ret (.bool (!((List.range xs.size).drop i).all f)))) s) := by
  induction m with
  | zero =>
    intro i hm A R s z
    obtain ⟨hp, gs, dr, tk, os⟩ := s
    obtain ⟨zp, zq, ze, zr⟩ := z
    wp_walk using wpAny_loadPart' zp, wpAny_loadPart' zq
    have nx : xs[((i : Nat) : Int).toNat]? = none := by simp; omega
    have ny : ys[((i : Nat) : Int).toNat]? = none := by simp; omega
    have nd : (List.range xs.size).drop i = [] := by simp; omega
    rw [nx, ny]
    wp_walk using wpAny_loadPart' zp, wpAny_loadPart' zq
    show R (.ok (.ret (.bool (xs.size != ys.size)))) _
    rw [nd] at zr
    rw [hl]
    simpa using zr
  | succ m ih =>
    intro i hm A R s z
    obtain ⟨hp, gs, dr, tk, os⟩ := s
    obtain ⟨zp, zq, ze, zr⟩ := z
    wp_walk using wpAny_loadPart' zp, wpAny_loadPart' zq
    have lx : i < xs.size := by omega
    have ly : i < ys.size := by omega
    have nx : xs[((i : Nat) : Int).toNat]? = some xs[i] := by simp [lx]
    have ny : ys[((i : Nat) : Int).toNat]? = some ys[i] := by simp [ly]
    have nd : (List.range xs.size).drop i = i :: (List.range xs.size).drop (i + 1) := by simp [List.drop_eq_getElem_cons, lx]
    have ci : ((i : Int) + 1) = ((i + 1 : Nat) : Int) := by omega
    rw [nx, ny]
    rw [nd, List.all_cons] at zr
    refine wpAny_bind (ze i lx ly _ _ ?_)
    cases fi : f i with
    | false =>
      rw [fi] at zr
      wp_walk using wpAny_loadPart' zp, wpAny_loadPart' zq
      rw [nx, ny]
      wp_walk
      simpa using zr
    | true =>
      rw [fi] at zr
      wp_walk
      rw [ci]
      refine ⟨plainId_quiet plain_eq_loop _, codeAny_builtin entry_eq_loop ?_⟩
      rw [Around.under_plainId plain_eq_loop _]
      exact ih (i + 1) (by omega) A R _ ⟨zp, zq, ze, by simpa using zr⟩
theorem lists_meet (p q : Addr) (xs ys : Array Value) (n1 n2 : Nat) (d1 d2 : Option Addr) (s1 s2 : Array (Option Value)) (hl : xs.size = ys.size) (f : Nat → Bool) :
    MeetsIn prog w (Builtin.«list.__ne__» ⟨[.ref p, .ref q], []⟩)
      (fun A R s => s.heap.get? p = some { cls := .type "list", dict := d1, data := .seq xs n1, slots := s1 } ∧ s.heap.get? q = some { cls := .type "list", dict := d2, data := .seq ys n2, slots := s2 } ∧
        (∀ j (h1 : j < xs.size) (h2 : j < ys.size), EqIn prog w A.in1 s xs[j] ys[j] (f j)) ∧ R (.ok (.ret (.bool (!(List.range xs.size).all f)))) s) := by
  intro A R s z
  obtain ⟨hp, gs, dr, tk, os⟩ := s
  obtain ⟨zp, zq, ze, zr⟩ := z
  have sub := AutoSeq1.sub_list_list
  have same : ¬ (xs.size != ys.size) = true := by simp [hl]
  wp_walk using wpAny_loadPart' zp, wpAny_loadPart' zq
  refine ⟨plainId_quiet plain_eq_loop _, codeAny_builtin entry_eq_loop ?_⟩
  rw [Around.under_plainId plain_eq_loop _]
  exact lists_from p q xs ys n1 n2 d1 d2 s1 s2 hl f _ 0 rfl A R _ ⟨zp, zq, ze, by simpa using zr⟩
theorem tuples_meet (p q : Addr) (xs ys : Array Value) (n1 n2 : Nat) (d1 d2 : Option Addr) (s1 s2 : Array (Option Value)) (f : Nat → Bool) :
    MeetsIn prog w (Builtin.«tuple.__ne__» ⟨[.ref p, .ref q], []⟩)
      (fun A R s => s.heap.get? p = some { cls := .type "tuple", dict := d1, data := .seq xs n1, slots := s1 } ∧ s.heap.get? q = some { cls := .type "tuple", dict := d2, data := .seq ys n2, slots := s2 } ∧
        (∀ j (h1 : j < xs.size) (h2 : j < ys.size), EqIn prog w A.in1 s xs[j] ys[j] (f j)) ∧
        R (.ok (.ret (.bool (!((List.range (min xs.size ys.size)).all f && xs.size == ys.size))))) s) :=
  .of_wp fun A R s z => by
    obtain ⟨hp, gs, dr, tk, os⟩ := s
    obtain ⟨zp, zq, ze, zr⟩ := z
    have sub := AutoSeq1.sub_tuple_tuple
    have hz : (xs.toList.zip ys.toList).length = min xs.size ys.size := by simp
    wp_walk using wpAny_loadPart' zp, wpAny_loadPart' zq, wpAny_forIn_list _ (fun left b s' => b.1 = none ∧ s' = ⟨hp, gs, dr, tk, os⟩ ∧ ∃ i, left = (xs.toList.zip ys.toList).drop i ∧
      R (.ok (.ret (.bool (!(((List.range (min xs.size ys.size)).drop i).all f && xs.size == ys.size))))) ⟨hp, gs, dr, tk, os⟩) _
    case turn =>
      rintro ⟨u, v⟩ left b s' ⟨hb, rfl, i, el, er⟩
      have li : i < (xs.toList.zip ys.toList).length := by
        by_cases c : i < (xs.toList.zip ys.toList).length
        · exact c
        · rw [List.drop_of_length_le (by omega)] at el
          cases el
      have lm : i < min xs.size ys.size := hz ▸ li
      have lx : i < xs.size := by omega
      have ly : i < ys.size := by omega
      rw [List.drop_eq_getElem_cons li] at el
      injection el with e1 e2
      have eu : u = xs[i] := by simpa using congrArg Prod.fst e1
      have ev : v = ys[i] := by simpa using congrArg Prod.snd e1
      subst eu ev
      have nd : (List.range (min xs.size ys.size)).drop i = i :: (List.range (min xs.size ys.size)).drop (i + 1) := by simp [List.drop_eq_getElem_cons, lm]
      rw [nd, List.all_cons] at er
      refine wpAny_bind (ze i lx ly _ _ ?_)
      cases fi : f i with
      | false =>
        rw [fi] at er
        wp_walk
        exact ⟨_, rfl, by simpa using er⟩
      | true =>
        rw [fi] at er
        wp_walk
        exact ⟨rfl, rfl, i + 1, e2, by simpa using er⟩
    case fin =>
      rintro ⟨b1, b2⟩ s' ⟨hb, rfl, i, el, er⟩
      simp only at hb
      subst hb
      have le : min xs.size ys.size ≤ i := by
        by_cases c : i < (xs.toList.zip ys.toList).length
        · rw [List.drop_eq_getElem_cons c] at el
          cases el
        · rw [hz] at c
          omega
      rw [List.drop_of_length_le (by simpa using le)] at er
      wp_walk
      exact ⟨_, rfl, by simpa [Builtin.Tuple.tupleCompareSizes, bne] using er⟩
    case h =>
      exact ⟨rfl, rfl, 0, rfl, by simpa using zr⟩
section
variable {A : Around} {E : Value → Shared → Prop} {s : Shared} {Q : Value → Shared → Prop}
theorem ne_lists {p q : Addr} {xs ys : Array Value} {f : Nat → Bool} (hp : s.heap.IsList p xs) (hq : s.heap.IsList q ys) (hl : xs.size = ys.size) (hu : A.units < cLine)
    (he : ∀ j (h1 : j < xs.size) (h2 : j < ys.size), EqIn prog w A.in1 s xs[j] ys[j] (f j)) (h : Q (.bool (!(List.range xs.size).all f)) s) : wpAny (model prog w) A (compareOp .NotEq (.ref p) (.ref q)) Q E s := by
  obtain ⟨⟨c1, d1, t1, s1⟩, o1, e1, n1, f1⟩ := id hp
  obtain ⟨⟨c2, d2, t2, s2⟩, o2, e2, n2, f2⟩ := id hq
  simp only at e1 f1 e2 f2
  subst e1 f1 e2 f2
  exact PySem.wpAny_richCompare_same_room (T := "list") (op := .NotEq) ⟨_, o1, rfl⟩ ⟨_, o2, rfl⟩ F.slot_list_ne (call_meetsIn F.slot_list_ne ⟨_, o1, rfl⟩ F.entry_list_ne (F.args_list_ne_2 _ _) (lists_meet p q xs ys n1 n2 d1 d2 s1 s2 hl f)
    ⟨o1, o2, he, show Value.bool (!(List.range xs.size).all f) ≠ Value.notImplemented ∧ Q (.bool (!(List.range xs.size).all f)) s from ⟨(fun x => nomatch x), h⟩⟩) hu
theorem ne_tuples {p q : Addr} {xs ys : Array Value} {f : Nat → Bool} (hp : s.heap.IsTuple p xs) (hq : s.heap.IsTuple q ys) (hu : A.units < cLine)
    (he : ∀ j (h1 : j < xs.size) (h2 : j < ys.size), EqIn prog w A.in1 s xs[j] ys[j] (f j)) (h : Q (.bool (!((List.range (min xs.size ys.size)).all f && xs.size == ys.size))) s) : wpAny (model prog w) A (compareOp .NotEq (.ref p) (.ref q)) Q E s := by
  obtain ⟨⟨c1, d1, t1, s1⟩, o1, e1, n1, f1⟩ := id hp
  obtain ⟨⟨c2, d2, t2, s2⟩, o2, e2, n2, f2⟩ := id hq
  simp only at e1 f1 e2 f2
  subst e1 f1 e2 f2
  exact PySem.wpAny_richCompare_same_room (T := "tuple") (op := .NotEq) ⟨_, o1, rfl⟩ ⟨_, o2, rfl⟩ F.slot_tuple_ne (call_meetsIn F.slot_tuple_ne ⟨_, o1, rfl⟩ F.entry_tuple_ne (F.args_tuple_ne_2 _ _) (tuples_meet p q xs ys n1 n2 d1 d2 s1 s2 f)
    ⟨o1, o2, he, show Value.bool (!((List.range (min xs.size ys.size)).all f && xs.size == ys.size)) ≠ Value.notImplemented ∧ Q (.bool (!((List.range (min xs.size ys.size)).all f && xs.size == ys.size))) s from ⟨(fun x => nomatch x), h⟩⟩) hu
theorem ne_dicts {K : Type} [DecidableEq K] {knd : KeyKind prog w K} {p q : Addr} {xs ys : List (K × Value)} {r : Bool} (hp : (p == sysModules) = false) (hq : (q == sysModules) = false)
    (dp : s.heap.DictOf knd p xs) (dq : s.heap.DictOf knd q ys) (hu : A.units < cLine) (hits : xs.length = ys.length → PySem.W.KeqHitsIn prog w A.in1 s ys xs r) (h : Q (.bool (!(xs.length == ys.length && r))) s) :
    wpAny (model prog w) A (compareOp .NotEq (.ref p) (.ref q)) Q E s := by
  refine PySem.wpAny_richCompare_same_room (op := .NotEq) dp.typeIs dq.typeIs PySem.F.slot_dict_ne (wpAny_call_entry PySem.F.slot_dict_ne dp.typeIs PySem.F.entry_dict_ne ?_ (PySem.F.args_dict_ne_2 _ _)) hu
  show wpAny _ _ (Builtin.Dict.dictSlotArgs "__ne__" ⟨[.ref p, .ref q], []⟩ >>= _) _ _ s
  unfold Builtin.Dict.dictSlotArgs
  refine wpAny_bind (wpAny_bind (wpAny_notOrdered_dict dp.typeIs ?_))
  show wpAny _ _ (pure (Value.ref p, Value.ref q)) _ _ s
  refine wpAny_pure (wpAny_bind (wpAny_isInstance (T := "dict") dq.typeIs PySem.F.sub_dict_dict ?_))
  simp only [Bool.not_true, Bool.false_eq_true, if_false]
  refine wpAny_bind (wpAny_pure (wpAny_bind (wpAny_pure (wpAny_bind (PySem.W.keq_samePairsIn hp hq dp dq hits (wpAny_pure ⟨_, rfl, (fun x => nomatch x), ?_⟩))))))
  simpa using h
end
end M3N
/-! M3F: == and != of data, in, not in, calls of built-ins. -/
namespace M3
open PySem L2
variable {ca : CAK}
section
variable {X : Cx} {pins : List (Addr × Obj)} {σ : L2.St} {H : Hp} {s : Shared} {g : Wld} {S : S3}
theorem fin_b {Q : VK} {k : Bool} (I : Inv X pins σ H s) (q : Q (.bl k) H) : EP X pins σ Q (.bool k) s := ⟨.bl k, H, I, rfl, q⟩
/-- == and != at the top -/
theorem eqF_top (hu : X.A.units + 64 < cLine) (I : Inv X pins σ H s) (sm : Sim ca g S H) {n : Nat} (hn : n < 60) {u v : V} {x y : D} {uv vv : Value} {b : Bool} (r : Rep ca g u x) (q : Rep ca g v y) (ru : RelV u uv) (qv : RelV v vv) (h : eqF S (n + 1) x y = some b) :
    (∀ Q : VK, Q (.bl b) H → wpAny (model X.prog X.w) X.A (compareOp .Eq uv vv) (EP X pins σ Q) X.xe s) ∧ (∀ Q : VK, Q (.bl (!b)) H → wpAny (model X.prog X.w) X.A (compareOp .NotEq uv vv) (EP X pins σ Q) X.xe s) := by
  unfold eqF at h
  split at h
  · rename_i hs
    obtain ⟨rfl, _, hsc, _⟩ := symEq_of r q hs
    cases h
    have e : decide (u = u) = true := decide_eq_true rfl
    exact ⟨fun Q hq => op_eq pins s σ H _ _ _ _ Q I ru qv ⟨hsc, by rw [e]; exact hq⟩, fun Q hq => op_ne pins s σ H _ _ _ _ Q I ru qv ⟨hsc, by rw [e]; exact hq⟩⟩
  split at h
  · rename_i a c e1 e2
    obtain ⟨rfl, f1⟩ := flatD_rep r e1
    obtain ⟨rfl, f2⟩ := flatD_rep q e2
    split at h
    · rename_i hs
      cases h
      exact ⟨fun Q hq => op_eq pins s σ H _ _ _ _ Q I ru qv ⟨hs, hq⟩, fun Q hq => op_ne pins s σ H _ _ _ _ Q I ru qv ⟨hs, hq⟩⟩
    · cases h
  · cases h
  · cases h
  · split at h
    · obtain ⟨c, hc, e⟩ := Option.map_eq_some_iff.mp h
      subst e
      obtain ⟨a, vs, rfl, ha, ra⟩ := sm.tup r
      obtain ⟨a', vs', rfl, ha', ra'⟩ := sm.tup q
      cases ru
      cases qv
      obtain ⟨its, rv, ht, _⟩ := I.tuple (SqT.of ha)
      obtain ⟨jts, rv', ht', _⟩ := I.tuple (SqT.of ha')
      obtain ⟨e, h1, h2⟩ := eqs_tree (eqF_tree I sm n) ra ra' rv rv' hc
      have e3 : ((List.range (min its.toArray.size jts.toArray.size)).all e && its.toArray.size == jts.toArray.size) = (c && vs.length == vs'.length) := by
        rw [List.size_toArray, List.size_toArray, h2, ← rv.length, ← rv'.length]
      rw [ra.len, ra'.len] at e3
      have tr : ∀ j (h1 : j < its.toArray.size) (h2 : j < jts.toArray.size), PySem.W.EqTree X.prog X.w s n its.toArray[j] jts.toArray[j] (e j) := fun j j1 j2 => by simpa using h1 j (by simpa using j1) (by simpa using j2)
      refine ⟨fun Q hq => PySem.W.eq_tuplesT ht ht' tr (by omega) (fin_b I (by rw [e3]; exact hq)), fun Q hq => ?_⟩
      exact M3N.ne_tuples ht ht' (by omega) (fun j j1 j2 => (tr j j1 j2).at X.A.in1 (by show X.A.units + 1 + n < cLine; omega)) (fin_b I (by rw [e3]; exact hq))
    · cases h
    · cases h
    · split at h
      · rename_i a c e1 e2
        obtain ⟨p, vs, rfl, hp, r1⟩ := sm.lst r (by unfold lstOf; rw [e1])
        obtain ⟨p', vs', rfl, hp', r2⟩ := sm.lst q (by unfold lstOf; rw [e2])
        cases ru
        cases qv
        obtain ⟨its, rv, pl, _⟩ := I.list (.inl hp)
        obtain ⟨jts, rv', pl', _⟩ := I.list (.inl hp')
        have l1 : its.length = a.length := by rw [← rv.length, r1.len]
        have l2 : jts.length = c.length := by rw [← rv'.length, r2.len]
        split at h
        · rename_i hl
          obtain ⟨e, h1, h2⟩ := eqs_tree (eqF_tree I sm n) r1 r2 rv rv' h
          rw [show min its.length jts.length = its.length by omega] at h2
          have tr : ∀ j (h1 : j < its.toArray.size) (h2 : j < jts.toArray.size), PySem.W.EqTree X.prog X.w s n its.toArray[j] jts.toArray[j] (e j) := fun j j1 j2 => by simpa using h1 j (by simpa using j1) (by simpa using j2)
          have hz : its.toArray.size = jts.toArray.size := by rw [List.size_toArray, List.size_toArray]; omega
          refine ⟨fun Q hq => PySem.W.eq_listsT pl.isList pl'.isList hz tr (by omega) (fin_b I (by rw [List.size_toArray, h2]; exact hq)), fun Q hq => ?_⟩
          exact M3N.ne_lists pl.isList pl'.isList hz (by omega) (fun j j1 j2 => (tr j j1 j2).at X.A.in1 (by show X.A.units + 1 + n < cLine; omega)) (fin_b I (by rw [List.size_toArray, h2]; exact hq))
        · rename_i hl
          cases h
          have hz : (its.toArray.size != jts.toArray.size) = true := by rw [List.size_toArray, List.size_toArray]; simp; omega
          exact ⟨fun Q hq => PySem.SeqAt.eq_list_lengthsAt pl.isList pl'.isList hz (by omega) (fin_b I hq), fun Q hq => PySem.SeqAt.RcNeAt.lists_lengths pl.isList pl'.isList hz (by omega) X.prog X.w X.xe _ (fin_b I hq)⟩
      · rename_i a c e1 e2
        obtain ⟨p, vs, rfl, hp, r1⟩ := sm.dic r (by unfold dicOf; rw [e1])
        obtain ⟨p', vs', rfl, hp', r2⟩ := sm.dic q (by unfold dicOf; rw [e2])
        cases ru
        cases qv
        obtain ⟨_, hs1, us, kv1, d1⟩ := dk_rd I.hok hp
        obtain ⟨_, hs2, us', kv2, d2⟩ := dk_rd I.hok hp'
        obtain ⟨k, hk, e⟩ := Option.map_eq_some_iff.mp h
        subst e
        obtain ⟨f, t, ef⟩ := eqk_tree (eqF_tree I sm n) r1 r2 kv1 kv2 (ndK I hp) hk
        have hits : PySem.W.KeqHitsIn X.prog X.w X.A.in1 s us' us k := by
          have z := PySem.W.KeqHitsIn.of (prog := X.prog) (w := X.w) (A := X.A.in1) (s := s) (kb := us') (e := f) us fun k v y hm hv => (t k v y hm hv).at X.A.in1 (by show X.A.units + 1 + n < cLine; omega)
          rw [ef] at z
          exact z
        have el : (us.length == us'.length) = (a.length == c.length) := by rw [← KV.length kv1, ← KV.length kv2, r1.len, r2.len]
        refine ⟨fun Q hq => PySem.W.keq_eqIn hs1 hs2 d1 d2 (by omega) (fun _ => hits) (fin_b I (by rw [el]; exact hq)), fun Q hq => M3N.ne_dicts hs1 hs2 d1 d2 (by omega) (fun _ => hits) (fin_b I (by rw [el]; exact hq))⟩
      · cases h
end
section
variable {X : Cx}
theorem op_eqO (hu : X.A.units + 64 < cLine) : OpR X (compareOp .Eq) (rdO2 ca eqO) := by
  intro pins s σ H x y v u Q I rx ry ⟨g, S, d, e, sm, rd, re, h⟩
  unfold eqO at h
  cases q : eqF S 10 d e with
  | none => rw [q] at h; exact h.elim
  | some b =>
    rw [q] at h
    exact (eqF_top hu I sm (n := 9) (by decide) rd re rx ry q).1 Q (h.now sm _ (.bl _))
theorem op_neO (hu : X.A.units + 64 < cLine) : OpR X (compareOp .NotEq) (rdO2 ca neO) := by
  intro pins s σ H x y v u Q I rx ry ⟨g, S, d, e, sm, rd, re, h⟩
  unfold neO at h
  cases q : eqF S 10 d e with
  | none => rw [q] at h; exact h.elim
  | some b =>
    rw [q] at h
    exact (eqF_top hu I sm (n := 9) (by decide) rd re rx ry q).2 Q (h.now sm _ (.bl _))
/-! ### in, not in -/
def keyOf : D → Option Key
  | .int i => some (.inl i)
  | .str s => some (.inr s)
  | _ => none
theorem keyOf_rep {g : Wld} {v : V} {d : D} {k : Key} (r : Rep ca g v d) (h : keyOf d = some k) : v = kV k := by
  cases r <;> cases h <;> rfl
/-- x in a list or tuple of flat things -/
def memD (x : V) : List D → Option Bool
  | [] => some false
  | d :: r => match flatD d, memD x r with
    | some y, some b => if scal y x = true then some (decide (y = x) || b) else none
    | _, _ => none
theorem memD_rep {g : Wld} {x : V} (fx : flatV x = true) : ∀ {vs : List V} {ds : List D} {b : Bool}, RepL ca g vs ds → memD x ds = some b → vs.all flatV = true ∧ inV x vs = b
  | _, _, b, .nil, h => by cases h; exact ⟨rfl, rfl⟩
  | _, _, b, .cons r t, h => by
    unfold memD at h
    split at h
    · rename_i y c e1 e2
      split at h
      · rename_i hs
        cases h
        obtain ⟨rfl, f1⟩ := flatD_rep r e1
        obtain ⟨h1, h2⟩ := memD_rep fx t e2
        refine ⟨by rw [List.all_cons, f1, h1]; rfl, ?_⟩
        unfold inV at h2 ⊢
        rw [List.any_cons, h2, eqV_scal f1 fx hs]
      · cases h
    · cases h
def seqOf (S : S3) : D → Option (List D)
  | .tup xs => some xs
  | .scr xs => some xs
  | d => lstOf S d
theorem Sim.sq {K : PySem.W.Frag} (hK : K = ca.K) {g : Wld} {S : S3} {H : Hp} (s : Sim ca g S H) {v : V} {d : D} (r : Rep ca g v d) {ds : List D} (h : seqOf S d = some ds) : ∃ a vs, v = .ref a ∧ (SqL K H a vs ∨ SqT K H a vs) ∧ RepL ca g vs ds := by
  unfold seqOf at h
  split at h
  · cases h
    obtain ⟨a, vs, e, ha, ra⟩ := s.tup r
    exact ⟨a, vs, e, .inr (SqT.of ha), ra⟩
  · cases h
    cases r with
    | scrK e r => exact ⟨_, _, rfl, .inl (.inr (hK ▸ e)), r⟩
    | scrF e r => exact ⟨_, _, rfl, .inl (.inl (s.frz _ _ e)), r⟩
  · obtain ⟨a, vs, e, ha, ra⟩ := s.lst r h
    exact ⟨a, vs, e, .inl (.inl ha), ra⟩
def inB (S : S3) (x y : D) : Option Bool := match dicOf S y with
  | some ks => (keyOf x).map fun k => (getA ks k).isSome
  | none => match seqOf S y, flatD x with
    | some ds, some v => memD v ds
    | _, _ => match x, y with
      | .str a, .str b => some (!(Builtin.Str.occurrences b a 0 b.length 1).isEmpty)
      | _, _ => none
def inO : O2 := fun x y S => (inB S x y).map fun b => (.bl b, S)
def notInO : O2 := fun x y S => (inB S x y).map fun b => (.bl (!b), S)
theorem inB_ok (hK : X.K = ca.K) (hu : X.A.units + 1 < cLine) {pins : List (Addr × Obj)} {s : Shared} {σ : L2.St} {H : Hp} {x y : V} {v u : Value} {g : Wld} {S : S3} {d e : D} {b : Bool} (I : Inv X pins σ H s) (rx : RelV x v) (ry : RelV y u) (sm : Sim ca g S H) (rd : Rep ca g x d) (re : Rep ca g y e) (h : inB S d e = some b) :
    (∀ Q : VK, Q (.bl b) H → wpAny (model X.prog X.w) X.A (compareOp .In v u) (EP X pins σ Q) X.xe s) ∧ (∀ Q : VK, Q (.bl (!b)) H → wpAny (model X.prog X.w) X.A (compareOp .NotIn v u) (EP X pins σ Q) X.xe s) := by
  unfold inB at h
  split at h
  · rename_i ks hk
    obtain ⟨k, ek, hb⟩ := Option.map_eq_some_iff.mp h
    subst hb
    obtain ⟨a, kvs, rfl, ha, rk⟩ := sm.dic re hk
    cases ry
    have ex := keyOf_rep rd ek
    have gd : DGet H a x (valV kvs k) := .inl ⟨kvs, k, ha, ex, rfl⟩
    have e2 := rk.val k
    exact ⟨fun Q hq => d_in hu I gd rx fun s' I' => fin_b I' (by rw [e2]; exact hq), fun Q hq => d_notIn hu I gd rx fun s' I' => fin_b I' (by rw [e2]; exact hq)⟩
  · split at h
    · rename_i ds w es ew
      obtain ⟨rfl, fw⟩ := flatD_rep rd ew
      obtain ⟨a, vs, rfl, ha, ra⟩ := sm.sq hK re es
      obtain ⟨h1, h2⟩ := memD_rep fw ra h
      exact ⟨fun Q hq => op_in_seq pins s σ H _ _ v u Q I rx ry ⟨a, vs, rfl, ha, fw, h1, by rw [if_neg Bool.false_ne_true, h2]; exact hq⟩, fun Q hq => op_notIn_seq pins s σ H _ _ v u Q I rx ry ⟨a, vs, rfl, ha, fw, h1, by rw [if_pos rfl, h2]; exact hq⟩⟩
    · split at h
      · cases h
        cases rd
        cases re
        exact ⟨fun Q hq => op_in_str pins s σ H _ _ v u Q I rx ry ⟨_, _, rfl, rfl, hq⟩, fun Q hq => op_notIn_str pins s σ H _ _ v u Q I rx ry ⟨_, _, rfl, rfl, by rw [Bool.not_not] at *; exact hq⟩⟩
      · cases h
theorem op_inO (hK : X.K = ca.K) (hu : X.A.units + 1 < cLine) : OpR X (compareOp .In) (rdO2 ca inO) := by
  intro pins s σ H x y v u Q I rx ry ⟨g, S, d, e, sm, rd, re, h⟩
  unfold inO at h
  cases q : inB S d e with
  | none => rw [q] at h; exact h.elim
  | some b =>
    rw [q] at h
    exact (inB_ok hK hu I rx ry sm rd re q).1 Q (h.now sm _ (.bl _))
theorem op_notInO (hK : X.K = ca.K) (hu : X.A.units + 1 < cLine) : OpR X (compareOp .NotIn) (rdO2 ca notInO) := by
  intro pins s σ H x y v u Q I rx ry ⟨g, S, d, e, sm, rd, re, h⟩
  unfold notInO at h
  cases q : inB S d e with
  | none => rw [q] at h; exact h.elim
  | some b =>
    rw [q] at h
    exact (inB_ok hK hu I rx ry sm rd re q).2 Q (h.now sm _ (.bl _))
end
end M3
/-! M3G: calls of built-ins, subscripts, slices. -/
namespace M3
open PySem L2
variable {ca : CAK}
section
variable {X : Cx}
theorem RepL.one {g : Wld} {vs : List V} {d : D} (r : RepL ca g vs [d]) : ∃ v, vs = [v] ∧ Rep ca g v d := by
  cases r with
  | cons r t => cases t; exact ⟨_, rfl, r⟩
theorem RepL.two {g : Wld} {vs : List V} {d e : D} (r : RepL ca g vs [d, e]) : ∃ v w, vs = [v, w] ∧ Rep ca g v d ∧ Rep ca g w e := by
  cases r with
  | cons r t => cases t with
    | cons q t => cases t; exact ⟨_, _, rfl, r, q⟩
/-! ### len -/
def lenB (S : S3) (d : D) : Option Nat := match d with
  | .str x => if x.length ≤ lim then some x.length else none
  | d => match dicOf S d with
    | some ks => some ks.length
    | none => (seqOf S d).map List.length
def lenF : OL := fun ds S => match ds with
  | [d] => (lenB S d).map fun n => (.int n, S)
  | _ => none
theorem call_lenF (hK : X.K = ca.K) : CallR X (.builtin "len") (rdOL ca lenF) := by
  intro pins s σ H xs us Q I r ⟨g, S, ds, sm, rl, h⟩
  unfold lenF at h
  split at h
  · rename_i d
    obtain ⟨v, rfl, rd⟩ := rl.one
    cases q : lenB S d with
    | none => rw [q] at h; exact h.elim
    | some n =>
      rw [q] at h
      have fin : Q (.int n) H := h.now sm _ (.int _)
      unfold lenB at q
      split at q
      · cases rd
        split at q
        · rename_i hz
          cases q
          exact call_len_str pins s σ H _ us Q I r ⟨_, rfl, Nat.le_trans hz lim_le, fin⟩
        · cases q
      · split at q
        · rename_i ks hk
          cases q
          obtain ⟨a, kvs, rfl, ha, rk⟩ := sm.dic rd hk
          obtain ⟨u, eu, ru⟩ := L2.Vals.one r
          subst eu
          cases ru
          exact d_len I ha fun t s' I' => ⟨.int ks.length, H, I', ⟨t, by rw [rk.len]⟩, fin⟩
        · obtain ⟨ys, hy, e⟩ := Option.map_eq_some_iff.mp q
          subst e
          obtain ⟨a, vs, rfl, ha, ra⟩ := sm.sq hK rd hy
          exact call_len_seq pins s σ H _ us Q I r ⟨a, vs, rfl, ha, by rw [ra.len]; exact fin⟩
  · exact h.elim
/-! ### list(..), dict(..) -/
def keyD : Key → D
  | .inl i => .int i
  | .inr s => .str s
theorem Rep.key {g : Wld} (k : Key) : Rep ca g (kV k) (keyD k) := by cases k <;> first | exact .int _ | exact .str _
theorem RepK.keysL {g : Wld} : ∀ {vs : List (Key × V)} {ds : List (Key × D)}, RepK ca g vs ds → RepL ca g (vs.map fun kv => kV kv.1) (ds.map fun kd => keyD kd.1)
  | _, _, .nil => .nil
  | _, _, .cons (k := k) _ t => .cons (Rep.key k) (RepK.keysL t)
theorem RepK.valsL {g : Wld} : ∀ {vs : List (Key × V)} {ds : List (Key × D)}, RepK ca g vs ds → RepL ca g (vs.map fun kv => kv.2) (ds.map fun kd => kd.2)
  | _, _, .nil => .nil
  | _, _, .cons r t => .cons r (RepK.valsL t)
/-- what is walked: a list, a tuple, a dict's keys -/
def itemsOf (S : S3) (d : D) : Option (List D) := match dicOf S d with
  | some ks => some (ks.map fun kd => keyD kd.1)
  | none => seqOf S d
def listF : OL := fun ds S => match ds with
  | [d] => (itemsOf S d).map fun xs => (.lst xs, S)
  | _ => none
def listC : OL := fun ds S => match ds with
  | [d] => (itemsOf S d).map fun xs => (.cell S.nx, S.new (.lst xs))
  | _ => none
theorem newLstC {g : Wld} {S : S3} {H : Hp} {ds : List D} {vs : List V} {Q : VK} (s : Sim ca g S H) (r : RepL ca g vs ds) (h : FinO ca g H (some (.cell S.nx, S.new (.lst ds))) (fun r g' H' => ∀ z, Rep ca g' z r → Q z H')) :
    ∀ p, H p = none → Q (.ref p) (upd H p (.lst vs)) := fun p hp => h (g.cell p) _ (s.extCell hp) (s.cell hp (.lst (r.mono (Sim.leCell g p)))) _ (.cell (by rw [← s.len]; exact get_snoc _ _))
theorem newDic {g : Wld} {S : S3} {H : Hp} {ds : List (Key × D)} {vs : List (Key × V)} {Q : VK} (s : Sim ca g S H) (r : RepK ca g vs ds) (h : FinO ca g H (some (.dic ds, S)) (fun r g' H' => ∀ z, Rep ca g' z r → Q z H')) :
    ∀ p, H p = none → Q (.ref p) (upd H p (.dK vs)) := fun p hp => h (g.tree p (.dK vs)) _ (s.extTree hp) (s.tree hp True.intro) _ (.dic upd_same (r.mono (s.leTree hp)))
theorem newDicC {g : Wld} {S : S3} {H : Hp} {ds : List (Key × D)} {vs : List (Key × V)} {Q : VK} (s : Sim ca g S H) (r : RepK ca g vs ds) (h : FinO ca g H (some (.cell S.nx, S.new (.dic ds))) (fun r g' H' => ∀ z, Rep ca g' z r → Q z H')) :
    ∀ p, H p = none → Q (.ref p) (upd H p (.dK vs)) := fun p hp => h (g.cell p) _ (s.extCell hp) (s.cell hp (.dic (r.mono (Sim.leCell g p)))) _ (.cell (by rw [← s.len]; exact get_snoc _ _))
/-- list(d) of a dict that may be locked -/
theorem call_list_dR (hc : X.calm = true) : CallR X (.type "list") (fun xs H Q => ∃ p kvs, xs = [.ref p] ∧ Rd H p (.dK kvs) ∧ ∀ q, H q = none → Q (.ref q) (upd H q (.lst (kvs.map fun kv => kV kv.1)))) := by
  intro pins s σ H xs us Q I r ⟨p, kvs, e, hk, q⟩
  subst e
  obtain ⟨u, eu, rx⟩ := L2.Vals.one r
  subst eu
  cases rx
  obtain ⟨z, lo, vs, rk, hd⟩ := dk_rd I.hok hk
  obtain ⟨ep, hat⟩ := hd.dictAt
  have lv : kvs.length = vs.length := KV.length rk
  refine PySem.W.kdl_call (PySem.W.kdl_dict (knd := mixKind X.prog X.w) (kvs := vs) (ep := ep) lo) (I.ok.hd hc) hat (by rw [← lv]; exact z) fun h' tk acc c keep hS hacc => ?_
  have hn := I.hok.fresh (Nat.le_refl _)
  refine ⟨.ref _, upd H _ (.lst (kvs.map fun kv => kV kv.1)), I.laid keep (Nat.le_refl _) ⟨by rw [List.length_map]; exact z, acc.toList, c, ?_, by rw [Array.toArray_toList]; exact hS⟩, rfl, q _ hn⟩
  have el : acc.toList.length = acc.size := by simp
  refine vals_of_at (by rw [List.length_map, el, hacc.1, lv]) fun j x w h1 h2 => ?_
  obtain ⟨k, y, ky, hi⟩ := hacc.2 j w (by rw [← Array.getElem?_toList]; exact h2)
  have e1 : (kvs.map (·.1))[j]? = some k := by rw [KV.keys rk, List.getElem?_map, ky]; rfl
  rw [List.getElem?_map] at e1 h1
  cases e3 : kvs[j]? with
  | none => rw [e3] at e1; cases e1
  | some p =>
    rw [e3] at e1 h1
    cases e1
    cases h1
    exact keyIs_rel hi
theorem call_listAny (hK : X.K = ca.K) (hc : X.calm = true) {pins : List (Addr × Obj)} {s : Shared} {σ : L2.St} {H : Hp} {v : V} {us : List Value} {Q : VK} {g : Wld} {S : S3} {d : D} {xs : List D} (I : Inv X pins σ H s) (r : L2.Vals [v] us) (sm : Sim ca g S H) (rd : Rep ca g v d) (h : itemsOf S d = some xs)
    (q : ∀ vs, RepL ca g vs xs → ∀ p, H p = none → Q (.ref p) (upd H p (.lst vs))) : wpAny (model X.prog X.w) X.A (call (.type "list") us) (EP X pins σ Q) X.xe s := by
  unfold itemsOf at h
  split at h
  · rename_i ks hk
    cases h
    obtain ⟨a, kvs, rfl, ha, rk⟩ := sm.dic rd hk
    exact call_list_dR hc pins s σ H _ us Q I r ⟨a, kvs, rfl, ha, q _ rk.keysL⟩
  · obtain ⟨a, vs, rfl, ha, ra⟩ := sm.sq hK rd h
    exact call_list_of pins s σ H _ us Q I r ⟨a, vs, rfl, ha, q _ ra⟩
theorem call_listF (hK : X.K = ca.K) (hc : X.calm = true) : CallR X (.type "list") (rdOL ca listF) := by
  intro pins s σ H xs us Q I r ⟨g, S, ds, sm, rl, h⟩
  unfold listF at h
  split at h
  · obtain ⟨v, rfl, rd⟩ := rl.one
    rename_i d
    cases q : itemsOf S d with
    | none => rw [q] at h; exact h.elim
    | some ys => rw [q] at h; exact call_listAny hK hc I r sm rd q fun vs rv => newLst sm rv h
  · exact h.elim
theorem call_listC (hK : X.K = ca.K) (hc : X.calm = true) : CallR X (.type "list") (rdOL ca listC) := by
  intro pins s σ H xs us Q I r ⟨g, S, ds, sm, rl, h⟩
  unfold listC at h
  split at h
  · obtain ⟨v, rfl, rd⟩ := rl.one
    rename_i d
    cases q : itemsOf S d with
    | none => rw [q] at h; exact h.elim
    | some ys => rw [q] at h; exact call_listAny hK hc I r sm rd q fun vs rv => newLstC sm rv h
  · exact h.elim
/-- the pairs of a list -/
def pairsOf (S : S3) : List D → Option (List (Key × D))
  | [] => some []
  | .tup [k, v] :: r => match keyOf k, pairsOf S r with
    | some k, some t => some ((k, v) :: t)
    | _, _ => none
  | _ :: _ => none
def mergeA (l : List (Key × D)) : List (Key × D) → List (Key × D)
  | [] => l
  | (k, v) :: r => mergeA (putA l k v) r
def dictB (S : S3) (d : D) : Option (List (Key × D)) := match dicOf S d with
  | some ks => some ks
  | none => match lstOf S d with
    | some xs => (pairsOf S xs).bind fun ps => if xs.length ≤ lim then some (mergeA [] ps) else none
    | none => none
def dictF : OL := fun ds S => match ds with
  | [d] => (dictB S d).map fun ks => (.dic ks, S)
  | _ => none
def dictC : OL := fun ds S => match ds with
  | [d] => (dictB S d).map fun ks => (.cell S.nx, S.new (.dic ks))
  | _ => none
theorem pairsOf_rep {g : Wld} {S : S3} {H : Hp} (sm : Sim ca g S H) {K : PySem.W.Frag} : ∀ {ds : List D} {vs : List V} {ps : List (Key × D)}, RepL ca g vs ds → pairsOf S ds = some ps →
    ∃ (as : List Addr) (kvs : List (Key × V)), vs = as.map V.ref ∧ Paired (fun p kv => SqT K H p [kV kv.1, kv.2]) as kvs ∧ RepK ca g kvs ps
  | [], _, ps, .nil, h => by
    unfold pairsOf at h
    cases h
    exact ⟨[], [], rfl, .nil, .nil⟩
  | d :: ds, _, ps, .cons r t, h => by
    unfold pairsOf at h
    split at h
    · rename_i e; cases e
    · rename_i e
      cases e
      split at h
      · rename_i k0 ps0 e1 e2
        cases h
        obtain ⟨as, kvs, h1, h2, h3⟩ := pairsOf_rep sm t e2
        obtain ⟨a, ws, rfl, ha, rw'⟩ := sm.tup r
        obtain ⟨x, y, rfl, rx, ry⟩ := rw'.two
        have ek := keyOf_rep rx e1
        subst ek
        exact ⟨a :: as, (_, y) :: kvs, by rw [h1]; rfl, .cons (SqT.of ha) h2, .cons ry h3⟩
      · cases h
    · cases h
theorem RepK.merge {g : Wld} : ∀ {ps : List (Key × D)} {kvs : List (Key × V)} {l : List (Key × D)} {m : List (Key × V)}, RepK ca g kvs ps → RepK ca g m l → (m.map (·.1)).Nodup → RepK ca g (mergeK m kvs) (mergeA l ps)
  | _, _, _, _, .nil, h, _ => h
  | _, _, l, m, .cons (k := k) (v := v) (d := d) (vs := vs) (ds := ds) r t, h, nd => by
    have nd' : ((putK m k v).map (·.1)).Nodup := by
      cases e : valV m k with
      | none => exact nd_putK _ nd e
      | some w =>
        unfold putK
        rw [valV_any, e, if_pos (show (some w).isSome = true from rfl), List.map_map]
        have : (fun x : Key × V => x.1) ∘ (fun kv : Key × V => if kv.1 = k then (kv.1, v) else kv) = fun x => x.1 := by
          funext p
          show (if p.1 = k then (p.1, v) else p).1 = p.1
          split <;> rfl
        rw [this]
        exact nd
    have z := RepK.merge t (h.put r k nd) nd'
    exact z
theorem call_dictAny (hc : X.calm = true) {pins : List (Addr × Obj)} {s : Shared} {σ : L2.St} {H : Hp} {v : V} {us : List Value} {Q : VK} {g : Wld} {S : S3} {d : D} {ks : List (Key × D)} (I : Inv X pins σ H s) (r : L2.Vals [v] us) (sm : Sim ca g S H) (rd : Rep ca g v d) (h : dictB S d = some ks)
    (q : ∀ vs, RepK ca g vs ks → ∀ p, H p = none → Q (.ref p) (upd H p (.dK vs))) : wpAny (model X.prog X.w) X.A (call (.type "dict") us) (EP X pins σ Q) X.xe s := by
  unfold dictB at h
  split at h
  · rename_i ks' hk
    cases h
    obtain ⟨a, kvs, rfl, ha, rk⟩ := sm.dic rd hk
    obtain ⟨u, eu, ru⟩ := L2.Vals.one r
    subst eu
    cases ru
    exact d_copyOf I ha fun p s' hp I' => ⟨.ref p, _, I', rfl, q _ rk p hp⟩
  · split at h
    · rename_i ys hy
      obtain ⟨ps, e1, e2⟩ := Option.bind_eq_some_iff.mp h
      split at e2
      · rename_i hz
        cases e2
        obtain ⟨a, vs, rfl, ha, ra⟩ := sm.lst rd hy
        obtain ⟨as, kvs, rfl, h2, h3⟩ := pairsOf_rep sm (K := X.K) ra e1
        exact call_dictP hc pins s σ H _ us Q I r ⟨a, as, kvs, rfl, .inl ha, h2, q _ (h3.merge .nil .nil)⟩
      · cases e2
    · cases h
theorem call_dictF (hc : X.calm = true) : CallR X (.type "dict") (rdOL ca dictF) := by
  intro pins s σ H xs us Q I r ⟨g, S, ds, sm, rl, h⟩
  unfold dictF at h
  split at h
  · obtain ⟨v, rfl, rd⟩ := rl.one
    rename_i d
    cases q : dictB S d with
    | none => rw [q] at h; exact h.elim
    | some ys => rw [q] at h; exact call_dictAny hc I r sm rd q fun vs rv => newDic sm rv h
  · exact h.elim
theorem call_dictC (hc : X.calm = true) : CallR X (.type "dict") (rdOL ca dictC) := by
  intro pins s σ H xs us Q I r ⟨g, S, ds, sm, rl, h⟩
  unfold dictC at h
  split at h
  · obtain ⟨v, rfl, rd⟩ := rl.one
    rename_i d
    cases q : dictB S d with
    | none => rw [q] at h; exact h.elim
    | some ys => rw [q] at h; exact call_dictAny hc I r sm rd q fun vs rv => newDicC sm rv h
  · exact h.elim
/-! ### all, any, max, min, abs -/
def boolsOf : List D → Option (List Bool)
  | [] => some []
  | .bl b :: r => (boolsOf r).map (b :: ·)
  | _ :: _ => none
theorem boolsOf_rep {g : Wld} : ∀ {ds : List D} {vs : List V} {bs : List Bool}, RepL ca g vs ds → boolsOf ds = some bs → vs = bs.map V.bl
  | [], _, bs, .nil, h => by unfold boolsOf at h; cases h; rfl
  | d :: ds, _, bs, .cons r t, h => by
    unfold boolsOf at h
    split at h
    · rename_i e; cases e
    · rename_i e
      cases e
      obtain ⟨cs, hc, e⟩ := Option.map_eq_some_iff.mp h
      subst e
      cases r
      rw [boolsOf_rep t hc]
      rfl
    · cases h
def allF : OL := fun ds S => match ds with
  | [d] => match lstOf S d with
    | some xs => (boolsOf xs).map fun bs => (.bl (bs.all id), S)
    | none => none
  | _ => none
def anyF : OL := fun ds S => match ds with
  | [d] => match lstOf S d with
    | some xs => (boolsOf xs).map fun bs => (.bl (bs.any id), S)
    | none => none
  | _ => none
theorem call_allF (hc : X.calm = true) : CallR X (.builtin "all") (rdOL ca allF) := by
  intro pins s σ H xs us Q I r ⟨g, S, ds, sm, rl, h⟩
  unfold allF at h
  split at h
  · obtain ⟨v, rfl, rd⟩ := rl.one
    split at h
    · rename_i ys hy
      cases q : boolsOf ys with
      | none => rw [q] at h; exact h.elim
      | some bs =>
        rw [q] at h
        obtain ⟨a, vs, rfl, ha, ra⟩ := sm.lst rd hy
        exact cr_all hc pins s σ H _ us Q I r ⟨a, bs, rfl, .inl (boolsOf_rep ra q ▸ ha), h.now sm _ (.bl _)⟩
    · exact h.elim
  · exact h.elim
theorem call_anyF (hc : X.calm = true) : CallR X (.builtin "any") (rdOL ca anyF) := by
  intro pins s σ H xs us Q I r ⟨g, S, ds, sm, rl, h⟩
  unfold anyF at h
  split at h
  · obtain ⟨v, rfl, rd⟩ := rl.one
    split at h
    · rename_i ys hy
      cases q : boolsOf ys with
      | none => rw [q] at h; exact h.elim
      | some bs =>
        rw [q] at h
        obtain ⟨a, vs, rfl, ha, ra⟩ := sm.lst rd hy
        exact cr_any hc pins s σ H _ us Q I r ⟨a, bs, rfl, .inl (boolsOf_rep ra q ▸ ha), h.now sm _ (.bl _)⟩
    · exact h.elim
  · exact h.elim
def max2F : OL := fun ds S => match ds with
  | [.int i, .int j] => some (.int (if j > i then j else i), S)
  | _ => none
def min2F : OL := fun ds S => match ds with
  | [.int i, .int j] => some (.int (if j < i then j else i), S)
  | _ => none
theorem call_max2F (hc : X.calm = true) : CallR X (.builtin "max") (rdOL ca max2F) := by
  intro pins s σ H xs us Q I r ⟨g, S, ds, sm, rl, h⟩
  unfold max2F at h
  split at h
  · obtain ⟨v, w, rfl, rv, rw'⟩ := rl.two
    cases rv; cases rw'
    exact call_max2 hc pins s σ H _ us Q I r ⟨_, _, rfl, h.now sm _ (.int _)⟩
  · exact h.elim
theorem call_min2F (hc : X.calm = true) : CallR X (.builtin "min") (rdOL ca min2F) := by
  intro pins s σ H xs us Q I r ⟨g, S, ds, sm, rl, h⟩
  unfold min2F at h
  split at h
  · obtain ⟨v, w, rfl, rv, rw'⟩ := rl.two
    cases rv; cases rw'
    exact call_min2 hc pins s σ H _ us Q I r ⟨_, _, rfl, h.now sm _ (.int _)⟩
  · exact h.elim
def absF : OL := fun ds S => match ds with
  | [.int i] => some (.int (if i < 0 then -i else i), S)
  | _ => none
/-! ### isinstance of a built-in class -/
def tyN (S : S3) (d : D) : Option String := match d with
  | .non => some "NoneType"
  | .bl _ => some "bool"
  | .int _ => some "int"
  | .sym _ => some "int"
  | .str _ => some "str"
  | .tup _ => some "tuple"
  | d => match obOf S d with
    | some (.lst _) => some "list"
    | some (.dic _) => some "dict"
    | _ => none
theorem tyN_rep {g : Wld} {S : S3} {H : Hp} (sm : Sim ca g S H) {K : PySem.W.Frag} {v : V} {d : D} {n : String} (r : Rep ca g v d) (h : tyN S d = some n) : TyX K H v (.type n) := by
  unfold tyN at h
  split at h
  · cases h; cases r; exact .base .non
  · cases h; cases r; exact .base (.bl _)
  · cases h; cases r; exact .base (.int _)
  · cases h; cases r; exact .base (.int _)
  · cases h; cases r; exact .base (.str _)
  · cases h
    obtain ⟨a, vs, rfl, ha, _⟩ := sm.tup r
    exact .base (.tup ha)
  · split at h
    · rename_i xs e
      cases h
      obtain ⟨a, vs, rfl, ha, _⟩ := sm.lst r (by unfold lstOf; rw [e])
      rcases ha with ha | ⟨o, ha⟩
      · exact .base (.lst ha)
      · exact .base (.frz ha)
    · rename_i ks e
      cases h
      obtain ⟨a, vs, rfl, ha, _⟩ := sm.dic r (by unfold dicOf; rw [e])
      rcases ha with ha | ⟨o, ha⟩
      · exact .base (.dK ha)
      · exact .fDict ha
    · cases h
def isiF (T : String) : O1 := fun d S => match tyN S d with
  | some n => (kitB n T).map fun b => (.bl b, S)
  | none => none
/-- isinstance(e, T) -/
theorem sd_isi {W : WX} {e : Expr} {m : CE} {T : String} {x : Str} {p p2 pos : Pos} (he : SD ca X W e m) (hg : Gl X "isinstance") (hm : X.mg "isinstance" = none) (hx : Gl X x) (hxm : X.mg x = none) (hv : bootBuiltins x = some (.type T)) (hn : x ≠ "__name__" := by decide) (hdb : (x == ("__debug__" : Str)) = false := by decide)
    (hi : bootBuiltins "isinstance" = some (.builtin "isinstance") := by decide +kernel) (s1 : starEach [e, .Name x p2] X.env = (false, eval e X.env) :: starEach [.Name x p2] X.env := by rfl) (s2 : starEach [.Name x p2] X.env = (false, eval (.Name x p2) X.env) :: starEach [] X.env := by rfl)
    (hpl : (backTo pos (starEach [.Name x p2] X.env)).any (·.1) = false := by rfl) (hw : ∀ whole, isTrue (.Call (.Name "isinstance" p) [e, .Name x p2] [] pos) X.env whole = (do let v ← whole; standAt (Expr.Call (.Name "isinstance" p) [e, .Name x p2] [] pos).pos; holding [v] (truthy v)) := by intro _; rfl) :
    SD ca X W (.Call (.Name "isinstance" p) [e, .Name x p2] [] pos) (b1 m (isiF T)) := by
  refine .of (PE_imp (pe_callB call_isi hg hm hi (pa_cons he.pe (pa_cons (pe_bltn (v := .ty T) hx hxm hv rfl hn hdb) pa_nil s2) s1) (by decide) (by decide) s1 hpl) fun σ H Q h => ?_) hw
  obtain ⟨v, S, g, s, e', h⟩ := h
  refine ⟨v, S, g, s, e', (Fin.seq h).imp (fun d g1 H1 x1 ⟨S1, s1, h1⟩ xv rv => ?_) fun _ _ _ _ z => z⟩
  have h2 := FinO.of h1
  unfold isiF at h2
  split at h2
  · rename_i n hn
    cases q : kitB n T with
    | none => rw [q] at h2; exact h2.elim
    | some b =>
      rw [q] at h2
      exact ⟨xv, .ty T, .type n, .type T, b, rfl, .ty T, tyN_rep s1 rv hn, kit_ty q, h2.now s1 _ (.bl _)⟩
  · exact h2.elim
end
end M3
/-! M3H: subscripts, slices, fields, methods of lists and dicts, displays. -/
namespace M3
open PySem L2
variable {ca : CAK}
section
variable {X : Cx} {W : WX} {e a b c : Expr} {m ma mb mc : CE} {pos : Pos}
/-! ### a[b] -/
def idxB (S : S3) (x i : D) : Option D := match dicOf S x with
  | some ks => (keyOf i).bind fun k => getA ks k
  | none => match seqOf S x, i with
    | some xs, .int j => atI xs j
    | _, _ => match x, i with
      | .str z, .int j => if z.length ≤ lim then (atI z.cps.toList j).map fun c => .str ⟨#[c]⟩ else none
      | _, _ => none
def idxO : O2 := fun x i S => (idxB S x i).map fun d => (d, S)
theorem atI_rep {g : Wld} {vs : List V} {ds : List D} {j : Int} {d : D} (r : RepL ca g vs ds) (h : atI ds j = some d) : ∃ v, atI vs j = some v ∧ Rep ca g v d := by
  unfold atI at h ⊢
  rw [r.len]
  obtain ⟨k, hk, hd⟩ := Option.bind_eq_some_iff.mp h
  obtain ⟨v, hv, rv⟩ := r.get hd
  exact ⟨v, by rw [hk]; exact hv, rv⟩
theorem ix_dictR (hu : X.A.units + 1 < cLine) : IxR X (fun x y H Q => ∃ a v, x = .ref a ∧ DGet H a y (some v) ∧ Q v H) := by
  intro value slice pins s σ H x y v u Q I rx ry ⟨a, w, ex, gd, q⟩ hs
  subst ex
  cases rx
  exact PyProof.Rows.tail_any (dict_typeIs I gd) PySem.F.slot_dict_getitem.lookup (d_getItem hu I gd ry fun w' s' I' r => ⟨w, H, I', r, q⟩) hs
theorem ix_idxO (hK : X.K = ca.K) (hu : X.A.units + 1 < cLine) : IxR X (rdO2 ca idxO) := by
  intro value slice pins s σ H x y v u Q I rx ry ⟨g, S, d, i, sm, rd, ri, h⟩ hs
  unfold idxO at h
  cases q : idxB S d i with
  | none => rw [q] at h; exact h.elim
  | some r =>
    rw [q] at h
    unfold idxB at q
    split at q
    · rename_i ks hk
      obtain ⟨k, ek, eg⟩ := Option.bind_eq_some_iff.mp q
      obtain ⟨a, kvs, rfl, ha, rk⟩ := sm.dic rd hk
      obtain ⟨w, ew, rw'⟩ := rk.get eg
      exact ix_dictR hu value slice pins s σ H _ _ v u Q I rx ry ⟨a, w, rfl, .inl ⟨kvs, k, ha, keyOf_rep ri ek, ew.symm⟩, h.now sm _ rw'⟩ hs
    · split at q
      · rename_i xs j hx
        obtain ⟨a, vs, rfl, ha, ra⟩ := sm.sq hK rd hx
        obtain ⟨w, ew, rw'⟩ := atI_rep ra q
        cases ri
        exact ix_seq value slice pins s σ H _ _ v u Q I rx ry (ha.elim (fun z => .inl ⟨a, vs, _, w, rfl, rfl, z, ew, h.now sm _ rw'⟩) fun z => .inr (.inl ⟨a, vs, _, w, rfl, rfl, z, ew, h.now sm _ rw'⟩)) hs
      · split at q
        · split at q
          · rename_i hz
            obtain ⟨c, hc, e⟩ := Option.map_eq_some_iff.mp q
            subst e
            cases rd
            cases ri
            exact ix_str value slice pins s σ H _ _ v u Q I rx ry ⟨_, _, c, rfl, rfl, Nat.le_trans hz lim_le, hc, h.now sm _ (.str _)⟩ hs
          · cases q
        · cases q
theorem sd_sub (hK : X.K = ca.K) (hu : X.A.units + 1 < cLine) (ha : SD ca X W a ma) (hb : SD ca X W b mb) (hs : PlainIx b := by exact fun _ _ => rfl) (hw : ∀ whole, isTrue (.Subscript a b pos) X.env whole = (do let v ← whole; standAt (Expr.Subscript a b pos).pos; holding [v] (truthy v)) := by intro _; rfl) : SD ca X W (.Subscript a b pos) (b2 ma mb idxO) :=
  .of (PE_imp (pe_ix (ix_idxO hK hu) ha.pe hb.pe hs) rd_b2) hw
/-! ### slices -/
def cutD (xs : List D) (lo hi : Option Int) : List D := (xs.drop (HT.sIx xs.length 0 lo)).take (HT.sIx xs.length xs.length hi - HT.sIx xs.length 0 lo)
theorem RepL.cut {g : Wld} {vs : List V} {ds : List D} (r : RepL ca g vs ds) (lo hi : Option Int) : RepL ca g (cutV vs lo hi) (cutD ds lo hi) := by
  unfold cutV cutD
  rw [r.len]
  exact (r.drop _).take _
def slB (x : D) (lo hi : Option Int) (S : S3) : Option (D × S3) := match x with
  | .tup xs => if HT.sIx xs.length 0 lo = 0 ∧ HT.sIx xs.length xs.length hi = xs.length then none else some (.tup (cutD xs lo hi), S)
  | .str z => if z.length ≤ lim then some (.str (cutS z lo hi), S) else none
  | .scr xs => some (.lst (cutD xs lo hi), S)
  | x => (lstOf S x).map fun xs => (.lst (cutD xs lo hi), S)
def oNo : Ev → S3 → R (Option Int) := fun _ S => .ok none S
def oSo (m : CE) : Ev → S3 → R (Option Int) := fun v S => (m v S).bind fun x S1 => match x with
  | .int i => .ok (some i) S1
  | _ => .bad
def slM (m : CE) (l h : Ev → S3 → R (Option Int)) : CE := fun v S => (m v S).bind fun x S1 => (l v S1).bind fun lo S2 => (h v S2).bind fun hi S3 => lift (slB x lo hi S3)
variable (ca)
def rdP (W : WX) (m : Ev → S3 → R (Option Int)) : TO := fun σ H Q => ∃ v S g, Sim ca g S H ∧ EnvR ca g v σ ∧
  Fin ca g H (m v S) (fun d g' H' => Q d H') (fun e g' H' => ∀ cls od, RepX ca g' H' cls od e → W cls od σ H')
variable {ca}
theorem PO_imp {X : Cx} {e : Option Expr} {t t' : TO} (h : PO X e t) (i : ∀ σ H Q, t' σ H Q → t σ H Q) : PO X e t' := ⟨fun pins s σ H Q I q => h.run pins s σ H Q I (i σ H Q q)⟩
theorem sp_no : PO X none (rdP ca W oNo) := PO_imp po_none fun σ H Q ⟨v, S, g, s, e, h⟩ => h g H (.refl _ _) s
theorem sp_so (h : SD ca X W a ma) : PO X (some a) (rdP ca W (oSo ma)) := PO_imp (po_some h.pe) <| by
  rintro σ H Q ⟨v, S, g, s, e, h⟩
  refine ⟨v, S, g, s, e, (Fin.seq h).imp (fun d g1 H1 x1 ⟨S1, s1, h1⟩ xv rv => ?_) fun _ _ _ _ z => z⟩
  split at h1
  · cases rv
    exact ⟨_, rfl, h1 g1 H1 (.refl _ _) s1⟩
  · exact h1.elim
theorem sl_slB (hK : X.K = ca.K) : SlR X (fun x lo hi H Q => ∃ g S d, Sim ca g S H ∧ Rep ca g x d ∧ FinO ca g H (slB d lo hi S) (fun r g' H' => ∀ z, Rep ca g' z r → Q z H')) := by
  intro pins s σ H x v vl vu lo hi sl Q I rx hs pl pu ⟨g, S, d, sm, rd, h⟩
  unfold slB at h
  split at h
  · split at h
    · exact h.elim
    · rename_i xs hw
      obtain ⟨a, vs, rfl, ha, ra⟩ := sm.tup rd
      exact sl_tup pins s σ H _ v vl vu lo hi sl Q I rx hs pl pu ⟨a, vs, rfl, SqT.of ha, by rw [ra.len]; exact hw, fun p hp => h (g.tree p (.tup (cutV vs lo hi))) _ (sm.extTree hp) (sm.tree hp True.intro) _ (.tup upd_same ((ra.cut lo hi).mono (sm.leTree hp)))⟩
  · split at h
    · rename_i hz
      cases rd
      exact sl_str pins s σ H _ v vl vu lo hi sl Q I rx hs pl pu ⟨_, rfl, Nat.le_trans hz lim_le, h.now sm _ (.str _)⟩
    · exact h.elim
  · cases rd with
    | scrK e r => exact sl_list pins s σ H _ v vl vu lo hi sl Q I rx hs pl pu ⟨_, _, rfl, .inr (hK ▸ e), newLst sm (r.cut lo hi) h⟩
    | scrF e r => exact sl_list pins s σ H _ v vl vu lo hi sl Q I rx hs pl pu ⟨_, _, rfl, .inl (sm.frz _ _ e), newLst sm (r.cut lo hi) h⟩
  · cases q : lstOf S d with
    | none => rw [q] at h; exact h.elim
    | some xs =>
      rw [q] at h
      obtain ⟨a, vs, rfl, ha, ra⟩ := sm.lst rd q
      exact sl_list pins s σ H _ v vl vu lo hi sl Q I rx hs pl pu ⟨a, vs, rfl, .inl ha, newLst sm (ra.cut lo hi) h⟩
theorem sd_slice {lo hi : Option Expr} {ml mh : Ev → S3 → R (Option Int)} {p2 : Pos} (hK : X.K = ca.K) (ha : SD ca X W a ma) (hl : PO X lo (rdP ca W ml)) (hh : PO X hi (rdP ca W mh)) (hw : ∀ whole, isTrue (.Subscript a (.Slice lo hi none p2) pos) X.env whole = (do let v ← whole; standAt (Expr.Subscript a (.Slice lo hi none p2) pos).pos; holding [v] (truthy v)) := by intro _; rfl) :
    SD ca X W (.Subscript a (.Slice lo hi none p2) pos) (slM ma ml mh) := .of (PE_imp (pe_slice (sl_slB (ca := ca) hK) ha.pe hl hh) <| by
  rintro σ H Q ⟨v, S, g, s, e, h⟩
  refine ⟨v, S, g, s, e, (Fin.seq h).imp (fun d g1 H1 x1 ⟨S1, s1, h1⟩ xv rv => ?_) fun _ _ _ _ z => z⟩
  refine ⟨v, S1, g1, s1, e.mono x1.le, (Fin.seq h1).imp (fun l g2 H2 x2 ⟨S2, s2, h2⟩ => ?_) fun _ _ _ _ z => z⟩
  refine ⟨v, S2, g2, s2, e.mono (x1.trans x2).le, (Fin.seq h2).imp (fun u g3 H3 x3 ⟨S3', s3, h3⟩ => ?_) fun _ _ _ _ z => z⟩
  exact ⟨g3, S3', d, s3, rv.mono (x2.trans x3).le, FinO.of h3⟩) hw
/-- xs[::-1] -/
def revF : O1 := fun d S => (lstOf S d).map fun xs => (.lst xs.reverse, S)
theorem sd_rev {k : Nat} {p1 p2 p3 : Pos} (ha : SD ca X W a ma) (hw : ∀ whole, isTrue (.Subscript a (.Slice none none (some (.UnaryOp .USub (.Constant (.int 1) k p1) p2)) p3) pos) X.env whole = (do let v ← whole; standAt (Expr.Subscript a (.Slice none none (some (.UnaryOp .USub (.Constant (.int 1) k p1) p2)) p3) pos).pos; holding [v] (truthy v)) := by intro _; rfl) :
    SD ca X W (.Subscript a (.Slice none none (some (.UnaryOp .USub (.Constant (.int 1) k p1) p2)) p3) pos) (b1 ma revF) := .of (PE_imp (pe_revL ha.pe) <| by
  rintro σ H Q ⟨v, S, g, s, e, h⟩
  refine ⟨v, S, g, s, e, (Fin.seq h).imp (fun d g1 H1 x1 ⟨S1, s1, h1⟩ xv rv => ?_) fun _ _ _ _ z => z⟩
  have h2 := FinO.of h1
  unfold revF at h2
  cases q : lstOf S1 d with
  | none => rw [q] at h2; exact h2.elim
  | some xs =>
    rw [q] at h2
    obtain ⟨a, vs, rfl, ha, ra⟩ := s1.lst rv q
    exact ⟨a, vs, rfl, .inl ha, newLst s1 ra.rev h2⟩) hw
/-! ### fields -/
def fldF (cs : List Nat) (f : Str) : O1 := fun d S => match insOf S d with
  | some (c, fs) => if cs.contains c then (getA fs f).map fun x => (x, S) else none
  | none => none
theorem sd_fld {cs : List Nat} {f : Str} (ha : SD ca X W a ma) (hC : ∀ c, cs.contains c = true → Cls X.K (ca c) ∧ NoAttr X.K (ca c) f) (hb : attributeBase a f X.env (eval a X.env) = eval a X.env := by rfl) (hw : ∀ whole, isTrue (.Attribute a f pos) X.env whole = (do let v ← whole; standAt (Expr.Attribute a f pos).pos; holding [v] (truthy v)) := by intro _; rfl) :
    SD ca X W (.Attribute a f pos) (b1 ma (fldF cs f)) := .of (PE_imp (pe_fld ha.pe hb) <| by
  rintro σ H Q ⟨v, S, g, s, e, h⟩
  refine ⟨v, S, g, s, e, (Fin.seq h).imp (fun d g1 H1 x1 ⟨S1, s1, h1⟩ xv rv => ?_) fun _ _ _ _ z => z⟩
  have h2 := FinO.of h1
  unfold fldF at h2
  split at h2
  · rename_i c fs hi
    split at h2
    · rename_i hc
      cases q : getA fs f with
      | none => rw [q] at h2; exact h2.elim
      | some x =>
        rw [q] at h2
        obtain ⟨p, dx, ws, rfl, hp, rf⟩ := s1.ins rv hi
        obtain ⟨w, ew, rw'⟩ := rf.get q
        exact ⟨p, ca c, dx, ws, w, rfl, hp, (hC c hc).1, (hC c hc).2, ew, h2.now s1 _ rw'⟩
    · exact h2.elim
  · exact h2.elim) hw
/-! ### tuples, lists, dicts written out -/
def tupM (ms : CA) : CE := fun v S => (ms v S).bind fun xs S1 => if xs.length ≤ lim then .ok (.tup xs) S1 else .bad
def lstM (ms : CA) : CE := fun v S => (ms v S).bind fun xs S1 => if xs.length ≤ lim then .ok (.lst xs) S1 else .bad
def lstMC (ms : CA) : CE := fun v S => (ms v S).bind fun xs S1 => if xs.length ≤ lim then .ok (.cell S1.nx) (S1.new (.lst xs)) else .bad
section
variable {es : List Expr} {ms : CA} {k : Nat}
theorem sd_tup (h : PA X es (rdA ca W ms)) (hw : ∀ whole, isTrue (.Tuple es k pos) X.env whole = (do let v ← whole; standAt (Expr.Tuple es k pos).pos; holding [v] (truthy v)) := by intro _; rfl) : SD ca X W (.Tuple es k pos) (tupM ms) := .of (PE_imp (pe_tup h) <| by
  rintro σ H Q ⟨v, S, g, s, e, h⟩
  refine ⟨v, S, g, s, e, (Fin.seq h).imp (fun d g1 H1 x1 ⟨S1, s1, h1⟩ xs rs => ?_) fun _ _ _ _ z => z⟩
  split at h1
  · rename_i hz
    exact ⟨by rw [rs.len]; exact Nat.le_trans hz lim_le, fun p hp => h1 (g1.tree p (.tup xs)) _ (s1.extTree hp) (s1.tree hp True.intro) _ (.tup upd_same (rs.mono (s1.leTree hp)))⟩
  · exact h1.elim) hw
theorem sd_lst (h : PA X es (rdA ca W ms)) (hw : ∀ whole, isTrue (.List es pos) X.env whole = (do let v ← whole; standAt (Expr.List es pos).pos; holding [v] (truthy v)) := by intro _; rfl) : SD ca X W (.List es pos) (lstM ms) := .of (PE_imp (pe_lst h) <| by
  rintro σ H Q ⟨v, S, g, s, e, h⟩
  refine ⟨v, S, g, s, e, (Fin.seq h).imp (fun d g1 H1 x1 ⟨S1, s1, h1⟩ xs rs => ?_) fun _ _ _ _ z => z⟩
  split at h1
  · rename_i hz
    exact ⟨by rw [rs.len]; exact Nat.le_trans hz lim_le, fun p hp => h1 (g1.tree p (.lst xs)) _ (s1.extTree hp) (s1.tree hp True.intro) _ (.lst upd_same (rs.mono (s1.leTree hp)))⟩
  · exact h1.elim) hw
theorem sd_lstC (h : PA X es (rdA ca W ms)) (hw : ∀ whole, isTrue (.List es pos) X.env whole = (do let v ← whole; standAt (Expr.List es pos).pos; holding [v] (truthy v)) := by intro _; rfl) : SD ca X W (.List es pos) (lstMC ms) := .of (PE_imp (pe_lst h) <| by
  rintro σ H Q ⟨v, S, g, s, e, h⟩
  refine ⟨v, S, g, s, e, (Fin.seq h).imp (fun d g1 H1 x1 ⟨S1, s1, h1⟩ xs rs => ?_) fun _ _ _ _ z => z⟩
  split at h1
  · rename_i hz
    exact ⟨by rw [rs.len]; exact Nat.le_trans hz lim_le, fun p hp => h1 (g1.cell p) _ (s1.extCell hp) (s1.cell hp (.lst (rs.mono (Sim.leCell g1 p)))) _ (.cell (by rw [← s1.len]; exact get_snoc _ _))⟩
  · exact h1.elim) hw
end
def dicM : CE := fun _ S => .ok (.dic []) S
def dicMC : CE := fun _ S => .ok (.cell S.nx) (S.new (.dic []))
theorem sd_dic (hw : ∀ whole, isTrue (.Dict [] [] pos) X.env whole = (do let v ← whole; standAt (Expr.Dict [] [] pos).pos; holding [v] (truthy v)) := by intro _; rfl) : SD ca X W (.Dict [] [] pos) dicM := .of (PE_imp pe_dnewK <| by
  rintro σ H Q ⟨v, S, g, s, e, h⟩
  exact fun p hp => h (g.tree p (.dK [])) _ (s.extTree hp) (s.tree hp True.intro) _ (.dic upd_same .nil)) hw
theorem sd_dicC (hw : ∀ whole, isTrue (.Dict [] [] pos) X.env whole = (do let v ← whole; standAt (Expr.Dict [] [] pos).pos; holding [v] (truthy v)) := by intro _; rfl) : SD ca X W (.Dict [] [] pos) dicMC := .of (PE_imp pe_dnewK <| by
  rintro σ H Q ⟨v, S, g, s, e, h⟩
  exact fun p hp => h (g.cell p) _ (s.extCell hp) (s.cell hp (.dic .nil)) _ (.cell (by rw [← s.len]; exact get_snoc _ _))) hw
/-! ### methods of dicts: get, pop -/
def cellOf : D → Option Nat
  | .cell n => some n
  | _ => none
theorem cellOf_eq {d : D} {n : Nat} (h : cellOf d = some n) : d = .cell n := by
  cases d <;> cases h <;> rfl
def get1M (ma mk : CE) : CE := fun v S => (ma v S).bind fun d S1 => match dicOf S1 d with
  | none => .bad
  | some _ => (mk v S1).bind fun k S2 => match dicOf S2 d, keyOf k with
    | some ks, some kk => .ok ((getA ks kk).getD .non) S2
    | _, _ => .bad
def get2M (ma mk mx : CE) : CE := fun v S => (ma v S).bind fun d S1 => match dicOf S1 d with
  | none => .bad
  | some _ => (mk v S1).bind fun k S2 => (mx v S2).bind fun x S3 => match dicOf S3 d, keyOf k with
    | some ks, some kk => .ok ((getA ks kk).getD x) S3
    | _, _ => .bad
def pop1M (ma mk : CE) : CE := fun v S => (ma v S).bind fun d S1 => match dicOf S1 d with
  | none => .bad
  | some _ => (mk v S1).bind fun k S2 => match cellOf d, keyOf k with
    | some n, some kk => match S2.cs n with
      | some (.dic ks) => match getA ks kk with
        | some x => if n ∈ S2.lk then .bad else .ok x (S2.set n (.dic (dropA ks kk)))
        | none => .bad
      | _ => .bad
    | _, _ => .bad
theorem RepK.getD {g : Wld} {vs : List (Key × V)} {ds : List (Key × D)} (r : RepK ca g vs ds) (k : Key) {x : V} {d : D} (rx : Rep ca g x d) : Rep ca g ((valV vs k).getD x) ((getA ds k).getD d) := by
  cases e : getA ds k with
  | none => rw [r.none e]; exact rx
  | some y =>
    obtain ⟨w, ew, rw'⟩ := r.get e
    rw [ew]
    exact rw'
section
variable {apos cpos : Pos}
theorem isD_of {H : Hp} {a : Addr} {kvs : List (Key × V)} (h : Rd H a (.dK kvs)) : IsD H a := .inl ⟨kvs, h⟩
theorem sd_get1 (hu : X.A.units + 1 < cLine) (ha : SD ca X W a ma) (hb : SD ca X W b mb) (hm : M1 X a "get" apos b cpos) (hw : ∀ whole, isTrue (.Call (.Attribute a "get" apos) [b] [] cpos) X.env whole = (do let v ← whole; standAt (Expr.Call (.Attribute a "get" apos) [b] [] cpos).pos; holding [v] (truthy v)) := by intro _; rfl) :
    SD ca X W (.Call (.Attribute a "get" apos) [b] [] cpos) (get1M ma mb) := .of (PE_imp (pe_dget1 hu ha.pe hb.pe hm) <| by
  rintro σ H Q ⟨v, S, g, s, e, h⟩
  refine ⟨v, S, g, s, e, (Fin.seq h).imp (fun d g1 H1 x1 ⟨S1, s1, h1⟩ xv rv => ?_) fun _ _ _ _ z => z⟩
  split at h1
  · exact h1.elim
  · rename_i ks0 hk0
    obtain ⟨p, kv0, rfl, hp0, _⟩ := s1.dic rv hk0
    refine ⟨p, rfl, isD_of hp0, v, S1, g1, s1, e.mono x1.le, (Fin.seq h1).imp (fun k g2 H2 x2 ⟨S2, s2, h2⟩ y ry => ?_) fun _ _ _ _ z => z⟩
    split at h2
    · rename_i ks kk hk ek
      obtain ⟨p', kvs, ep, hp, rk⟩ := s2.dic (rv.mono x2.le) hk
      cases ep
      exact ⟨valV kvs kk, .inl ⟨kvs, kk, hp, keyOf_rep ry ek, rfl⟩, h2 g2 H2 (.refl _ _) s2 _ (rk.getD kk .non)⟩
    · exact h2.elim) hw
theorem sd_get2 (hu : X.A.units + 1 < cLine) (ha : SD ca X W a ma) (hb : SD ca X W b mb) (hc : SD ca X W c mc) (hm : M2 X a "get" apos b c cpos) (hw : ∀ whole, isTrue (.Call (.Attribute a "get" apos) [b, c] [] cpos) X.env whole = (do let v ← whole; standAt (Expr.Call (.Attribute a "get" apos) [b, c] [] cpos).pos; holding [v] (truthy v)) := by intro _; rfl) :
    SD ca X W (.Call (.Attribute a "get" apos) [b, c] [] cpos) (get2M ma mb mc) := .of (PE_imp (pe_dget2 hu ha.pe hb.pe hc.pe hm) <| by
  rintro σ H Q ⟨v, S, g, s, e, h⟩
  refine ⟨v, S, g, s, e, (Fin.seq h).imp (fun d g1 H1 x1 ⟨S1, s1, h1⟩ xv rv => ?_) fun _ _ _ _ z => z⟩
  split at h1
  · exact h1.elim
  · rename_i ks0 hk0
    obtain ⟨p, kv0, rfl, hp0, _⟩ := s1.dic rv hk0
    refine ⟨p, rfl, isD_of hp0, v, S1, g1, s1, e.mono x1.le, (Fin.seq h1).imp (fun k g2 H2 x2 ⟨S2, s2, h2⟩ y ry => ?_) fun _ _ _ _ z => z⟩
    refine ⟨v, S2, g2, s2, e.mono (x1.trans x2).le, (Fin.seq h2).imp (fun k3 g3 H3 x3 ⟨S3', s3, h3⟩ y3 ry3 => ?_) fun _ _ _ _ z => z⟩
    split at h3
    · rename_i ks kk hk ek
      obtain ⟨p', kvs, ep, hp, rk⟩ := s3.dic (rv.mono (x2.trans x3).le) hk
      cases ep
      exact ⟨valV kvs kk, .inl ⟨kvs, kk, hp, keyOf_rep ry ek, rfl⟩, h3 g3 H3 (.refl _ _) s3 _ (rk.getD kk ry3)⟩
    · exact h3.elim) hw
theorem sd_pop1 (ha : SD ca X W a ma) (hb : SD ca X W b mb) (hm : M1 X a "pop" apos b cpos) (hw : ∀ whole, isTrue (.Call (.Attribute a "pop" apos) [b] [] cpos) X.env whole = (do let v ← whole; standAt (Expr.Call (.Attribute a "pop" apos) [b] [] cpos).pos; holding [v] (truthy v)) := by intro _; rfl) :
    SD ca X W (.Call (.Attribute a "pop" apos) [b] [] cpos) (pop1M ma mb) := .of (PE_imp (pe_dpop1 ha.pe hb.pe hm) <| by
  rintro σ H Q ⟨v, S, g, s, e, h⟩
  refine ⟨v, S, g, s, e, (Fin.seq h).imp (fun d g1 H1 x1 ⟨S1, s1, h1⟩ xv rv => ?_) fun _ _ _ _ z => z⟩
  split at h1
  · exact h1.elim
  · rename_i ks0 hk0
    obtain ⟨p, kv0, rfl, hp0, _⟩ := s1.dic rv hk0
    refine ⟨p, rfl, isD_of hp0, v, S1, g1, s1, e.mono x1.le, (Fin.seq h1).imp (fun k g2 H2 x2 ⟨S2, s2, h2⟩ y ry => ?_) fun _ _ _ _ z => z⟩
    split at h2
    · rename_i n kk en ek
      cases cellOf_eq en
      split at h2
      · rename_i ks hc
        split at h2
        · rename_i x hx
          split at h2
          · exact h2.elim
          · rename_i hl
            obtain ⟨p', u, ep, hph, ro, hp⟩ := s2.cellOb (rv.mono x2.le) hc hl
            cases ep
            cases ro with
            | dic rk =>
              obtain ⟨w, ew, rw'⟩ := rk.get hx
              refine ⟨_, kk, w, hp, keyOf_rep ry ek, ew, ?_⟩
              exact h2 g2 _ (Sim.extWrite (by rw [hp]; exact fun _ _ z => nomatch z) hph) (s2.write hph hc hl (.dic (rk.drop kk))) _ rw'
        · exact h2.elim
      · exact h2.elim
    · exact h2.elim) hw
/-! ### methods of lists that change them -/
def lmM (f : List D → List D → Option (D × List D)) (ma : CE) (ms : CA) : CE := fun v S => (ma v S).bind fun d S1 => match lstOf S1 d with
  | none => .bad
  | some _ => (ms v S1).bind fun xs S2 => match cellOf d with
    | some n => match S2.cs n with
      | some (.lst ys) => if n ∈ S2.lk then .bad else match f ys xs with
        | some (r, zs) => .ok r (S2.set n (.lst zs))
        | none => .bad
      | _ => .bad
    | none => .bad
/-- a method of lists by values -/
def rLm (f : List V → List V → V → List V → Prop) : V → List V → Hp → VK → Prop := fun x xs H Q => ∃ l ys r zs, x = .ref l ∧ H l = some (.lst ys) ∧ f ys xs r zs ∧ Q r (upd H l (.lst zs))
theorem rd_lm {f : List D → List D → Option (D × List D)} {fV : List V → List V → V → List V → Prop} {ms : CA}
    (hf : ∀ (g : Wld) ys xs r zs vs ws, RepL ca g vs ys → RepL ca g ws xs → f ys xs = some (r, zs) → ∃ rv zv, fV vs ws rv zv ∧ Rep ca g rv r ∧ RepL ca g zv zs) : ∀ σ H Q, rdE ca W (lmM f ma ms) σ H Q → tBM X.K "list" (rLm fV) (rdE ca W ma) (rdA ca W ms) σ H Q := by
  rintro σ H Q ⟨v, S, g, s, e, h⟩
  refine ⟨v, S, g, s, e, (Fin.seq h).imp (fun d g1 H1 x1 ⟨S1, s1, h1⟩ xv rv => ?_) fun _ _ _ _ z => z⟩
  split at h1
  · exact h1.elim
  · rename_i ys0 hy0
    obtain ⟨p, vs0, rfl, hp0, _⟩ := s1.lst rv hy0
    refine ⟨.inl ⟨rfl, vs0, .inl hp0⟩, v, S1, g1, s1, e.mono x1.le, (Fin.seq h1).imp (fun xs g2 H2 x2 ⟨S2, s2, h2⟩ ws rw' => ?_) fun _ _ _ _ z => z⟩
    split at h2
    · rename_i n en
      cases cellOf_eq en
      split at h2
      · rename_i ys hc
        split at h2
        · exact h2.elim
        rename_i hl
        split at h2
        · rename_i r zs hf2
          obtain ⟨p', u, ep, hph, ro, hp⟩ := s2.cellOb (rv.mono x2.le) hc hl
          cases ep
          cases ro with
          | lst rl =>
            obtain ⟨rV, zV, h3, h4, h5⟩ := hf g2 ys xs r zs _ ws rl rw' hf2
            exact ⟨p, _, rV, zV, rfl, hp, h3, h2 g2 _ (Sim.extWrite (by rw [hp]; exact fun _ _ z => nomatch z) hph) (s2.write hph hc hl (.lst h5)) _ h4⟩
        · exact h2.elim
      · exact h2.elim
    · exact h2.elim
def appF : List D → List D → Option (D × List D) := fun ys xs => match xs with
  | [x] => if ys.length < lim then some (.non, ys ++ [x]) else none
  | _ => none
theorem sd_append (ha : SD ca X W a ma) (hb : SD ca X W b mb) (hw : ∀ whole, isTrue (.Call (.Attribute a "append" apos) [b] [] cpos) X.env whole = (do let v ← whole; standAt (Expr.Call (.Attribute a "append" apos) [b] [] cpos).pos; holding [v] (truthy v)) := by intro _; rfl)
    (hbase : attributeBase a "append" X.env (eval a X.env) = eval a X.env := by rfl)
    (hfew : ((backTo cpos (starEach [b] X.env)).all (fun x => !x.1) && (backToKw cpos (keywordEach [] X.env)).all (fun x => x.1.isSome) && decide ([b].length + ([] : List Keyword).length + (if ([] : List Keyword).isEmpty then 0 else 1) < 30)) = true := by rfl)
    (hline : (apos.endLine == cpos.line) = true := by rfl) (hs : starEach [b] X.env = (false, eval b X.env) :: starEach [] X.env := by rfl) (hplain : (backTo cpos (starEach [] X.env)).any (·.1) = false := by rfl) :
    SD ca X W (.Call (.Attribute a "append" apos) [b] [] cpos) (lmM appF ma (aCons mb aNil)) :=
  .of (PE_imp (pe_bm (r := rLm fun vs ws r zs => ∃ y, ws = [y] ∧ vs.length < sizeLine ∧ r = .non ∧ zs = vs ++ [y]) PySem.F.plainAttrs_list PySem.F.slot_list_append PySem.F.type_list_append (fun pins s σ H x xs v us Q I rx rv ⟨l, ys, r, zs, e1, e2, ⟨y, e3, hz, e4, e5⟩, q⟩ => mt_append pins s σ H x xs v us Q I rx rv ⟨l, ys, y, e1, e3, e2, hz, by rw [← e4, ← e5]; exact q⟩) ha.pe (sda_cons hb sda_nil hs) hbase hfew hline hs hplain) (rd_lm fun g ys xs r zs vs ws r1 r2 h => by
    unfold appF at h
    split at h
    · split at h
      · rename_i hz
        cases h
        obtain ⟨y, rfl, ry⟩ := r2.one
        exact ⟨_, _, ⟨y, rfl, by rw [r1.len]; exact Nat.lt_of_lt_of_le hz lim_le, rfl, rfl⟩, .non, r1.app (.cons ry .nil)⟩
      · cases h
    · cases h)) hw
end
end
end M3
/-! M3I: targets, what is walked. -/
namespace M3
open PySem L2
variable {ca : CAK}
section
variable {X : Cx} {W : WX} {e a b c : Expr} {m ma mb mc : CE} {pos : Pos}
/-! ### targets -/
/-- a target: it raises nothing -/
abbrev GT := D → Ev → S3 → Option (Ev × S3)
abbrev GTs := List D → Ev → S3 → Option (Ev × S3)
def asgN (i : Nat) : GT := fun d v S => some (v.set i (some d), S)
def asgNil : GTs := fun ds v S => match ds with
  | [] => some (v, S)
  | _ => none
def asgCons (t : GT) (r : GTs) : GTs := fun ds v S => match ds with
  | d :: ds => match t d v S with
    | some (v', S') => r ds v' S'
    | none => none
  | [] => none
def asgT (n : Nat) (r : GTs) : GT := fun d v S => match d with
  | .tup ds => if ds.length = n then r ds v S else none
  | _ => none
/-- the slots off sl stay -/
def Off (sl : List Nat) (σ σ' : St) : Prop := σ'.length = σ.length ∧ ∀ j : Nat, j ∉ sl → σ'[j]? = σ[j]?
theorem Off.refl (sl : List Nat) (σ : St) : Off sl σ σ := ⟨rfl, fun _ _ => rfl⟩
theorem Off.mono {sl sl' : List Nat} {σ σ' : St} (h : Off sl σ σ') (i : ∀ j, j ∈ sl → j ∈ sl') : Off sl' σ σ' := ⟨h.1, fun j q => h.2 j fun z => q (i j z)⟩
theorem Off.trans {sl : List Nat} {σ σ1 σ2 : St} (h : Off sl σ σ1) (h' : Off sl σ1 σ2) : Off sl σ σ2 := ⟨h'.1.trans h.1, fun j q => (h'.2 j q).trans (h.2 j q)⟩
variable (ca)
def rdG (sl : List Nat) (f : GT) : TG := fun x σ H Q => ∃ v g S d, Sim ca g S H ∧ EnvR ca g v σ ∧ Rep ca g x d ∧ FinO ca g H (f d v S) (fun v' g' H' => ∀ σ', EnvR ca g' v' σ' → Off sl σ σ' → Q σ' H')
def rdGs (sl : List Nat) (f : GTs) : TGs := fun xs σ H Q => ∃ v g S ds, Sim ca g S H ∧ EnvR ca g v σ ∧ RepL ca g xs ds ∧ FinO ca g H (f ds v S) (fun v' g' H' => ∀ σ', EnvR ca g' v' σ' → Off sl σ σ' → Q σ' H')
variable {ca}
theorem FinO.mono {α : Type} {g g1 : Wld} {H H1 : Hp} {o : Option (α × S3)} {QO QO' : α → Wld → Hp → Prop} (h : FinO ca g H o QO) (x : Ext g H g1 H1) (i : ∀ a g' H', QO a g' H' → QO' a g' H') : FinO ca g1 H1 o QO' := by
  cases o with
  | some p => exact fun g' H' x' s => i _ _ _ (h g' H' (x.trans x') s)
  | none => exact h
theorem PG_imp {X : Cx} {e : Expr} {t t' : TG} (h : PG X e t) (i : ∀ x σ H Q, t' x σ H Q → t x σ H Q) : PG X e t' := ⟨fun pins s σ H v u Q I r q => h.run pins s σ H v u Q I r (i v σ H Q q)⟩
theorem PGs_imp {X : Cx} {e : List Expr} {t t' : TGs} (h : PGs X e t) (i : ∀ x σ H Q, t' x σ H Q → t x σ H Q) : PGs X e t' := ⟨fun pins s σ H v u Q I r q => h.run pins s σ H v u Q I r (i v σ H Q q)⟩
theorem sg_n {i : Nat} {x : Str} (hN : X.N.Nodup) (hi : X.N[i]? = some x := by rfl) (hx : Loc X.env.scope x := by first | exact Or.inl rfl | exact Or.inr rfl) (hf : X.fn x = true ∨ X.env.scope.names.lookup x = some .local := by first | exact .inl rfl | exact .inr rfl) : PG X (.Name x pos) (rdG ca [i] (asgN i)) :=
  PG_imp (pg_name hN hi hx hf) fun x σ H Q ⟨v, g, S, d, s, e, r, h⟩ =>
    h g H (.refl _ _) s _ (e.set i r) ⟨List.length_set .., fun j hj => List.getElem?_set_ne (fun z => hj (by rw [z]; exact List.mem_cons_self))⟩
theorem sgs_nil {sl : List Nat} : PGs X [] (rdGs ca sl asgNil) := PGs_imp pgs_nil fun x σ H Q ⟨v, g, S, ds, s, e, r, h⟩ => by
  cases r with
  | nil => exact ⟨rfl, h g H (.refl _ _) s _ e (.refl _ _)⟩
  | cons _ _ => exact h.elim
theorem sgs_cons {es : List Expr} {t : GT} {ts : GTs} {sl1 sl2 : List Nat} (h1 : PG X e (rdG ca sl1 t)) (h2 : PGs X es (rdGs ca sl2 ts)) (hs : (assignEach (e :: es) X.env).map (·.2) = assign e X.env :: (assignEach es X.env).map (·.2) := by rfl) : PGs X (e :: es) (rdGs ca (sl1 ++ sl2) (asgCons t ts)) :=
  PGs_imp (pgs_cons h1 h2 hs) fun x σ H Q ⟨v, g, S, ds, s, e, r, h⟩ => by
    cases r with
    | nil => exact h.elim
    | cons rd rt =>
      unfold asgCons at h
      refine ⟨_, _, rfl, v, g, S, _, s, e, rd, ?_⟩
      dsimp only at h
      split at h
      · rename_i v1 S1 h1
        rw [h1]
        intro g1 H1 x1 s1 σ1 e1 o1
        refine ⟨v1, g1, S1, _, s1, e1, rt.mono x1.le, h.mono x1 fun v2 g2 H2 q σ2 e2 o2 => q σ2 e2 ?_⟩
        exact (o1.mono fun j z => List.mem_append_left _ z).trans (o2.mono fun j z => List.mem_append_right _ z)
      · exact h.elim
theorem sg_t {es : List Expr} {k n : Nat} {ts : GTs} {sl : List Nat} (hc : X.calm = true) (h : PGs X es (rdGs ca sl ts)) (hn : (assignEach es X.env).length = n := by rfl) (hst : (assignEach es X.env).findIdx? (·.1) = none := by rfl) : PG X (.Tuple es k pos) (rdG ca sl (asgT n ts)) :=
  PG_imp (pg_tup hc h hn hst) fun x σ H Q ⟨v, g, S, d, s, e, r, h⟩ => by
    cases d with
    | tup ds =>
      unfold asgT at h
      dsimp only at h
      split at h
      · rename_i hl
        obtain ⟨a, vs, rfl, ha, ra⟩ := s.tup r
        exact ⟨a, vs, rfl, SqT.of ha, by rw [ra.len]; exact hl, v, g, S, ds, s, e, ra, h⟩
      · exact h.elim
    | _ => exact h.elim
/-- o[i] = ..: a dict's cell, a list's cell -/
def putM (o i d : D) (S : S3) : Option S3 := match cellOf o with
  | some n => match S.cs n with
    | some (.dic ks) => match keyOf i with
      | some k => if n ∈ S.lk then none else if ks.length < lim then some (S.set n (.dic (putA ks k d))) else none
      | none => none
    | some (.lst xs) => if n ∈ S.lk then none else match i with
      | .int j => match ixN xs.length j with
        | some m => some (S.set n (.lst (xs.set m d)))
        | none => none
      | _ => none
    | _ => none
  | none => none
def asgSub (mo mi : CE) : GT := fun d v S => match mo v S with
  | .ok o S1 => match mi v S1 with
    | .ok i S2 => (putM o i d S2).map fun S3 => (v, S3)
    | _ => none
  | _ => none
def rSet2 : V → V → V → Hp → (Hp → Prop) → Prop := fun o i v H Q => rSetL o i v H Q ∨ ∃ a H', o = .ref a ∧ DPut H a i v H' ∧ Q H'
theorem set2 (hu : X.A.units + 1 < cLine) : PSet X rSet2 := by
  intro pins s σ H o i v ov iv u Q I ro ri rv h
  rcases h with h | ⟨a, H', rfl, g, q⟩
  · exact set_list pins s σ H o i v ov iv u Q I ro ri rv h
  · obtain rfl : ov = Value.ref a := ro
    exact d_setItem hu I g ri rv fun s4 I4 => ⟨H', I4, q⟩
theorem putM_ok {g : Wld} {S S' : S3} {H : Hp} {o i d : D} {ov iv v : V} {Q : Hp → Prop} (s : Sim ca g S H) (ro : Rep ca g ov o) (ri : Rep ca g iv i) (rv : Rep ca g v d) (ndK : ∀ a kvs, H a = some (.dK kvs) → (kvs.map (·.1)).Nodup) (h : putM o i d S = some S')
    (q : ∀ H', Ext g H g H' → Sim ca g S' H' → Q H') : rSet2 ov iv v H Q := by
  unfold putM at h
  split at h
  · rename_i n en
    cases cellOf_eq en
    split at h
    · rename_i ks hc
      split at h
      · rename_i k hk
        split at h
        · cases h
        · rename_i hl
          split at h
          · rename_i hz
            cases h
            obtain ⟨a, u, rfl, hph, ro', hp⟩ := s.cellOb ro hc hl
            cases ro' with
            | dic rk =>
              have ek := keyOf_rep ri hk
              subst ek
              exact .inr ⟨a, _, rfl, DPut.k hp (by rw [rk.len]; exact Nat.lt_of_lt_of_le hz lim_le), q _ (Sim.extWrite (by rw [hp]; exact fun _ _ z => nomatch z) hph) (s.write hph hc hl (.dic (rk.put rv k (ndK a _ hp))))⟩
          · cases h
      · cases h
    · rename_i xs hc
      split at h
      · cases h
      rename_i hl
      split at h
      · rename_i j
        split at h
        · rename_i m hm
          cases h
          obtain ⟨a, u, rfl, hph, ro', hp⟩ := s.cellOb ro hc hl
          cases ro' with
          | lst rl =>
            cases ri
            exact .inl ⟨a, _, j, m, rfl, rfl, hp, by rw [rl.len]; exact hm, q _ (Sim.extWrite (by rw [hp]; exact fun _ _ z => nomatch z) hph) (s.write hph hc hl (.lst (RepL.set rv m rl)))⟩
        · cases h
      · cases h
    · cases h
  · cases h
/-- like PSet, the heap's dicts known to have unlike keys -/
theorem pg_subN {o i : Expr} {to ti : TE} {t : TSet} (ho : PE X o to) (hi : PE X i ti) (hs : PSet X t)
    (ha : ∀ v, assign (.Subscript o i pos) X.env v = (do
      let ov ← holding [v] (eval o X.env)
      let iv ← holding [v, ov] (eval i X.env)
      standAt pos
      holding [v, ov, iv] (setItem ov iv v)
      release [v, ov, iv] []) := by intro _; rfl) : PG X (.Subscript o i pos) (gSub to ti fun o i v H Q => (∀ a kvs, H a = some (.dK kvs) → (kvs.map (·.1)).Nodup) → t o i v H Q) :=
  pg_sub (t := fun o i v H Q => (∀ a kvs, H a = some (.dK kvs) → (kvs.map (·.1)).Nodup) → t o i v H Q) ho hi (fun pins s σ H o i v ov iv u Q I ro ri rv h => hs pins s σ H o i v ov iv u Q I ro ri rv (h fun a kvs e => ndK I (.inl e))) ha
theorem sg_sub {o i : Expr} {mo mi : CE} (hu : X.A.units + 1 < cLine) (ho : SD ca X W o mo) (hi : SD ca X W i mi) (ha : ∀ v, assign (.Subscript o i pos) X.env v = (do
      let ov ← holding [v] (eval o X.env)
      let iv ← holding [v, ov] (eval i X.env)
      standAt pos
      holding [v, ov, iv] (setItem ov iv v)
      release [v, ov, iv] []) := by intro _; rfl) : PG X (.Subscript o i pos) (rdG ca [] (asgSub mo mi)) := PG_imp (pg_subN ho.pe hi.pe (set2 hu) ha) fun x σ H Q ⟨v, g, S, d, s, e, r, h⟩ => by
  unfold asgSub at h
  split at h
  · rename_i o1 S1 e1
    split at h
    · rename_i i1 S2 e2
      cases hp : putM o1 i1 d S2 with
      | none => rw [hp] at h; exact h.elim
      | some S' =>
        rw [hp] at h
        refine ⟨v, S, g, s, e, ?_⟩
        rw [e1]
        refine fun g1 H1 x1 s1 xo ro => ⟨v, S1, g1, s1, e.mono x1.le, ?_⟩
        rw [e2]
        refine fun g2 H2 x2 s2 xi ri ndK => putM_ok s2 (ro.mono x2.le) ri (r.mono (x1.trans x2).le) ndK hp fun H' x3 s3 => ?_
        exact h g2 H' ((x1.trans x2).trans x3) s3 σ (e.mono (x1.trans x2).le) (.refl _ _)
    · exact h.elim
  · exact h.elim
/-! ### walks -/
variable (ca)
/-- what a walk needs of a later world -/
structure ExtW (g : Wld) (H : Hp) (g' : Wld) (H' : Hp) : Prop where
  le : g.Le g'
  fz : ∀ a o u, H a = some (.frz o u) → H' a = some (.frz o u)
theorem _root_.M3.Ext.w {g g' : Wld} {H H' : Hp} (x : Ext g H g' H') : ExtW g H g' H' := ⟨x.le, x.fz⟩
theorem ExtW.trans {g g1 g2 : Wld} {H H1 H2 : Hp} (x : ExtW g H g1 H1) (y : Ext g1 H1 g2 H2) : ExtW g H g2 H2 := ⟨x.le.trans y.le, fun a o u e => y.fz a o u (x.fz a o u e)⟩
theorem ExtW.refl (g : Wld) (H : Hp) : ExtW g H g H := ⟨.refl g, fun _ _ _ e => e⟩
theorem ExtW.upd {g g' : Wld} {H H' : Hp} (x : ExtW g H g' H') {p : Addr} {u : HO} (hp : H' p = some u) (hu : ∀ o w, u ≠ .frz o w) (o : HO) : ExtW g H g' (L2.upd H' p o) := ⟨x.le, fun a q w e => by
  have z := x.fz a q w e
  rw [upd_ne (fun y => by rw [y, hp] at z; exact hu _ _ (Option.some.inj z))]
  exact z⟩
structure WalkD (J : It) (g : Wld) (H : Hp) (ds : List D) : Prop where
  go : ∀ (i : Nat) g1 H1 S1, i < ds.length → ExtW g H g1 H1 → Sim ca g1 S1 H1 → J.go i H1
  yld : ∀ (i : Nat) g1 H1 S1 d x H2, ds[i]? = some d → ExtW g H g1 H1 → Sim ca g1 S1 H1 → J.yld i H1 x H2 → ∃ g2, Ext g1 H1 g2 H2 ∧ Sim ca g2 S1 H2 ∧ Rep ca g2 x d
  stop : ∀ g1 H1 S1, ExtW g H g1 H1 → Sim ca g1 S1 H1 → J.stop ds.length H1
variable {ca}
theorem walk_list {K : PySem.W.Frag} {g : Wld} {H : Hp} {a : Addr} {vs : List V} {ds : List D} (h : g.F a = some (.lst vs)) (r : RepL ca g vs ds) : WalkD ca (Itl K a) g H ds := by
  have at_ : ∀ {g1 : Wld} {H1 : Hp} {S1 : S3}, ExtW g H g1 H1 → Sim ca g1 S1 H1 → SqL K H1 a vs := fun x s => .inl (s.frz a _ (x.le.fr a _ h))
  refine ⟨fun i g1 H1 S1 hi x s => ?_, fun i g1 H1 S1 d v H2 hd x s ⟨e, y⟩ => ?_, fun g1 H1 S1 x s => ⟨vs, at_ x s, by rw [r.len]; exact Nat.le_refl _⟩⟩
  · obtain ⟨v, hv, _⟩ := r.get (List.getElem?_eq_getElem hi)
    exact ⟨vs, v, at_ x s, hv⟩
  · subst e
    obtain ⟨w, hw, rw'⟩ := r.get hd
    have := y vs (at_ x s)
    rw [hw] at this
    cases this
    exact ⟨g1, .refl _ _, s, rw'.mono x.le⟩
theorem walk_listK {K : PySem.W.Frag} {g : Wld} {H : Hp} {a : Addr} {vs : List V} {ds : List D} (h : KLst K a vs) (r : RepL ca g vs ds) : WalkD ca (Itl K a) g H ds := by
  refine ⟨fun i g1 H1 S1 hi x s => ?_, fun i g1 H1 S1 d v H2 hd x s ⟨e, y⟩ => ?_, fun g1 H1 S1 x s => ⟨vs, .inr h, by rw [r.len]; exact Nat.le_refl _⟩⟩
  · obtain ⟨v, hv, _⟩ := r.get (List.getElem?_eq_getElem hi)
    exact ⟨vs, v, .inr h, hv⟩
  · subst e
    obtain ⟨w, hw, rw'⟩ := r.get hd
    have := y vs (.inr h)
    rw [hw] at this
    cases this
    exact ⟨g1, .refl _ _, s, rw'.mono x.le⟩
theorem walk_tup {K : PySem.W.Frag} {g : Wld} {H : Hp} {a : Addr} {vs : List V} {ds : List D} (h : g.F a = some (.tup vs)) (r : RepL ca g vs ds) : WalkD ca (Itt K a) g H ds := by
  have at_ : ∀ {g1 : Wld} {H1 : Hp} {S1 : S3}, ExtW g H g1 H1 → Sim ca g1 S1 H1 → SqT K H1 a vs := fun x s => SqT.of (s.frz a _ (x.le.fr a _ h))
  refine ⟨fun i g1 H1 S1 hi x s => ?_, fun i g1 H1 S1 d v H2 hd x s ⟨e, y⟩ => ?_, fun g1 H1 S1 x s => ⟨vs, at_ x s, by rw [r.len]; exact Nat.le_refl _⟩⟩
  · obtain ⟨v, hv, _⟩ := r.get (List.getElem?_eq_getElem hi)
    exact ⟨vs, v, at_ x s, hv⟩
  · subst e
    obtain ⟨w, hw, rw'⟩ := r.get hd
    have := y vs (at_ x s)
    rw [hw] at this
    cases this
    exact ⟨g1, .refl _ _, s, rw'.mono x.le⟩
theorem RepK.at {g : Wld} : ∀ {vs : List (Key × V)} {ds : List (Key × D)} {i : Nat} {k : Key} {v : V}, RepK ca g vs ds → vs[i]? = some (k, v) → ∃ d, ds[i]? = some (k, d) ∧ Rep ca g v d
  | _, _, _, _, _, .nil, e => by simp at e
  | _, _, 0, _, _, .cons r _, e => by simp at e; obtain ⟨rfl, rfl⟩ := e; exact ⟨_, rfl, r⟩
  | _, _, i + 1, k, v, .cons _ t, e => by
    obtain ⟨u, h1, h2⟩ := RepK.at (i := i) t (by simpa using e)
    exact ⟨u, by simpa using h1, h2⟩
section
variable {g : Wld} {H : Hp} {a : Addr} {o : Obj} {vs : List (Key × V)} {ds : List (Key × D)}
theorem walk_keys (h : H a = some (.frz o (.dK vs))) (r : RepK ca g vs ds) : WalkD ca (Itk a o vs) g H (ds.map fun kd => keyD kd.1) := by
  refine ⟨fun i g1 H1 S1 hi x s => ⟨x.fz _ _ _ h, ?_⟩, fun i g1 H1 S1 d v H2 hd x s ⟨e, k, w, hk, ev⟩ => ?_, fun g1 H1 S1 x s => ⟨x.fz _ _ _ h, ?_⟩⟩
  · rw [r.len]; rw [List.length_map] at hi; exact hi
  · subst e ev
    obtain ⟨d', hd', _⟩ := r.at hk
    rw [List.getElem?_map, hd'] at hd
    cases hd
    exact ⟨g1, .refl _ _, s, Rep.key k⟩
  · rw [r.len, List.length_map]; exact Nat.le_refl _
theorem walk_vals (h : H a = some (.frz o (.dK vs))) (r : RepK ca g vs ds) : WalkD ca (Itd a o vs) g H (ds.map fun kd => kd.2) := by
  refine ⟨fun i g1 H1 S1 hi x s => ⟨x.fz _ _ _ h, ?_⟩, fun i g1 H1 S1 d v H2 hd x s ⟨e, k, hk⟩ => ?_, fun g1 H1 S1 x s => ⟨x.fz _ _ _ h, ?_⟩⟩
  · rw [r.len]; rw [List.length_map] at hi; exact hi
  · subst e
    obtain ⟨d', hd', rd⟩ := r.at hk
    rw [List.getElem?_map, hd'] at hd
    cases hd
    exact ⟨g1, .refl _ _, s, rd.mono x.le⟩
  · rw [r.len, List.length_map]; exact Nat.le_refl _
theorem walk_items (h : H a = some (.frz o (.dK vs))) (r : RepK ca g vs ds) : WalkD ca (Iti a o vs) g H (ds.map fun kd => .tup [keyD kd.1, kd.2]) := by
  refine ⟨fun i g1 H1 S1 hi x s => ⟨x.fz _ _ _ h, ?_⟩, fun i g1 H1 S1 d v H2 hd x s ⟨T, k, w, hk, ev, hT, eH⟩ => ?_, fun g1 H1 S1 x s => ⟨x.fz _ _ _ h, ?_⟩⟩
  · rw [r.len]; rw [List.length_map] at hi; exact hi
  · subst ev eH
    obtain ⟨d', hd', rd⟩ := r.at hk
    rw [List.getElem?_map, hd'] at hd
    cases hd
    have le := s.leTree (u := .tup [kV k, w]) hT
    exact ⟨_, s.extTree hT, s.tree hT True.intro, .tup upd_same (.cons (Rep.key k) (.cons (rd.mono (x.le.trans le)) .nil))⟩
  · rw [r.len, List.length_map]; exact Nat.le_refl _
end
def intsD (lo c : Int) (n : Nat) : List D := (List.range n).map fun i : Nat => .int (lo + (i : Int) * c)
theorem walk_rangeC {g : Wld} {H : Hp} {lo c : Int} {n : Nat} : WalkD ca (Itc lo c n) g H (intsD lo c n) := by
  have hl : (intsD lo c n).length = n := by unfold intsD; rw [List.length_map, List.length_range]
  refine ⟨fun i g1 H1 S1 hi x s => by rw [hl] at hi; exact hi, fun i g1 H1 S1 d v H2 hd x s ⟨e, ev⟩ => ?_, fun g1 H1 S1 x s => by rw [hl]; exact Nat.le_refl _⟩
  subst e ev
  unfold intsD at hd
  rw [List.getElem?_map] at hd
  obtain ⟨j, hj, e⟩ := Option.map_eq_some_iff.mp hd
  have : j = i := by
    obtain ⟨h1, h2⟩ := List.getElem?_eq_some_iff.mp hj
    rw [List.getElem_range] at h2
    exact h2.symm
  subst this
  rw [← e]
  exact ⟨g1, .refl _ _, s, .int _⟩
theorem walk_range {g : Wld} {H : Hp} {lo : Int} {n : Nat} : WalkD ca (Itr lo n) g H (intsD lo 1 n) := by
  have w := walk_rangeC (ca := ca) (g := g) (H := H) (lo := lo) (c := 1) (n := n)
  refine ⟨w.go, fun i g1 H1 S1 d v H2 hd x s ⟨e, ev⟩ => w.yld i g1 H1 S1 d v H2 hd x s ⟨e, ?_⟩, w.stop⟩
  rw [Int.mul_one]
  exact ev
def signsD (z : Str) : List D := z.cps.toList.map fun c => .str ⟨#[c]⟩
theorem walk_str {g : Wld} {H : Hp} {z : Str} : WalkD ca (Its z) g H (signsD z) := by
  have hl : (signsD z).length = z.cps.size := by unfold signsD; rw [List.length_map, Array.length_toList]
  refine ⟨fun i g1 H1 S1 hi x s => by rw [hl] at hi; exact hi, fun i g1 H1 S1 d v H2 hd x s ⟨e, c, hc, ev⟩ => ?_, fun g1 H1 S1 x s => by rw [hl]; exact Nat.le_refl _⟩
  subst e ev
  unfold signsD at hd
  rw [List.getElem?_map, Array.getElem?_toList, hc] at hd
  cases hd
  exact ⟨g1, .refl _ _, s, .str _⟩
def enumD : Nat → List D → List D
  | _, [] => []
  | n, d :: r => .tup [.int (n : Int), d] :: enumD (n + 1) r
theorem enumD_len : ∀ (n : Nat) (ds : List D), (enumD n ds).length = ds.length
  | _, [] => rfl
  | n, _ :: r => congrArg Nat.succ (enumD_len (n + 1) r)
theorem enumD_get : ∀ (n i : Nat) (ds : List D), (enumD n ds)[i]? = (ds[i]?).map fun d => .tup [.int ((n + i : Nat) : Int), d]
  | _, _, [] => by simp [enumD]
  | n, 0, d :: r => by simp [enumD]
  | n, i + 1, d :: r => by
    have := enumD_get (n + 1) i r
    simp only [enumD, List.getElem?_cons_succ]
    rw [this]
    have e : n + 1 + i = n + (i + 1) := by omega
    rw [e]
theorem walk_enum {K : PySem.W.Frag} {g : Wld} {H : Hp} {a : Addr} {vs : List V} {ds : List D} (h : g.F a = some (.lst vs)) (r : RepL ca g vs ds) : WalkD ca (Ite K a) g H (enumD 0 ds) := by
  have at_ : ∀ {g1 : Wld} {H1 : Hp} {S1 : S3}, ExtW g H g1 H1 → Sim ca g1 S1 H1 → SqL K H1 a vs := fun x s => .inl (s.frz a _ (x.le.fr a _ h))
  refine ⟨fun i g1 H1 S1 hi x s => ?_, fun i g1 H1 S1 d v H2 hd x s ⟨T, w, ev, hT, eH, y⟩ => ?_, fun g1 H1 S1 x s => ⟨vs, at_ x s, by rw [r.len, enumD_len]; exact Nat.le_refl _⟩⟩
  · rw [enumD_len] at hi
    obtain ⟨v, hv, _⟩ := r.get (List.getElem?_eq_getElem hi)
    exact ⟨vs, v, at_ x s, hv⟩
  · subst ev eH
    rw [enumD_get] at hd
    obtain ⟨d', hd', e⟩ := Option.map_eq_some_iff.mp hd
    subst e
    obtain ⟨w', hw', rw'⟩ := r.get hd'
    have := y vs (at_ x s)
    rw [hw'] at this
    cases this
    have le := s.leTree (u := .tup [.int (i : Nat), w]) hT
    rw [Nat.zero_add]
    exact ⟨_, s.extTree hT, s.tree hT True.intro, .tup upd_same (.cons (.int _) (.cons (rw'.mono (x.le.trans le)) .nil))⟩

/-! ### sources -/
def S3.lock (S : S3) (n : Nat) : S3 := { S with lk := n :: S.lk }
def S3.unlock (S : S3) (n : Nat) : S3 := { S with lk := S.lk.filter fun m => decide (m ≠ n) }
abbrev CS := Ev → S3 → R (List D × Option Nat)
/-- a dict's cell is locked while it is walked -/
def lkS (d : D) (S : S3) (ds : List D) : R (List D × Option Nat) := match cellOf d with
  | some n => if n ∈ S.lk then .ok (ds, none) S else .ok (ds, some n) (S.lock n)
  | none => .ok (ds, none) S
def anyK (d : D) (S1 : S3) : R (List D × Option Nat) := match dicOf S1 d with
  | some ks => lkS d S1 (ks.map fun kd => keyD kd.1)
  | none => match d with
    | .lst xs => .ok (xs, none) S1
    | .scr xs => .ok (xs, none) S1
    | .tup xs => .ok (xs, none) S1
    | .str z => .ok (signsD z, none) S1
    | .cell n => match S1.cs n with
      | some (.lst xs) => lkS (.cell n) S1 xs
      | _ => .bad
    | _ => .bad
def anyS (m : CE) : CS := fun v S => (m v S).bind anyK
def valS (m : CE) : CS := fun v S => (m v S).bind fun d S1 => match dicOf S1 d with
  | some ks => lkS d S1 (ks.map fun kd => kd.2)
  | none => .bad
def itmS (m : CE) : CS := fun v S => (m v S).bind fun d S1 => match dicOf S1 d with
  | some ks => lkS d S1 (ks.map fun kd => .tup [keyD kd.1, kd.2])
  | none => .bad
def enmS (m : CE) : CS := fun v S => (m v S).bind fun d S1 => match d with
  | .lst xs => .ok (enumD 0 xs, none) S1
  | .cell n => match S1.cs n with
    | some (.lst xs) => lkS (.cell n) S1 (enumD 0 xs)
    | _ => .bad
  | _ => .bad
def fit62 (i : Int) : Bool := decide (-(2 ^ 62) ≤ i ∧ i < 2 ^ 62)
def rngS (ms : CA) : CS := fun v S => (ms v S).bind fun xs S1 => match xs with
  | [.int j] => if fit62 j then .ok (intsD 0 1 j.toNat, none) S1 else .bad
  | [.int i, .int j] => if fit62 i && fit62 j then .ok (intsD i 1 (j - i).toNat, none) S1 else .bad
  | [.int i, .int j, .int c] => if decide (c ≠ 0) && decide (c.natAbs < 1073741824) && Builtin.Range.small i j c && decide (Builtin.Range.rangeSize i j c = ((Builtin.Range.rangeSize i j c).toNat : Int)) then .ok (intsD i c (Builtin.Range.rangeSize i j c).toNat, none) S1 else .bad
  | _ => .bad
variable (ca)
/-- how the walk's lock stands: the cell n at p, the dict u, unlocked ahead -/
def Lk (X : Cx) (g : Wld) (H : Hp) (g1 : Wld) (H1 : Hp) (S1 : S3) : Option Nat → Prop
  | none => Ext g H g1 H1
  | some n => ∃ p o u, g1.ph[n]? = some p ∧ H1 p = some (.frz o u) ∧ (∀ q w, u ≠ .frz q w) ∧ n ∈ S1.lk ∧ (∀ o' u', X.H_0 p ≠ some (.frz o' u')) ∧ Ext g H g1 (upd H1 p u)
def FinI (X : Cx) (W : WX) (g : Wld) (H : Hp) (σ : St) (Q : It → Hp → Prop) (r : R (List D × Option Nat)) : Prop := match r with
  | .ok (ds, un) S1 => ∀ g1 H1 J, Lk X g H g1 H1 S1 un → g.Le g1 → Sim ca g1 S1 H1 → WalkD ca J g1 H1 ds → Q J H1
  | .ex e S' => ∀ g' H', Ext g H g' H' → Sim ca g' S' H' → ∀ cls od, RepX ca g' H' cls od e → W cls od σ H'
  | .bad => False
def rdI (X : Cx) (W : WX) (m : CS) : TI := fun σ H Q => ∃ v S g, Sim ca g S H ∧ EnvR ca g v σ ∧ FinI ca X W g H σ Q (m v S)
variable {ca}
theorem FinI.seq {X : Cx} {W : WX} {α : Type} {g : Wld} {H : Hp} {σ : St} {Q : It → Hp → Prop} {r : R α} {f : α → S3 → R (List D × Option Nat)} (h : FinI ca X W g H σ Q (r.bind f)) :
    Fin ca g H r (fun a g' H' => ∃ S', Sim ca g' S' H' ∧ Ext g H g' H' ∧ FinI ca X W g H σ Q (f a S')) (fun e g' H' => ∀ cls od, RepX ca g' H' cls od e → W cls od σ H') := by
  cases r with
  | ok a S => exact fun g' H' x s => ⟨S, s, x, h⟩
  | ex e S => exact h
  | bad => exact h
theorem Sim.lockD {g : Wld} {S : S3} {H : Hp} (s : Sim ca g S H) {n : Nat} {p : Addr} {u : HO} {ob0 : Ob} {o : Obj} (h : g.ph[n]? = some p) (hc : S.cs n = some ob0) (hb0 : Lkb ob0) (hn : n ∉ S.lk) (hp : H p = some u) : Sim ca g (S.lock n) (upd H p (.frz o u)) where
  len := s.len
  inj := s.inj
  frz := fun b w e => (s.frz b w e).of_eq (upd_ne fun z => by
    obtain ⟨a', w', h1, h2, _⟩ := s.cel n _ hc
    rw [h] at h1; cases h1
    rw [z, h2] at e; cases e)
  cel := fun m ob e => by
    obtain ⟨a, w, h1, h2, h3, h4⟩ := s.cel m ob e
    refine ⟨a, w, h1, h2, h3, ?_⟩
    by_cases hm : m = n
    · subst hm
      rw [h] at h1; cases h1
      have q := h4.2 hn
      rw [hp] at q
      cases q
      exact ⟨fun _ => ⟨o, upd_same⟩, fun z => absurd List.mem_cons_self z⟩
    · have ha : a ≠ p := s.at_ h1 h hm
      refine ⟨fun z => ?_, fun z => ?_⟩
      · have z : m ∈ n :: S.lk := z
        rcases List.mem_cons.mp z with z | z
        · exact absurd z hm
        · obtain ⟨o', q⟩ := h4.1 z
          exact ⟨o', by rw [upd_ne ha]; exact q⟩
      · rw [upd_ne ha]
        exact h4.2 fun q => z (List.mem_cons_of_mem _ q)
  old := fun m b e => by
    by_cases hb : b = p
    · rw [hb, upd_same]; exact fun z => nomatch z
    · rw [upd_ne hb]; exact s.old m b e
  lkd := fun m hm => by
    have hm : m ∈ n :: S.lk := hm
    rcases List.mem_cons.mp hm with z | z
    · rw [z]; exact ⟨ob0, hc, hb0⟩
    · exact s.lkd m z
theorem Sim.unlockD {g : Wld} {S : S3} {H : Hp} (s : Sim ca g S H) {n : Nat} {p : Addr} {u : HO} {o : Obj} (h : g.ph[n]? = some p) (hn : n ∈ S.lk) (hp : H p = some (.frz o u)) : Sim ca g (S.unlock n) (upd H p u) where
  len := s.len
  inj := s.inj
  frz := fun b w e => (s.frz b w e).of_eq (upd_ne fun z => by
    obtain ⟨ds, hc, _⟩ := s.lkd n hn
    obtain ⟨a', w', h1, h2, _⟩ := s.cel n _ hc
    rw [h] at h1; cases h1
    rw [z, h2] at e; cases e)
  cel := fun m ob e => by
    obtain ⟨a, w, h1, h2, h3, h4⟩ := s.cel m ob e
    refine ⟨a, w, h1, h2, h3, ?_⟩
    by_cases hm : m = n
    · subst hm
      rw [h] at h1; cases h1
      obtain ⟨o', q⟩ := h4.1 hn
      rw [hp] at q
      cases q
      exact ⟨fun z => by
        have z : m ∈ S.lk.filter fun j => decide (j ≠ m) := z
        have := (List.mem_filter.mp z).2
        simp at this, fun _ => upd_same⟩
    · have ha : a ≠ p := s.at_ h1 h hm
      refine ⟨fun z => ?_, fun z => ?_⟩
      · have z : m ∈ S.lk.filter fun j => decide (j ≠ n) := z
        obtain ⟨o', q⟩ := h4.1 (List.mem_filter.mp z).1
        exact ⟨o', by rw [upd_ne ha]; exact q⟩
      · rw [upd_ne ha]
        exact h4.2 fun q => z (List.mem_filter.mpr ⟨q, by simpa using hm⟩)
  old := fun m b e => by
    by_cases hb : b = p
    · rw [hb, upd_same]; exact fun z => nomatch z
    · rw [upd_ne hb]; exact s.old m b e
  lkd := fun m hm => by
    have hm : m ∈ S.lk.filter fun j => decide (j ≠ n) := hm
    exact s.lkd m (List.mem_filter.mp hm).1
/-- behind a walk: unlocked again -/
theorem Lk.un {X : Cx} {g g1 g2 : Wld} {H H1 H2 : Hp} {S1 S2 : S3} {n : Nat} (l : Lk X g H g1 H1 S1 (some n)) (x : Ext g1 H1 g2 H2) (s : Sim ca g2 S2 H2) (hn : n ∈ S2.lk) :
    ∃ p o u, H2 p = some (.frz o u) ∧ (∀ o' u', X.H_0 p ≠ some (.frz o' u')) ∧ Sim ca g2 (S2.unlock n) (upd H2 p u) ∧ Ext g H g2 (upd H2 p u) := by
  obtain ⟨p, o, w, h1, h2, nf, h3, h4, h5⟩ := l
  have e2 := x.fz p o _ h2
  have ne : ∀ b q u, (upd H1 p w) b = some (.frz q u) → b ≠ p := fun b q u e z => by
    rw [z, upd_same] at e; exact nf _ _ (Option.some.inj e)
  refine ⟨p, o, w, e2, h4, s.unlockD (x.le.ph n p h1) hn e2, h5.trans ⟨x.le, fun b q u e => ?_, fun b e => ?_, fun m b e => ?_, fun b u e => ?_, fun b q e z => ?_⟩⟩
  · have hb := ne b q u e
    rw [upd_ne hb] at e ⊢
    exact x.fz b q u e
  · by_cases hb : b = p
    · rw [hb, upd_same]; exact fun z => nomatch z
    · rw [upd_ne hb] at e ⊢; exact x.old b e
  · rcases x.nph m b e with z | z
    · exact .inl z
    · refine .inr ?_
      rw [upd_ne (fun q : b = p => by rw [q, h2] at z; cases z)]
      exact z
  · rcases x.nfr b u e with z | z | z
    · exact .inl z
    · refine .inr (.inl ?_)
      rw [upd_ne (fun q : b = p => by rw [q, h2] at z; cases z)]
      exact z
    · exact .inr (.inr z)
  · have hb : b ≠ p := fun q => z.1 n (by rw [q]; exact h1)
    rw [upd_ne hb] at e ⊢
    exact x.rest b q e z
/-- an expression, and what it gives locked -/
theorem pe_lockA {td : TE} (he : PE X e td) : PE X e (fun σ H Q => td σ H fun x H1 => Q x H1 ∨ ∃ d u, H1 d = some u ∧ Mut (some u) ∧ ∀ o, (∀ o' u', X.H_0 d ≠ some (.frz o' u')) → Q x (upd H1 d (.frz o u))) := by
  refine ⟨fun pins s σ H Q I h => thn (he.run pins s σ H _ I h) fun v s1 ⟨x, H1, I1, r1, q1⟩ => ?_⟩
  rcases q1 with q1 | ⟨d, u, hd, mu, q1⟩
  · exact ⟨x, H1, I1, r1, q1⟩
  · obtain ⟨od, I2⟩ := I1.lock hd mu
    exact ⟨x, _, I2, r1, q1 od (I1.nofrz hd mu)⟩
/-- a dict, made ready for a walk -/
theorem dict_ready {g0 g : Wld} {S : S3} {H0 H : Hp} {v : V} {d : D} {ks : List (Key × D)} (x : Ext g0 H0 g H) (s : Sim ca g S H) (r : Rep ca g v d) (hk : dicOf S d = some ks) {Q : V → Hp → Prop} (L : List D)
    (h : ∀ p o vs H1 S1 un, lkS d S L = .ok (L, un) S1 → v = .ref p → H1 p = some (.frz o (.dK vs)) → RepK ca g vs ks → Lk X g0 H0 g H1 S1 un → Sim ca g S1 H1 → Q v H1) :
    Q v H ∨ ∃ p u, H p = some u ∧ Mut (some u) ∧ ∀ o, (∀ o' u', X.H_0 p ≠ some (.frz o' u')) → Q v (upd H p (.frz o u)) := by
  obtain ⟨p, u, rfl, ro, q⟩ := s.ob r (dicOf_eq hk)
  cases ro with
  | @dic vs _ rk =>
    rcases q with ⟨fz, fF⟩ | ⟨n, ed, hph, hc, hA⟩
    · have hno : cellOf d = none := by
        cases d with
        | cell n =>
          have z := dicOf_eq hk
          obtain ⟨a, u, h1, h2, _⟩ := s.cel n _ z
          cases r with
          | cell e => rw [e] at h1; cases h1; rw [h2] at fF; cases fF
        | _ => rfl
      have el : lkS d S L = .ok (L, none) S := by unfold lkS; rw [hno]
      rcases fz with fz | ⟨o, fz⟩
      · refine .inr ⟨p, _, fz, True.intro, fun o _ => ?_⟩
        have hne : ∀ b w, (H b = some w) → (∀ q z, w ≠ .frz q z) → True := fun _ _ _ _ => True.intro
        have x1 : Ext g H g (upd H p (.frz o (.dK vs))) := ⟨.refl g, fun b q w e => by rw [upd_ne (fun z => by rw [z, fz] at e; cases e)]; exact e, fun b e => by
          by_cases hb : b = p
          · rw [hb, upd_same]; exact fun z => nomatch z
          · rw [upd_ne hb]; exact e, fun _ _ e => .inl e, fun _ _ e => .inl e, fun b w e z => by
          rw [upd_ne (fun q : b = p => by rw [q] at z; rw [z.2] at fF; cases fF)]
          exact e⟩
        have s1 : Sim ca g S (upd H p (.frz o (.dK vs))) := by
          refine ⟨s.len, s.inj, fun b w e => ?_, fun m ob e => ?_, fun m b e => ?_, s.lkd⟩
          · by_cases hb : b = p
            · subst hb
              rw [fF] at e
              cases e
              exact .inr ⟨o, upd_same⟩
            · exact (s.frz b w e).of_eq (upd_ne hb)
          · obtain ⟨b, w, h1, h2, h3, h4⟩ := s.cel m ob e
            exact ⟨b, w, h1, h2, h3, h4.of_eq (upd_ne fun z => by rw [z, fF] at h2; cases h2)⟩
          · by_cases hb : b = p
            · rw [hb, upd_same]; exact fun z => nomatch z
            · rw [upd_ne hb]; exact s.old m b e
        exact h p o vs _ S none el rfl upd_same rk (x.trans x1) s1
      · exact .inl (h p o vs H S none el rfl fz rk x s)
    · subst ed
      by_cases hl : n ∈ S.lk
      · obtain ⟨o, hp⟩ := hA.1 hl
        exact .inl (h p o vs H S none (by unfold lkS cellOf; simp [hl]) rfl hp rk x s)
      · have hp := hA.2 hl
        refine .inr ⟨p, _, hp, True.intro, fun o nf => ?_⟩
        refine h p o vs _ (S.lock n) (some n) (by unfold lkS cellOf; simp [hl]) rfl upd_same rk ⟨p, o, .dK vs, hph, upd_same, fun _ _ z => (nomatch z), List.mem_cons_self, nf, ?_⟩ (s.lockD hph hc True.intro hl hp)
        have e : upd (upd H p (.frz o (.dK vs))) p (.dK vs) = H := by
          funext b
          by_cases hb : b = p
          · rw [hb, upd_same, hp]
          · rw [upd_ne hb, upd_ne hb]
        rw [e]
        exact x
/-- a list's cell, made ready for a walk -/
theorem cellL_ready {g0 g : Wld} {S : S3} {H0 H : Hp} {v : V} {n : Nat} {xs : List D} (x : Ext g0 H0 g H) (s : Sim ca g S H) (r : Rep ca g v (.cell n)) (hk : S.cs n = some (.lst xs)) {Q : V → Hp → Prop} (L : List D)
    (h : ∀ p o vs H1 S1 un, lkS (.cell n) S L = .ok (L, un) S1 → v = .ref p → H1 p = some (.frz o (.lst vs)) → RepL ca g vs xs → Lk X g0 H0 g H1 S1 un → Sim ca g S1 H1 → Q v H1) :
    Q v H ∨ ∃ p u, H p = some u ∧ Mut (some u) ∧ ∀ o, (∀ o' u', X.H_0 p ≠ some (.frz o' u')) → Q v (upd H p (.frz o u)) := by
  obtain ⟨p, u, h1, h2, ro, hA⟩ := s.cel n _ hk
  cases r with
  | cell e =>
    rw [h1] at e
    cases e
    cases ro with
    | @lst vs _ rk =>
      by_cases hl : n ∈ S.lk
      · obtain ⟨o, hp⟩ := hA.1 hl
        exact .inl (h p o vs H S none (by unfold lkS cellOf; simp [hl]) rfl hp rk x s)
      · have hp := hA.2 hl
        refine .inr ⟨p, _, hp, True.intro, fun o nf => ?_⟩
        refine h p o vs _ (S.lock n) (some n) (by unfold lkS cellOf; simp [hl]) rfl upd_same rk ⟨p, o, .lst vs, h1, upd_same, fun _ _ z => (nomatch z), List.mem_cons_self, nf, ?_⟩ (s.lockD h1 hk True.intro hl hp)
        have e : upd (upd H p (.frz o (.lst vs))) p (.lst vs) = H := by
          funext b
          by_cases hb : b = p
          · rw [hb, upd_same, hp]
          · rw [upd_ne hb, upd_ne hb]
        rw [e]
        exact x
theorem walk_listZ {K : PySem.W.Frag} {g : Wld} {H : Hp} {a : Addr} {o : Obj} {vs : List V} {ds : List D} (h : H a = some (.frz o (.lst vs))) (r : RepL ca g vs ds) : WalkD ca (Itl K a) g H ds := by
  have at_ : ∀ {g1 : Wld} {H1 : Hp} {S1 : S3}, ExtW g H g1 H1 → Sim ca g1 S1 H1 → SqL K H1 a vs := fun x s => .inl (.inr ⟨o, x.fz _ _ _ h⟩)
  refine ⟨fun i g1 H1 S1 hi x s => ?_, fun i g1 H1 S1 d v H2 hd x s ⟨e, y⟩ => ?_, fun g1 H1 S1 x s => ⟨vs, at_ x s, by rw [r.len]; exact Nat.le_refl _⟩⟩
  · obtain ⟨v, hv, _⟩ := r.get (List.getElem?_eq_getElem hi)
    exact ⟨vs, v, at_ x s, hv⟩
  · subst e
    obtain ⟨w, hw, rw'⟩ := r.get hd
    have := y vs (at_ x s)
    rw [hw] at this
    cases this
    exact ⟨g1, .refl _ _, s, rw'.mono x.le⟩
theorem walk_enumZ {K : PySem.W.Frag} {g : Wld} {H : Hp} {a : Addr} {o : Obj} {vs : List V} {ds : List D} (h : H a = some (.frz o (.lst vs))) (r : RepL ca g vs ds) : WalkD ca (Ite K a) g H (enumD 0 ds) := by
  have at_ : ∀ {g1 : Wld} {H1 : Hp} {S1 : S3}, ExtW g H g1 H1 → Sim ca g1 S1 H1 → SqL K H1 a vs := fun x s => .inl (.inr ⟨o, x.fz _ _ _ h⟩)
  refine ⟨fun i g1 H1 S1 hi x s => ?_, fun i g1 H1 S1 d v H2 hd x s ⟨T, w, ev, hT, eH, y⟩ => ?_, fun g1 H1 S1 x s => ⟨vs, at_ x s, by rw [r.len, enumD_len]; exact Nat.le_refl _⟩⟩
  · rw [enumD_len] at hi
    obtain ⟨v, hv, _⟩ := r.get (List.getElem?_eq_getElem hi)
    exact ⟨vs, v, at_ x s, hv⟩
  · subst ev eH
    rw [enumD_get] at hd
    obtain ⟨d', hd', e⟩ := Option.map_eq_some_iff.mp hd
    subst e
    obtain ⟨w', hw', rw'⟩ := r.get hd'
    have := y vs (at_ x s)
    rw [hw'] at this
    cases this
    have le := s.leTree (u := .tup [.int (i : Nat), w]) hT
    rw [Nat.zero_add]
    exact ⟨_, s.extTree hT, s.tree hT True.intro, .tup upd_same (.cons (.int _) (.cons (rw'.mono (x.le.trans le)) .nil))⟩
theorem lkS_ok {d : D} {S S1 : S3} {L ds : List D} {un : Option Nat} (h : lkS d S L = .ok (ds, un) S1) : ds = L := by
  unfold lkS at h
  split at h
  · split at h <;> (cases h; rfl)
  · cases h; rfl
theorem lkS_ne {d : D} {S S1 : S3} {L : List D} : (∀ e, lkS d S L ≠ .ex e S1) ∧ lkS d S L ≠ .bad := by
  unfold lkS
  refine ⟨fun e h => ?_, fun h => ?_⟩
  · split at h
    · split at h <;> cases h
    · cases h
  · split at h
    · split at h <;> cases h
    · cases h
end
end M3
/-! M3J: statements. -/
namespace M3
open PySem L2
variable {ca : CAK}
/-! ### what a statement's run is followed by -/
def R.bindS {α : Type} (r : R α) (v : Ev) (f : α → S3 → SR) : SR := match r with
  | .ok a s => f a s
  | .ex e s => .ex e v s
  | .bad => .bad
def SR.seq (r : SR) (f : SC) : SR := match r with
  | .nx v s => f v s
  | r => r
variable (ca)
def FinS (W : WX) (D : Ends) (g : Wld) (H : Hp) (r : SR) : Prop := match r with
  | .nx v S => ∀ g' H' σ', Ext g H g' H' → Sim ca g' S H' → EnvR ca g' v σ' → D.nx σ' H'
  | .bk v S => ∀ g' H' σ', Ext g H g' H' → Sim ca g' S H' → EnvR ca g' v σ' → D.bk σ' H'
  | .ct v S => ∀ g' H' σ', Ext g H g' H' → Sim ca g' S H' → EnvR ca g' v σ' → D.ct σ' H'
  | .rt d S => ∀ g' H', Ext g H g' H' → Sim ca g' S H' → ∀ x, Rep ca g' x d → D.rt x H'
  | .ex e v S => ∀ g' H' σ', Ext g H g' H' → Sim ca g' S H' → EnvR ca g' v σ' → ∀ cls od, RepX ca g' H' cls od e → W cls od σ' H'
  | .bad => False
def rdS (W : WX) (m : SC) : TS := fun D σ H => ∃ v S g, Sim ca g S H ∧ EnvR ca g v σ ∧ FinS ca W D g H (m v S)
variable {ca}
theorem FinS.mono {W : WX} {D : Ends} {g g1 : Wld} {H H1 : Hp} {r : SR} (h : FinS ca W D g H r) (x : Ext g H g1 H1) : FinS ca W D g1 H1 r := by
  cases r with
  | nx v S => exact fun g' H' σ' x' s e => h g' H' σ' (x.trans x') s e
  | bk v S => exact fun g' H' σ' x' s e => h g' H' σ' (x.trans x') s e
  | ct v S => exact fun g' H' σ' x' s e => h g' H' σ' (x.trans x') s e
  | rt d S => exact fun g' H' x' s => h g' H' (x.trans x') s
  | ex e v S => exact fun g' H' σ' x' s e' => h g' H' σ' (x.trans x') s e'
  | bad => exact h
theorem FinS.ofE {α : Type} {W : WX} {D : Ends} {g : Wld} {H : Hp} {r : R α} {v : Ev} {σ : St} {f : α → S3 → SR} (h : FinS ca W D g H (r.bindS v f)) (e : EnvR ca g v σ) :
    Fin ca g H r (fun a g' H' => ∃ S', Sim ca g' S' H' ∧ FinS ca W D g' H' (f a S')) (fun e g' H' => ∀ cls od, RepX ca g' H' cls od e → W cls od σ H') := by
  cases r with
  | ok a S => exact fun g' H' x s => ⟨S, s, FinS.mono (show FinS ca W D g H (f a S) from h) x⟩
  | ex e' S => exact fun g' H' x s => h g' H' σ x s (e.mono x.le)
  | bad => exact h
theorem FinS.seq {W : WX} {D : Ends} {g : Wld} {H : Hp} {r : SR} {f : SC} (h : FinS ca W D g H (r.seq f)) : FinS ca W { D with nx := rdS ca W f D } g H r := by
  cases r with
  | nx v S => exact fun g' H' σ' x s e => ⟨v, S, g', s, e, FinS.mono (show FinS ca W D g H (f v S) from h) x⟩
  | _ => exact h
theorem FinS.now {W : WX} {D : Ends} {g : Wld} {H : Hp} {v : Ev} {S : S3} {σ : St} (h : FinS ca W D g H (.nx v S)) (s : Sim ca g S H) (e : EnvR ca g v σ) : D.nx σ H := h g H σ (.refl _ _) s e
section
variable {X : Cx} {W : WX} {e a b c : Expr} {m ma mb mc : CE} {pos : Pos} {st : Stmt} {rest : List Stmt} {s1 s2 : SC}
/-! ### blocks -/
def nxM : SC := fun v S => .nx v S
def seqM (f r : SC) : SC := fun v S => (f v S).seq r
theorem ss_nil : PSs X [] (rdS ca W nxM) := PSs_imp pss_nil fun D σ H ⟨v, S, g, s, e, h⟩ => h.now s e
theorem ss_cons (h1 : PS X st (rdS ca W s1)) (h2 : PSs X rest (rdS ca W s2)) : PSs X (st :: rest) (rdS ca W (seqM s1 s2)) := PSs_imp (pss_cons h1 h2) fun D σ H ⟨v, S, g, s, e, h⟩ => ⟨v, S, g, s, e, h.seq⟩
theorem ss_one (h1 : PS X st (rdS ca W s1)) : PSs X [st] (rdS ca W s1) := pss_one h1
def bkM : SC := fun v S => .bk v S
def ctM : SC := fun v S => .ct v S
theorem ss_pass : PS X (.Pass pos) (rdS ca W nxM) := PS_imp ps_pass fun D σ H ⟨v, S, g, s, e, h⟩ => h.now s e
theorem ss_break : PS X (.Break pos) (rdS ca W bkM) := PS_imp ps_break fun D σ H ⟨v, S, g, s, e, h⟩ => h g H σ (.refl _ _) s e
theorem ss_continue : PS X (.Continue pos) (rdS ca W ctM) := PS_imp ps_continue fun D σ H ⟨v, S, g, s, e, h⟩ => h g H σ (.refl _ _) s e
theorem ss_doc {x j pos pos'} : PS X (.Expr (.Constant (.str x) j pos) pos') (rdS ca W nxM) := PS_imp ps_doc fun D σ H ⟨v, S, g, s, e, h⟩ => h.now s e
def exprM (m : CE) : SC := fun v S => (m v S).bindS v fun _ S1 => .nx v S1
theorem ss_expr (h : SD ca X W e m) (hs : swapsWith e none pos.line X.env = pure false := by rfl) : PS X (.Expr e pos) (rdS ca W (exprM m)) := PS_imp (ps_expr h.pe hs) fun D σ H ⟨v, S, g, s, e, h⟩ =>
  ⟨v, S, g, s, e, (FinS.ofE h e).imp (fun d g1 H1 x1 ⟨S1, s1, h1⟩ x r => h1.now s1 (e.mono x1.le)) fun _ _ _ _ z => z⟩
def retM (m : CE) : SC := fun v S => (m v S).bindS v fun d S1 => .rt d S1
theorem ss_ret (h : SD ca X W e m) : PS X (.Return (some e) pos) (rdS ca W (retM m)) := PS_imp (ps_ret h.pe) fun D σ H ⟨v, S, g, s, e, h⟩ =>
  ⟨v, S, g, s, e, (FinS.ofE h e).imp (fun d g1 H1 x1 ⟨S1, s1, h1⟩ x r => h1 g1 H1 (.refl _ _) s1 x r) fun _ _ _ _ z => z⟩
def retN : SC := fun _ S => .rt .non S
theorem ss_retN : PS X (.Return none pos) (rdS ca W retN) := PS_imp ps_retN fun D σ H ⟨v, S, g, s, e, h⟩ => h g H (.refl _ _) s _ .non
def ifS (mc : CE) (p q : SC) : SC := fun v S => (mc v S).bindS v fun x S1 => match x with
  | .bl true => p v S1
  | .bl false => q v S1
  | _ => .bad
theorem ss_if {p q : List Stmt} (hc : SD ca X W c mc) (hp : PSs X p (rdS ca W s1)) (hq : PSs X q (rdS ca W s2)) : PS X (.If c p q pos) (rdS ca W (ifS mc s1 s2)) := PS_imp (ps_if hc.pt hp hq) fun D σ H ⟨v, S, g, s, e, h⟩ => by
  refine ⟨v, S, g, s, e, (FinS.ofE h e).imp (fun d g1 H1 x1 ⟨S1, s1, h1⟩ x r => ?_) fun _ _ _ _ z => z⟩
  split at h1
  · cases r
    exact ⟨true, rfl, iteT ⟨v, S1, g1, s1, e.mono x1.le, h1⟩⟩
  · cases r
    exact ⟨false, rfl, iteF ⟨v, S1, g1, s1, e.mono x1.le, h1⟩⟩
  · exact h1.elim
/-! ### assignments -/
def asgS (m : CE) (t : GT) : SC := fun v S => (m v S).bindS v fun d S1 => match t d v S1 with
  | some (v', S') => .nx v' S'
  | none => .bad
theorem FinO.ofS {W : WX} {D : Ends} {g : Wld} {H : Hp} {o : Option (Ev × S3)} (h : FinS ca W D g H (match o with | some (v', S') => .nx v' S' | none => .bad)) {sl : List Nat} {σ : St} : FinO ca g H o (fun v' g' H' => ∀ σ', EnvR ca g' v' σ' → Off sl σ σ' → D.nx σ' H') := by
  cases o with
  | some p => exact fun g' H' x s σ' e _ => h g' H' σ' x s e
  | none => exact h
theorem ss_asg {tg : Expr} {t : GT} {sl : List Nat} (h : SD ca X W e m) (hg : PG X tg (rdG ca sl t)) (hs : swapsWithSole [tg] e pos.line X.env = pure false := by rfl) (hw : swappedStores [tg] e X.env = pure none := by rfl)
    (h1 : (assignEach [tg] X.env).map (·.2) = [assign tg X.env] := by rfl) : PS X (.Assign [tg] e pos) (rdS ca W (asgS m t)) := PS_imp (ps_asg h.pe hg hs hw h1) fun D σ H ⟨v, S, g, s, e, h⟩ =>
  ⟨v, S, g, s, e, (FinS.ofE h e).imp (fun d g1 H1 x1 ⟨S1, s1, h1⟩ x r => ⟨v, g1, S1, d, s1, e.mono x1.le, r, FinO.ofS h1⟩) fun _ _ _ _ z => z⟩
/-- a name gets a list comprehension on its line -/
theorem ss_asgN {i : Nat} {x : Str} {p' : Pos} (h : SD ca X W e m) (hN : X.N.Nodup) (hi : X.N[i]? = some x := by rfl) (hx : Loc X.env.scope x := by first | exact Or.inl rfl | exact Or.inr rfl) (hs : swapsWith e (some (.Name x p')) pos.line X.env = pure false := by rfl) (hf : X.fn x = true ∨ X.env.scope.names.lookup x = some .local := by first | exact .inl rfl | exact .inr rfl) :
    PS X (.Assign [.Name x p'] e pos) (rdS ca W (asgS m (asgN i))) := PS_imp (ps_set hN hi hx h.pe hs hf) fun D σ H ⟨v, S, g, s, e, h⟩ =>
  ⟨v, S, g, s, e, (FinS.ofE h e).imp (fun d g1 H1 x1 ⟨S1, s1, h1⟩ x r => h1.now s1 ((e.mono x1.le).set i r)) fun _ _ _ _ z => z⟩
/-- a, b = x, y: two plain names -/
def parM (i j : Nat) (ms : CA) : SC := fun v S => (ms v S).bindS v fun ds S1 => match ds with
  | [x, y] => .nx ((v.set i (some x)).set j (some y)) S1
  | _ => .bad
theorem ss_par {i j : Nat} {x y : Str} {ms : CA} {px py pt : Pos} {kt k2 pt2} (ha : PA X [a, b] (rdA ca W ms)) (hc : X.calm = true) (hN : X.N.Nodup) (hi : X.N[i]? = some x := by rfl) (hj : X.N[j]? = some y := by rfl) (hij : i ≠ j := by decide)
    (hx : X.env.scope.names.lookup x = some .local := by rfl) (hy : X.env.scope.names.lookup y = some .local := by rfl)
    (hw : swappedStores [.Tuple [.Name x px, .Name y py] kt pt] (.Tuple [a, b] k2 pt2) X.env = pure (some [x, y]) := by rfl)
    (hs : swapsWithSole [.Tuple [.Name x px, .Name y py] kt pt] (.Tuple [a, b] k2 pt2) pos.line X.env = pure false := by rfl) :
    PS X (.Assign [.Tuple [.Name x px, .Name y py] kt pt] (.Tuple [a, b] k2 pt2) pos) (rdS ca W (parM i j ms)) := PS_imp (ps_par hc hN hi hj hij hx hy ha hw hs) fun D σ H ⟨v, S, g, s, e, h⟩ => by
  refine ⟨v, S, g, s, e, (FinS.ofE h e).imp (fun d g1 H1 x1 ⟨S1, s1, h1⟩ xs r => ?_) fun _ _ _ _ z => z⟩
  split at h1
  · obtain ⟨p, q, rfl, rp, rq⟩ := r.two
    exact ⟨p, q, rfl, h1.now s1 (((e.mono x1.le).set i rp).set j rq)⟩
  · exact h1.elim
/-- t1 = t2 = e -/
def asg2S (m : CE) (t1 t2 : GT) : SC := fun v S => (m v S).bindS v fun d S1 => match t1 d v S1 with
  | some (v1, S2) => match t2 d v1 S2 with
    | some (v2, S3) => .nx v2 S3
    | none => .bad
  | none => .bad
theorem ss_asg2 {g1 g2 : Expr} {t1 t2 : GT} {sl1 sl2 : List Nat} (h : SD ca X W e m) (hg1 : PG X g1 (rdG ca sl1 t1)) (hg2 : PG X g2 (rdG ca sl2 t2)) (ha : (assignEach [g1, g2] X.env).map (·.2) = [assign g1 X.env, assign g2 X.env] := by rfl) (hw : swappedStores [g1, g2] e X.env = pure none := by rfl) :
    PS X (.Assign [g1, g2] e pos) (rdS ca W (asg2S m t1 t2)) := PS_imp (ps_asg2 h.pe hg1 hg2 ha hw) fun D σ H ⟨v, S, g, s, e, h⟩ => by
  refine ⟨v, S, g, s, e, (FinS.ofE h e).imp (fun d g1 H1 x1 ⟨S1, s1, h1⟩ x r => ⟨v, g1, S1, d, s1, e.mono x1.le, r, ?_⟩) fun _ _ _ _ z => z⟩
  split at h1
  · rename_i v1 S2 e1
    rw [e1]
    intro g2 H2 x2 s2 σ2 e2 _
    exact ⟨v1, g2, S2, d, s2, e2, r.mono x2.le, FinO.ofS (FinS.mono h1 x2)⟩
  · exact h1.elim
/-! ### fields -/
def setF (cs : List Nat) (f : Str) (o y : D) (S : S3) : Option S3 := match cellOf o with
  | some n => match S.cs n with
    | some (.ins c fs) => if cs.contains c && decide (fs.length < 1000) then some (S.set n (.ins c (putA fs f y))) else none
    | _ => none
  | none => none
def fldS (cs : List Nat) (f : Str) (mo mv : CE) : SC := fun v S => (mv v S).bindS v fun y S1 => (mo v S1).bindS v fun o S2 => match setF cs f o y S2 with
  | some S3 => .nx v S3
  | none => .bad
theorem setF_ok {g : Wld} {S S' : S3} {H : Hp} {cs : List Nat} {f : Str} {o y : D} {ov yv : V} (s : Sim ca g S H) (ro : Rep ca g ov o) (ry : Rep ca g yv y) (h : setF cs f o y S = some S') :
    ∃ a C dx fs, ov = .ref a ∧ H a = some (.ins C dx fs) ∧ (∃ c, cs.contains c = true ∧ C = ca c) ∧ fs.length < 1000 ∧ ∀ dx', Ext g H g (upd H a (.ins C dx' (putF f yv fs))) ∧ Sim ca g S' (upd H a (.ins C dx' (putF f yv fs))) := by
  unfold setF at h
  split at h
  · rename_i n en
    cases cellOf_eq en
    split at h
    · rename_i c fs hc
      split at h
      · rename_i hz
        cases h
        rw [Bool.and_eq_true] at hz
        have hl : n ∉ S.lk := s.nolk hc (fun z => z)
        obtain ⟨a, u, rfl, hph, ro', hp⟩ := s.cellOb ro hc hl
        cases ro' with
        | ins rf =>
          refine ⟨a, _, _, _, rfl, hp, ⟨c, hz.1, rfl⟩, by rw [rf.len]; exact of_decide_eq_true hz.2, fun dx' => ⟨Sim.extWrite (by rw [hp]; exact fun _ _ z => nomatch z) hph, s.write hph hc hl (.ins (RepF.put ry f rf))⟩⟩
      · cases h
    · cases h
  · cases h
theorem ss_fld {o value : Expr} {f : Str} {p' : Pos} {cs : List Nat} {mo mv : CE} (ho : SD ca X W o mo) (hv : SD ca X W value mv) (hC : ∀ c, cs.contains c = true → Cls X.K (ca c) ∧ NoAttr X.K (ca c) f) (hs : swapsWith value (some (.Attribute o f p')) pos.line X.env = pure false := by rfl) :
    PS X (.Assign [.Attribute o f p'] value pos) (rdS ca W (fldS cs f mo mv)) := PS_imp (ps_fld ho.pe hv.pe hs) fun D σ H ⟨v, S, g, s, e, h⟩ => by
  refine ⟨v, S, g, s, e, (FinS.ofE h e).imp (fun y g1 H1 x1 ⟨S1, s1, h1⟩ yv ry => ?_) fun _ _ _ _ z => z⟩
  refine ⟨v, S1, g1, s1, e.mono x1.le, (FinS.ofE h1 (e.mono x1.le)).imp (fun o g2 H2 x2 ⟨S2, s2, h2⟩ ov ro => ?_) fun _ _ _ _ z => z⟩
  split at h2
  · rename_i S3 e3
    obtain ⟨a, C, dx, fs, e1, e2, ⟨c, hc, rfl⟩, e6, q⟩ := setF_ok s2 ro (ry.mono x2.le) e3
    exact ⟨a, _, dx, fs, e1, e2, (hC c hc).1, (hC c hc).2, e6, h2 g2 _ σ (q dx).1 (q dx).2 (e.mono (x1.trans x2).le)⟩
  · exact h2.elim
/-- o.f op= value -/
def fldAug (cs : List Nat) (f : Str) (op : O2) (mo mv : CE) : SC := fun v S => (mo v S).bindS v fun o S1 => match insOf S1 o with
  | some (c, fs) => if cs.contains c then match getA fs f with
    | some x => (mv v S1).bindS v fun y S2 => match op x y S2 with
      | some (z, S3) => match setF [c] f o z S3 with
        | some S4 => .nx v S4
        | none => .bad
      | none => .bad
    | none => .bad
    else .bad
  | none => .bad
theorem ss_fldaug {o value : Expr} {f : Str} {tpos : Pos} {op : Operator} {cs : List Nat} {mo mv : CE} {fop : O2} (ho : SD ca X W o mo) (hv : SD ca X W value mv) (hop : InOp X op (rdO2 ca fop)) (hC : ∀ c, cs.contains c = true → Cls X.K (ca c) ∧ NoAttr X.K (ca c) f) :
    PS X (.AugAssign (.Attribute o f tpos) op value pos) (rdS ca W (fldAug cs f fop mo mv)) := PS_imp (ps_fldaug ho.pe hv.pe hop) fun D σ H ⟨v, S, g, s, e, h⟩ => by
  refine ⟨v, S, g, s, e, (FinS.ofE h e).imp (fun o g1 H1 x1 ⟨S1, s1, h1⟩ ov ro => ?_) fun _ _ _ _ z => z⟩
  split at h1
  · rename_i c fs hi
    split at h1
    · rename_i hc
      split at h1
      · rename_i x hx
        obtain ⟨p, dx, ws, rfl, hp, rf⟩ := s1.ins ro hi
        obtain ⟨w, ew, rw'⟩ := rf.get hx
        refine ⟨p, ca c, dx, ws, w, rfl, hp, (hC c hc).1, (hC c hc).2, ew, v, S1, g1, s1, e.mono x1.le, (FinS.ofE h1 (e.mono x1.le)).imp (fun y g2 H2 x2 ⟨S2, s2, h2⟩ yv ry => ?_) fun _ _ _ _ z => z⟩
        split at h2
        · rename_i z S3 ez
          refine ⟨g2, S2, x, y, s2, rw'.mono x2.le, ry, ?_⟩
          rw [ez]
          refine fun g3 H3 x3 s3 zv rz => ?_
          split at h2
          · rename_i S4 e4
            obtain ⟨a, C, dx', fs', e1, e2, ⟨c', hc', rfl⟩, e6, q⟩ := setF_ok s3 (ro.mono (x2.trans x3).le) rz e4
            cases e1
            have ec : c' = c := by simpa using hc'
            subst ec
            exact ⟨dx', fs', e2, e6, h2 g3 _ σ (x3.trans (q dx').1) (q dx').2 (e.mono ((x1.trans x2).trans x3).le)⟩
          · exact h2.elim
        · exact h2.elim
      · exact h1.elim
    · exact h1.elim
  · exact h1.elim
/-! ### for -/
def forL (t : GT) (b : SC) : List D → SC
  | [], v, S => .nx v S
  | d :: ds, v, S => match t d v S with
    | some (v1, S1) => match b v1 S1 with
      | .nx v2 S2 => forL t b ds v2 S2
      | .ct v2 S2 => forL t b ds v2 S2
      | .bk v2 S2 => .nx v2 S2
      | r => r
    | none => .bad
def unl (un : Option Nat) (r : SR) : SR := match un with
  | none => r
  | some n => match r with
    | .nx v S => if n ∈ S.lk then .nx v (S.unlock n) else .bad
    | .rt d S => if n ∈ S.lk then .rt d (S.unlock n) else .bad
    | _ => .bad
def forM (src : CS) (t : GT) (b : SC) : SC := fun v S => (src v S).bindS v fun p S1 => unl p.2 (forL t b p.1 v S1)
/-- what is wanted, be the dict that was walked locked or not -/
def unlA (X : Cx) (D : Ends) : Ends where
  nx := fun σ H => D.nx σ H ∨ ∃ d od u, H d = some (.frz od u) ∧ (∀ o' u', X.H_0 d ≠ some (.frz o' u')) ∧ D.nx σ (upd H d u)
  bk := fun σ H => D.bk σ H ∨ ∃ d od u, H d = some (.frz od u) ∧ (∀ o' u', X.H_0 d ≠ some (.frz o' u')) ∧ D.bk σ (upd H d u)
  ct := fun σ H => D.ct σ H ∨ ∃ d od u, H d = some (.frz od u) ∧ (∀ o' u', X.H_0 d ≠ some (.frz o' u')) ∧ D.ct σ (upd H d u)
  rt := fun v H => D.rt v H ∨ ∃ d od u, H d = some (.frz od u) ∧ (∀ o' u', X.H_0 d ≠ some (.frz o' u')) ∧ D.rt v (upd H d u)
theorem ps_unlA {t : TS} (h : PS X st t) : PS X st (fun D σ H => t (unlA X D) σ H) := by
  refine ⟨fun pins s σ H D I hw => thn (h.run pins s σ H _ I hw) fun f s1 q => ?_⟩
  cases f with
  | next =>
    obtain ⟨σ', H', I2, q⟩ := q
    rcases q with q | ⟨d, od, u, e, nf, q⟩
    · exact ⟨σ', H', I2, q⟩
    · exact ⟨σ', _, I2.unlock e nf, q⟩
  | brk =>
    obtain ⟨σ', H', I2, q⟩ := q
    rcases q with q | ⟨d, od, u, e, nf, q⟩
    · exact ⟨σ', H', I2, q⟩
    · exact ⟨σ', _, I2.unlock e nf, q⟩
  | cont =>
    obtain ⟨σ', H', I2, q⟩ := q
    rcases q with q | ⟨d, od, u, e, nf, q⟩
    · exact ⟨σ', H', I2, q⟩
    · exact ⟨σ', _, I2.unlock e nf, q⟩
  | ret v =>
    obtain ⟨x, σ', H', I2, r, q⟩ := q
    rcases q with q | ⟨d, od, u, e, nf, q⟩
    · exact ⟨x, σ', H', I2, r, q⟩
    · exact ⟨x, σ', _, I2.unlock e nf, r, q⟩
theorem FinS.unl {D : Ends} {g g1 : Wld} {H H1 : Hp} {S1 : S3} {un : Option Nat} {r : SR} (l : Lk X g H g1 H1 S1 un) (h : FinS ca W D g H (unl un r)) : FinS ca W (unlA X D) g1 H1 r := by
  cases un with
  | none =>
    have h := FinS.mono (show FinS ca W D g H r from h) (show Ext g H g1 H1 from l)
    cases r with
    | nx v S => exact fun g' H' σ' x s e => .inl (h g' H' σ' x s e)
    | bk v S => exact fun g' H' σ' x s e => .inl (h g' H' σ' x s e)
    | ct v S => exact fun g' H' σ' x s e => .inl (h g' H' σ' x s e)
    | rt d S => exact fun g' H' x s y r => .inl (h g' H' x s y r)
    | ex e v S => exact h
    | bad => exact h
  | some n =>
    cases r with
    | nx v S =>
      unfold M3.unl at h
      dsimp only at h
      split at h
      · rename_i hn
        intro g2 H2 σ2 x s e
        obtain ⟨p, o, ks, e1, nf, s2, x2⟩ := l.un x s hn
        exact .inr ⟨p, o, _, e1, nf, h g2 _ σ2 x2 s2 e⟩
      · exact h.elim
    | rt d S =>
      unfold M3.unl at h
      dsimp only at h
      split at h
      · rename_i hn
        intro g2 H2 x s y r
        obtain ⟨p, o, ks, e1, nf, s2, x2⟩ := l.un x s hn
        exact .inr ⟨p, o, _, e1, nf, h g2 _ x2 s2 y r⟩
      · exact h.elim
    | _ => exact h.elim
theorem ss_for {tg iter : Expr} {body : List Stmt} {src : CS} {t : GT} {b : SC} {sl : List Nat} (hp : PassesOwn (model X.prog X.w) X.A X.env X.xe) (hc : X.calm = true) (hi : PI X tg iter (rdI ca X W src)) (hg : PG X tg (rdG ca sl t)) (hb : PSs X body (rdS ca W b))
    (hs : ∀ x, foldedSetIterable iter X.env x = pure x := by intro _; rfl) : PS X (.For tg iter body [] pos) (rdS ca W (forM src t b)) := PS_imp (ps_unlA (ps_for hp hc hi hg hb hs)) fun D σ H ⟨v, S, g, s, e, h⟩ => by
  refine ⟨v, S, g, s, e, ?_⟩
  unfold forM at h
  cases q : src v S with
  | bad => rw [q] at h; exact h.elim
  | ex er S' =>
    rw [q] at h
    exact fun g' H' x s' => h g' H' σ x s' (e.mono x.le)
  | ok p S1 =>
    obtain ⟨ds, un⟩ := p
    rw [q] at h
    intro g1 H1 J lk le s1 wk
    have h1 : FinS ca W (unlA X D) g1 H1 (forL t b ds v S1) := FinS.unl lk h
    let P : Nat → St → Hp → Prop := fun i σ' H' => ∃ g' S' v', Ext g1 H1 g' H' ∧ Sim ca g' S' H' ∧ EnvR ca g' v' σ' ∧ FinS ca W (unlA X D) g' H' (forL t b (ds.drop i) v' S')
    refine ⟨fun i m σ' H' => m = ds.length - i ∧ i ≤ ds.length ∧ P i σ' H', ⟨ds.length, by simp, Nat.zero_le _, g1, S1, v, .refl _ _, s1, e.mono le, h1⟩, ?_⟩
    rintro i m σ' H' ⟨rfl, hi, g', S', v', x', s', e', h'⟩
    by_cases hlt : i < ds.length
    · refine .inr ⟨wk.go i g' H' S' hlt x'.w s', P (i + 1), fun σ2 H2 p2 => ⟨ds.length - (i + 1), by omega, rfl, hlt, p2⟩, fun x H2 y => ?_⟩
      obtain ⟨g2, x2, s2, r2⟩ := wk.yld i g' H' S' ds[i] x H2 (List.getElem?_eq_getElem hlt) x'.w s' y
      refine ⟨v', g2, S', ds[i], s2, e'.mono x2.le, r2, ?_⟩
      rw [List.drop_eq_getElem_cons hlt] at h'
      unfold forL at h'
      cases qt : t ds[i] v' S' with
      | none => rw [qt] at h'; exact h'.elim
      | some p =>
        obtain ⟨v1, S1'⟩ := p
        rw [qt] at h'
        refine fun g3 H3 x3 s3 σ3 e3 _ => ⟨v1, S1', g3, s3, e3, ?_⟩
        have h3 := FinS.mono h' (x2.trans x3)
        dsimp only at h3
        have x03 := (x'.trans x2).trans x3
        revert h3
        cases b v1 S1' with
        | nx v2 S2 => exact fun h3 g4 H4 σ4 x4 s4 e4 => ⟨g4, S2, v2, x03.trans x4, s4, e4, FinS.mono h3 x4⟩
        | ct v2 S2 => exact fun h3 g4 H4 σ4 x4 s4 e4 => ⟨g4, S2, v2, x03.trans x4, s4, e4, FinS.mono h3 x4⟩
        | bk v2 S2 => exact fun h3 => h3
        | rt d S2 => exact fun h3 => h3
        | ex er v2 S2 => exact fun h3 => h3
        | bad => exact fun h3 => h3
    · have ei : i = ds.length := by omega
      subst ei
      rw [List.drop_length] at h'
      exact .inl ⟨wk.stop g' H' S' x'.w s', h'.now s' e'⟩
/-! ### while -/
def whileF : Nat → CE → SC → SC
  | 0, _, _, _, _ => .bad
  | n + 1, c, b, v, S => (c v S).bindS v fun x S1 => match x with
    | .bl true => match b v S1 with
      | .nx v2 S2 => whileF n c b v2 S2
      | .ct v2 S2 => whileF n c b v2 S2
      | .bk v2 S2 => .nx v2 S2
      | r => r
    | .bl false => .nx v S1
    | _ => .bad
theorem ss_while {body : List Stmt} {b : SC} (n : Nat) (hp : PassesOwn (model X.prog X.w) X.A X.env X.xe) (hc : SD ca X W c mc) (hb : PSs X body (rdS ca W b)) : PS X (.While c body [] pos) (rdS ca W (whileF n mc b)) := PS_imp (ps_while hp hc.pt hb) fun D σ H h => by
  refine ⟨fun n σ H => rdS ca W (whileF n mc b) D σ H, ⟨n, h⟩, ?_⟩
  rintro n σ H ⟨v, S, g, s, e, h⟩
  cases n with
  | zero => exact h.elim
  | succ n =>
    unfold whileF at h
    refine ⟨v, S, g, s, e, (FinS.ofE h e).imp (fun d g1 H1 x1 ⟨S1, s1, h1⟩ x r => ?_) fun _ _ _ _ z => z⟩
    split at h1
    · cases r
      refine ⟨true, rfl, iteT ⟨fun σ' H' => rdS ca W (whileF n mc b) D σ' H', fun σ' H' z => ⟨n, Nat.lt_succ_self n, z⟩, v, S1, g1, s1, e.mono x1.le, ?_⟩⟩
      revert h1
      cases b v S1 with
      | nx v2 S2 => exact fun h3 g4 H4 σ4 x4 s4 e4 => ⟨v2, S2, g4, s4, e4, FinS.mono h3 x4⟩
      | ct v2 S2 => exact fun h3 g4 H4 σ4 x4 s4 e4 => ⟨v2, S2, g4, s4, e4, FinS.mono h3 x4⟩
      | bk v2 S2 => exact fun h3 => h3
      | rt d S2 => exact fun h3 => h3
      | ex er v2 S2 => exact fun h3 => h3
      | bad => exact fun h3 => h3
    · cases r
      exact ⟨false, rfl, iteF (h1.now s1 (e.mono x1.le))⟩
    · exact h1.elim
/-! ### raise -/
/-- raise C("..") -/
def raiseM (c : Nat) : SC := fun v S => .ex ⟨c, []⟩ v S
theorem ss_raise {W' : WX} {c : Nat} (hc : X.calm = true) (tk : Takes X W') (hW : ∀ cls d σ H, W cls d σ H → W' cls d σ H) (h : PMk X e (fun _ H Q => Q (.ref (ca c)) none H)) : PS X (.Raise (some e) none pos) (rdS ca W (raiseM c)) := PS_imp (ps_raise hc tk h) fun D σ H ⟨v, S, g, s, e, h⟩ =>
  hW _ _ _ _ (h g H σ (.refl _ _) s e _ _ ⟨rfl, rfl⟩)
end
end M3
/-! M3K: what is walked, comprehensions. -/
namespace M3
open PySem L2
variable {ca : CAK}
section
variable {X : Cx} {W : WX} {e a b c tg : Expr} {m ma mb mc : CE} {ms : CA} {pos p apos cpos tpos : Pos} {elts : List Expr} {kk : Nat}
/-- a cell that is not to change any more becomes a tree -/
def frzM (m : CE) : CE := fun v S => (m v S).bind fun d S1 => match cellOf d with
  | some n => if n ∈ S1.lk then .bad else match S1.cs n with
    | some (.lst xs) => .ok (.lst xs) (S1.kill n)
    | some (.dic ks) => .ok (.dic ks) (S1.kill n)
    | some (.ins c fs) => .ok (.ins c fs) (S1.kill n)
    | none => .bad
  | none => .ok d S1
theorem sd_frz (h : SD ca X W e m) (hw : ∀ whole, isTrue e X.env whole = (do let v ← whole; standAt e.pos; holding [v] (truthy v)) := by intro _; rfl) : SD ca X W e (frzM m) := .of (PE_imp h.pe <| by
  rintro σ H Q ⟨v, S, g, s, e, h⟩
  refine ⟨v, S, g, s, e, (Fin.seq h).imp (fun d g1 H1 x1 ⟨S1, s1, h1⟩ xv rv => ?_) fun _ _ _ _ z => z⟩
  split at h1
  · rename_i n en
    cases cellOf_eq en
    split at h1
    · exact h1.elim
    · rename_i hl
      cases hc : S1.cs n with
      | none => rw [hc] at h1; exact h1.elim
      | some ob =>
        obtain ⟨a, u, hph, ro, hp, hu, s2, x2⟩ := s1.freeze hc hl
        cases rv with
        | cell ec =>
          rw [hph] at ec
          cases ec
          rw [hc] at h1
          cases ro with
          | lst r => exact h1 _ _ x2 s2 _ (.lst upd_same (r.mono x2.le))
          | dic r => exact h1 _ _ x2 s2 _ (.dic upd_same (r.mono x2.le))
          | ins r => exact h1 _ _ x2 s2 _ (.ins upd_same (r.mono x2.le))
  · exact h1 g1 H1 (.refl _ _) s1 _ rv) hw
/-! ### sources -/
theorem pi_any (hK : X.K = ca.K) (h : SD ca X W e m) : PI X tg e (rdI ca X W (anyS m)) := by
  refine ⟨fun pins s σ H R I ⟨v, S, g, sm, ev, hh⟩ => ?_⟩
  have h0 := FinI.seq (f := anyK) hh
  unfold anyS at hh
  cases q : m v S with
  | bad => rw [q] at hh; exact hh.elim
  | ex er S' =>
    rw [q] at hh
    refine (pi_list h.pe).run pins s σ H R I ⟨v, S, g, sm, ev, ?_⟩
    rw [q]
    exact hh
  | ok d S1 =>
    rw [q] at hh
    have hh : FinI ca X W g H σ R (anyK d S1) := hh
    unfold anyK at hh
    split at hh
    · rename_i ks hk
      refine (pi_keys (pe_lockA h.pe)).run pins s σ H R I ⟨v, S, g, sm, ev, ?_⟩
      rw [q]
      refine fun g1 H1 x1 s1 xv rv => dict_ready (X := X) (Q := fun x H1 => ∃ d o, x = .ref d ∧ ((∃ kvs, H1 d = some (.frz o (.dK kvs)) ∧ R (Itk d o kvs) H1) ∨ ∃ kvs, H1 d = some (.frz o (.dT kvs)) ∧ R (Itkt d o kvs) H1)) x1 s1 rv hk (ks.map fun kd => keyD kd.1) fun p o vs H2 S3 un' el ev' hp rk lk s2 => ⟨p, o, ev', .inl ⟨vs, hp, ?_⟩⟩
      rw [el] at hh
      exact hh g1 H2 _ lk x1.le s2 (walk_keys hp rk)
    · split at hh
      · refine (pi_list h.pe).run pins s σ H R I ⟨v, S, g, sm, ev, ?_⟩
        rw [q]
        refine fun g1 H1 x1 s1 xv rv => ?_
        cases rv with
        | lst ea ra => exact ⟨_, rfl, ⟨_, .inl (s1.frz _ _ ea)⟩, hh g1 H1 _ x1 x1.le s1 (walk_list ea ra)⟩
      · refine (pi_list h.pe).run pins s σ H R I ⟨v, S, g, sm, ev, ?_⟩
        rw [q]
        refine fun g1 H1 x1 s1 xv rv => ?_
        cases rv with
        | scrK ea ra => exact ⟨_, rfl, ⟨_, .inr (hK ▸ ea)⟩, hh g1 H1 _ x1 x1.le s1 (walk_listK (hK ▸ ea) ra)⟩
        | scrF ea ra => exact ⟨_, rfl, ⟨_, .inl (s1.frz _ _ ea)⟩, hh g1 H1 _ x1 x1.le s1 (walk_list ea ra)⟩
      · refine (pi_tup h.pe).run pins s σ H R I ⟨v, S, g, sm, ev, ?_⟩
        rw [q]
        refine fun g1 H1 x1 s1 xv rv => ?_
        cases rv with
        | tup ea ra => exact ⟨_, rfl, ⟨_, SqT.of (s1.frz _ _ ea)⟩, hh g1 H1 _ x1 x1.le s1 (walk_tup ea ra)⟩
      · refine (pi_str h.pe).run pins s σ H R I ⟨v, S, g, sm, ev, ?_⟩
        rw [q]
        refine fun g1 H1 x1 s1 xv rv => ?_
        cases rv
        exact ⟨_, rfl, hh g1 H1 _ x1 x1.le s1 walk_str⟩
      · split at hh
        · rename_i n _ xs hc
          refine (pi_list (pe_lockA h.pe)).run pins s σ H R I ⟨v, S, g, sm, ev, ?_⟩
          rw [q]
          refine fun g1 H1 x1 s1 xv rv => cellL_ready (X := X) (Q := fun x H1 => ∃ a, x = .ref a ∧ (∃ xs, SqL X.K H1 a xs) ∧ R (Itl X.K a) H1) x1 s1 rv hc xs fun p o vs H2 S3 un' el ev' hp rk lk s2 => ⟨p, ev', ⟨vs, .inl (.inr ⟨o, hp⟩)⟩, ?_⟩
          rw [el] at hh
          exact hh g1 H2 _ lk x1.le s2 (walk_listZ hp rk)
        · exact hh.elim
      · exact hh.elim
theorem pi_val (h : SD ca X W e m) (hbase : attributeBase e "values" X.env (eval e X.env) = eval e X.env := by rfl) (hline : (apos.endLine == cpos.line) = true := by rfl) : PI X tg (.Call (.Attribute e "values" apos) [] [] cpos) (rdI ca X W (valS m)) := by
  refine ⟨fun pins s σ H R I ⟨v, S, g, sm, ev, hh⟩ => ?_⟩
  refine (pi_values (pe_lockA h.pe) hbase hline).run pins s σ H R I ⟨v, S, g, sm, ev, (FinI.seq hh).imp (fun d g1 H1 x1 ⟨S1, s1, x1, h1⟩ xv rv => ?_) fun _ _ _ _ z => z⟩
  split at h1
  · rename_i ks hk
    refine dict_ready (X := X) (Q := fun x H1 => ∃ d o kvs, x = .ref d ∧ H1 d = some (.frz o (.dK kvs)) ∧ R (Itd d o kvs) H1) x1 s1 rv hk (ks.map fun kd => kd.2) fun p o vs H2 S3 un' el ev' hp rk lk s2 => ⟨p, o, vs, ev', hp, ?_⟩
    rw [el] at h1
    exact h1 g1 H2 _ lk x1.le s2 (walk_vals hp rk)
  · exact h1.elim
theorem pi_itm (h : SD ca X W e m) (hbase : attributeBase e "items" X.env (eval e X.env) = eval e X.env := by rfl) (hline : (apos.endLine == cpos.line) = true := by rfl) : PI X (.Tuple elts kk tpos) (.Call (.Attribute e "items" apos) [] [] cpos) (rdI ca X W (itmS m)) := by
  refine ⟨fun pins s σ H R I ⟨v, S, g, sm, ev, hh⟩ => ?_⟩
  refine (pi_items (pe_lockA h.pe) hbase hline).run pins s σ H R I ⟨v, S, g, sm, ev, (FinI.seq hh).imp (fun d g1 H1 x1 ⟨S1, s1, x1, h1⟩ xv rv => ?_) fun _ _ _ _ z => z⟩
  split at h1
  · rename_i ks hk
    refine dict_ready (X := X) (Q := fun x H1 => ∃ d o kvs, x = .ref d ∧ H1 d = some (.frz o (.dK kvs)) ∧ R (Iti d o kvs) H1) x1 s1 rv hk (ks.map fun kd => .tup [keyD kd.1, kd.2]) fun p o vs H2 S3 un' el ev' hp rk lk s2 => ⟨p, o, vs, ev', hp, ?_⟩
    rw [el] at h1
    exact h1 g1 H2 _ lk x1.le s2 (walk_items hp rk)
  · exact h1.elim
theorem pi_enm (hg : Gl X "enumerate") (hm : X.mg "enumerate" = none) (h : SD ca X W e m) (hs : starEach [e] X.env = [(false, eval e X.env)] := by rfl) (hs2 : starEach [e] X.env = (false, eval e X.env) :: starEach [] X.env := by rfl) : PI X (.Tuple elts kk tpos) (.Call (.Name "enumerate" p) [e] [] pos) (rdI ca X W (enmS m)) := by
  refine ⟨fun pins s σ H R I ⟨v, S, g, sm, ev, hh⟩ => ?_⟩
  refine (pi_enum hg hm (pa_cons (pe_lockA h.pe) pa_nil hs2) hs).run pins s σ H R I ⟨v, S, g, sm, ev, (FinI.seq hh).imp (fun d g1 H1 x1 ⟨S1, s1, x1, h1⟩ xv rv => ?_) fun _ _ _ _ z => z⟩
  split at h1
  · cases rv with
    | lst ea ra => exact .inl ⟨_, _, rfl, .inl (s1.frz _ _ ea), h1 g1 H1 _ x1 x1.le s1 (walk_enum ea ra)⟩
  · split at h1
    · rename_i n _ xs hc
      refine cellL_ready (X := X) (Q := fun x H1 => ∃ a xs, [x] = [.ref a] ∧ SqL X.K H1 a xs ∧ R (Ite X.K a) H1) x1 s1 rv hc (enumD 0 xs) fun p o vs H2 S3 un' el ev' hp rk lk s2 => ⟨p, vs, by rw [ev'], .inl (.inr ⟨o, hp⟩), ?_⟩
      rw [el] at h1
      exact h1 g1 H2 _ lk x1.le s2 (walk_enumZ hp rk)
    · exact h1.elim
  · exact h1.elim
theorem fit62_eq {i : Int} (h : fit62 i = true) : -(2 ^ 62) ≤ i ∧ i < 2 ^ 62 := of_decide_eq_true h
theorem RepL.three {g : Wld} {vs : List V} {d e f : D} (r : RepL ca g vs [d, e, f]) : ∃ v w x, vs = [v, w, x] ∧ Rep ca g v d ∧ Rep ca g w e ∧ Rep ca g x f := by
  cases r with
  | cons r t =>
    obtain ⟨v, w, rfl, h1, h2⟩ := t.two
    exact ⟨_, _, _, rfl, r, h1, h2⟩
def rng1S (ms : CA) : CS := fun v S => (ms v S).bind fun xs S1 => match xs with
  | [.int j] => if fit62 j then .ok (intsD 0 1 j.toNat, none) S1 else .bad
  | _ => .bad
def rng2S (ms : CA) : CS := fun v S => (ms v S).bind fun xs S1 => match xs with
  | [.int i, .int j] => if fit62 i && fit62 j then .ok (intsD i 1 (j - i).toNat, none) S1 else .bad
  | _ => .bad
def rng3S (ms : CA) : CS := fun v S => (ms v S).bind fun xs S1 => match xs with
  | [.int i, .int j, .int c] => if decide (c ≠ 0) && decide (c.natAbs < 1073741824) && Builtin.Range.small i j c && decide (Builtin.Range.rangeSize i j c = ((Builtin.Range.rangeSize i j c).toNat : Int)) then .ok (intsD i c (Builtin.Range.rangeSize i j c).toNat, none) S1 else .bad
  | _ => .bad
theorem pi_rng1 (hg : Gl X "range") (hm : X.mg "range" = none) (h : PA X [a] (rdA ca W ms)) (hs : starEach [a] X.env = [(false, eval a X.env)] := by rfl) : PI X tg (.Call (.Name "range" p) [a] [] pos) (rdI ca X W (rng1S ms)) := by
  refine ⟨fun pins s σ H R I ⟨v, S, g, sm, ev, hh⟩ => ?_⟩
  refine (pi_range1 hg hm h hs).run pins s σ H R I ⟨v, S, g, sm, ev, (FinI.seq hh).imp (fun ds g1 H1 x1 ⟨S1, s1, x1, h1⟩ xs rv => ?_) fun _ _ _ _ z => z⟩
  split at h1
  · split at h1
    · rename_i hj
      obtain ⟨x, rfl, rd⟩ := rv.one
      cases rd
      exact ⟨_, rfl, (fit62_eq hj).1, (fit62_eq hj).2, h1 g1 H1 _ x1 x1.le s1 walk_range⟩
    · exact h1.elim
  · exact h1.elim
theorem pi_rng2 (hg : Gl X "range") (hm : X.mg "range" = none) (h : PA X [a, b] (rdA ca W ms)) (hs : starEach [a, b] X.env = [(false, eval a X.env), (false, eval b X.env)] := by rfl) (hs2 : starEach [b] X.env = [(false, eval b X.env)] := by rfl) : PI X tg (.Call (.Name "range" p) [a, b] [] pos) (rdI ca X W (rng2S ms)) := by
  refine ⟨fun pins s σ H R I ⟨v, S, g, sm, ev, hh⟩ => ?_⟩
  refine (pi_range2 hg hm h hs hs2).run pins s σ H R I ⟨v, S, g, sm, ev, (FinI.seq hh).imp (fun ds g1 H1 x1 ⟨S1, s1, x1, h1⟩ xs rv => ?_) fun _ _ _ _ z => z⟩
  split at h1
  · split at h1
    · rename_i hj
      rw [Bool.and_eq_true] at hj
      obtain ⟨x, y, rfl, rd, ry⟩ := rv.two
      cases rd; cases ry
      exact ⟨_, _, rfl, ⟨(fit62_eq hj.1).1, (fit62_eq hj.1).2, (fit62_eq hj.2).1, (fit62_eq hj.2).2⟩, h1 g1 H1 _ x1 x1.le s1 walk_range⟩
    · exact h1.elim
  · exact h1.elim
theorem pi_rng3 (hg : Gl X "range") (hm : X.mg "range" = none) (h : PA X [a, b, c] (rdA ca W ms)) (hs : starEach [a, b, c] X.env = (false, eval a X.env) :: starEach [b, c] X.env := by rfl) (hpl : (backTo pos (starEach [b, c] X.env)).any (·.1) = false := by rfl) : PI X tg (.Call (.Name "range" p) [a, b, c] [] pos) (rdI ca X W (rng3S ms)) := by
  refine ⟨fun pins s σ H R I ⟨v, S, g, sm, ev, hh⟩ => ?_⟩
  refine (pi_range3 hg hm h hs hpl).run pins s σ H R I ⟨v, S, g, sm, ev, (FinI.seq hh).imp (fun ds g1 H1 x1 ⟨S1, s1, x1, h1⟩ xs rv => ?_) fun _ _ _ _ z => z⟩
  split at h1
  · split at h1
    · rename_i hj
      simp only [Bool.and_eq_true, decide_eq_true_eq] at hj
      obtain ⟨x, y, z, rfl, rd, ry, rz⟩ := rv.three
      cases rd; cases ry; cases rz
      exact ⟨_, _, _, _, rfl, ⟨hj.1.1.1, hj.1.1.2, hj.1.2, hj.2⟩, h1 g1 H1 _ x1 x1.le s1 walk_rangeC⟩
    · exact h1.elim
  · exact h1.elim
/-! ### comprehensions -/
def wipeD (v : Ev) : List Nat → Ev
  | [] => v
  | i :: r => (wipeD v r).set i none
theorem EnvR.wipe {g : Wld} {v : Ev} {σ : St} (e : EnvR ca g v σ) : ∀ vs : List Nat, EnvR ca g (wipeD v vs) (L2.wipe σ vs)
  | [] => e
  | i :: r => (EnvR.wipe e r).unset i
theorem wipe_at {σ : St} {j : Nat} : ∀ {vs : List Nat}, j ∈ vs → j < σ.length → (L2.wipe σ vs)[j]? = some none
  | [], h, _ => by cases h
  | i :: r, h, hl => by
    show ((L2.wipe σ r).set i none)[j]? = _
    by_cases hj : i = j
    · subst hj
      rw [List.getElem?_set_self (by rw [wipe_length]; exact hl)]
    · rw [List.getElem?_set_ne hj]
      exact wipe_at ((List.mem_cons.mp h).resolve_left (fun z => hj z.symm)) hl
theorem wipe_off {σ σ' : St} {sl vs : List Nat} (h : Off sl σ σ') (hs : ∀ j, j ∈ sl → j ∈ vs) : L2.wipe σ' vs = L2.wipe σ vs := by
  apply List.ext_getElem?
  intro j
  by_cases hj : j ∈ vs
  · by_cases hl : j < σ.length
    · rw [wipe_at hj hl, wipe_at hj (by rw [h.1]; exact hl)]
    · rw [List.getElem?_eq_none (by rw [wipe_length, h.1]; omega), List.getElem?_eq_none (by rw [wipe_length]; omega)]
  · rw [wipe_out hj, wipe_out hj]
    exact h.2 j fun z => hj (hs j z)
theorem wipe_wipe {σ : St} (vs : List Nat) : L2.wipe (L2.wipe σ vs) vs = L2.wipe σ vs := by
  apply List.ext_getElem?
  intro j
  by_cases hj : j ∈ vs
  · by_cases hl : j < σ.length
    · rw [wipe_at hj hl, wipe_at hj (by rw [wipe_length]; exact hl)]
    · rw [List.getElem?_eq_none (by rw [wipe_length, wipe_length]; omega), List.getElem?_eq_none (by rw [wipe_length]; omega)]
  · rw [wipe_out hj]
/-- tests: one, or none -/
def yesT : CE := fun _ S => .ok (.bl true) S
variable (ca)
def WF : WX := fun _ _ _ _ => False
structure SDT (X : Cx) (ifs : List Expr) (m : CE) : Prop where
  pts : PTs X ifs (tTest (rdE ca WF m))
variable {ca}
theorem PTs_imp {X : Cx} {e : List Expr} {t t' : TT} (h : PTs X e t) (i : ∀ σ H Q, t' σ H Q → t σ H Q) : PTs X e t' := ⟨fun pins s σ H Q I q => h.run pins s σ H Q I (i σ H Q q)⟩
theorem sdt_nil : SDT ca X [] yesT := ⟨PTs_imp pts_nil fun σ H Q ⟨v, S, g, s, e, h⟩ => by
  obtain ⟨k, ek, q⟩ := h g H (.refl _ _) s _ (.bl true)
  cases ek
  exact q⟩
theorem sdt_one (h : SD ca X WF c mc) : SDT ca X [c] mc := ⟨pts_one h.pt⟩
/-- a thing beside the world comes into it as a cell -/
theorem Sim.adoptC {g : Wld} {S : S3} {H : Hp} {p : Addr} {u : HO} (s : Sim ca g S H) (hp : Out g p) (hH : H p = some u) {ob : Ob} (r : RepO ca (g.cell p) ob u) : Sim ca (g.cell p) (S.new ob) H where
  len := by show (g.ph ++ [p]).length = S.nx + 1; rw [List.length_append, s.len]; rfl
  inj := by
    show (g.ph ++ [p]).Nodup
    refine List.nodup_append.mpr ⟨s.inj, by simp, fun a ha b hb e => ?_⟩
    have hb : b = p := by simpa using hb
    subst hb e
    obtain ⟨n, hn⟩ := List.getElem?_of_mem ha
    exact hp.1 n hn
  frz := fun a w e => s.frz a w e
  cel := fun n o e => by
    have e : (if n = S.nx then some ob else S.cs n) = some o := (condN _ _ _ _).symm.trans e
    by_cases hn : n = S.nx
    · rw [if_pos hn] at e
      cases e
      refine ⟨p, u, by rw [hn, ← s.len]; exact get_snoc _ _, hp.2, r, fun m => ?_, fun _ => hH⟩
      exact absurd (s.lk_lt m) (by rw [hn]; exact Nat.lt_irrefl _)
    · rw [if_neg hn] at e
      obtain ⟨a, w, h1, h2, h3, h4⟩ := s.cel n o e
      exact ⟨a, w, get_app h1, h2, h3.mono (Sim.leCell g p), h4⟩
  old := fun n a e => by
    have e : (g.ph ++ [p])[n]? = some a := e
    by_cases hn : n < g.ph.length
    · rw [List.getElem?_append_left hn] at e
      exact s.old n a e
    · rw [List.getElem?_append_right (by omega)] at e
      have : a ∈ [p] := List.mem_of_getElem? e
      have e' : a = p := by simpa using this
      rw [e', hH]; exact fun z => nomatch z
  lkd := fun n m => by
    obtain ⟨ks, e, hb⟩ := s.lkd n m
    refine ⟨ks, ?_, hb⟩
    refine (condN _ _ _ _).trans ?_
    rw [if_neg (Nat.ne_of_lt (s.lk_lt m))]
    exact e
theorem Sim.extAdoptC {g : Wld} {H : Hp} {p : Addr} {g0 : Wld} {H0 : Hp} (x : Ext g0 H0 g H) (h0 : H0 p = none) : Ext g0 H0 (g.cell p) H where
  le := x.le.trans (Sim.leCell g p)
  fz := x.fz
  old := x.old
  nph := fun n a e => by
    have e : (g.ph ++ [p])[n]? = some a := e
    by_cases hn : n < g.ph.length
    · rw [List.getElem?_append_left hn] at e
      exact x.nph n a e
    · rw [List.getElem?_append_right (by omega)] at e
      have : a ∈ [p] := List.mem_of_getElem? e
      have e' : a = p := by simpa using this
      exact .inr (e' ▸ h0)
  nfr := x.nfr
  rest := x.rest
/-- a thing beside the world is written: later all the same -/
theorem Ext.updOut {g g' : Wld} {H H' : Hp} (x : Ext g H g' H') {p : Addr} (hp : H p = none) (o : HO) : Ext g H g' (L2.upd H' p o) := x.upd hp o
theorem pe_unlA {td : TE} (h : PE X e td) : PE X e (fun σ H Q => td σ H fun x H1 => Q x H1 ∨ ∃ d od u, H1 d = some (.frz od u) ∧ (∀ o' u', X.H_0 d ≠ some (.frz o' u')) ∧ Q x (upd H1 d u)) := by
  refine ⟨fun pins s σ H Q I hw => thn (h.run pins s σ H _ I hw) fun v s1 ⟨x, H1, I1, r1, q1⟩ => ?_⟩
  rcases q1 with q1 | ⟨d, od, u, e1, nf, q1⟩
  · exact ⟨x, H1, I1, r1, q1⟩
  · exact ⟨x, _, I1.unlock e1 nf, r1, q1⟩
def noEx {α : Type} (r : R α) : R α := match r with
  | .ex _ _ => .bad
  | r => r
theorem Fin.noEx {α : Type} {g : Wld} {H : Hp} {r : R α} {QO : α → Wld → Hp → Prop} {QE QE' : Exn → Wld → Hp → Prop} (h : Fin ca g H (noEx r) QO QE) : Fin ca g H r QO QE' := by
  cases r with
  | ok a S => exact h
  | ex e S => exact h.elim
  | bad => exact h
theorem R.bind_assoc {α β γ : Type} (r : R α) (f : α → S3 → R β) (h : β → S3 → R γ) : (r.bind f).bind h = r.bind fun a S => (f a S).bind h := by cases r <;> rfl
/-- the items of a list comprehension -/
def lcL (t : GT) (c el : CE) (v : Ev) : List D → S3 → R (List D)
  | [], S => .ok [] S
  | d :: ds, S => match t d v S with
    | some (v1, S1) => (noEx (c v1 S1)).bind fun b S2 => match b with
      | .bl true => (noEx (el v1 S2)).bind fun y S3 => (lcL t c el v ds S3).bind fun ys S4 => .ok (y :: ys) S4
      | .bl false => lcL t c el v ds S2
      | _ => .bad
    | none => .bad
/-- unlocked behind -/
def unlR {α : Type} (un : Option Nat) (r : R α) : R α := match un with
  | none => r
  | some n => match r with
    | .ok d S => if n ∈ S.lk then .ok d (S.unlock n) else .bad
    | _ => .bad
def lcM (vs : List Nat) (src : CS) (t : GT) (c el : CE) (fin : List D → S3 → R D) : CE := fun v S => (src v S).bind fun p S1 => if p.1.length ≤ lim then (unlR p.2 (lcL t c el (wipeD v vs) p.1 S1)).bind fin else .bad
def finT : List D → S3 → R D := fun xs S => .ok (.lst xs) S
def finC : List D → S3 → R D := fun xs S => .ok (.cell S.nx) (S.new (.lst xs))
theorem Fin.seqB {α β : Type} {gB g : Wld} {HB H : Hp} {r : R α} {f : α → S3 → R β} {QO : β → Wld → Hp → Prop} {QE : Exn → Wld → Hp → Prop} (h : Fin ca gB HB (r.bind f) QO QE) (x : Ext gB HB g H) :
    Fin ca g H r (fun a g' H' => ∃ S', Sim ca g' S' H' ∧ Ext g H g' H' ∧ Ext gB HB g' H' ∧ Fin ca gB HB (f a S') QO QE) QE := by
  cases r with
  | ok a S => exact fun g' H' x' s => ⟨S, s, x', x.trans x', h⟩
  | ex e S => exact fun g' H' x' s => h g' H' (x.trans x') s
  | bad => exact h
theorem Lk.none {g g1 : Wld} {H H1 : Hp} {S1 : S3} {un : Option Nat} (l : Lk X g H g1 H1 S1 un) {D : Addr} (h : H1 D = none) : H D = none := by
  cases e : H D with
  | none => rfl
  | some o =>
    cases un with
    | none => exact absurd h (Ext.old l D (by rw [e]; exact fun z => nomatch z))
    | some n =>
      obtain ⟨p, o', ks, h1, h2, _, h3, h4, h5⟩ := l
      have := h5.old D (by rw [e]; exact fun z => nomatch z)
      by_cases hp : D = p
      · rw [hp, h2] at h; cases h
      · rw [upd_ne hp] at this
        exact absurd h this
/-- what holds of a run, the walked dict unlocked behind it -/
def Un2 (X : Cx) (Z : Wld → Hp → Prop) (g2 : Wld) (H2 : Hp) : Prop := Z g2 H2 ∨ ∃ d od u, H2 d = some (.frz od u) ∧ (∀ o' u', X.H_0 d ≠ some (.frz o' u')) ∧ Z g2 (upd H2 d u)
theorem unlR_ok {α β : Type} {g g1 : Wld} {H H1 : Hp} {S1 : S3} {un : Option Nat} {r : R α} {f : α → S3 → R β} {QO : β → Wld → Hp → Prop} {QE QE' : Exn → Wld → Hp → Prop} (l : Lk X g H g1 H1 S1 un) (h : Fin ca g H ((unlR un (noEx r)).bind f) QO QE) :
    Fin ca g1 H1 r (fun a => Un2 X fun g2 H2 => ∃ S', Sim ca g2 S' H2 ∧ Ext g H g2 H2 ∧ Fin ca g H (f a S') QO QE) QE' := by
  cases un with
  | none =>
    cases r with
    | ok a S => exact fun g' H' x s => .inl ⟨S, s, Ext.trans l x, h⟩
    | ex e S => exact h.elim
    | bad => exact h
  | some n =>
    cases r with
    | ok a S =>
      have h : Fin ca g H ((if n ∈ S.lk then R.ok a (S.unlock n) else .bad).bind f) QO QE := h
      split at h
      · rename_i hn
        intro g2 H2 x s
        obtain ⟨p, o, ks, e1, nf, s2, x2⟩ := l.un x s hn
        exact .inr ⟨p, o, _, e1, nf, _, s2, x2, h⟩
      · exact h.elim
    | _ => exact h.elim
/-- how a new list, a new dict comes into the world -/
def FinOk (ca : CAK) {α β : Type} (mk : List β → HO) (rep : Wld → List β → List α → Prop) (fin : List α → S3 → R D) : Prop := ∀ {g g2 : Wld} {H H2 : Hp} {S' : S3} {D : Addr} {vs : List β} {ds : List α} {Q : VK} {QE : Exn → Wld → Hp → Prop},
  Sim ca g2 S' H2 → Ext g H g2 H2 → H D = none → Out g2 D → H2 D = some (mk vs) → rep g2 vs ds → Fin ca g H (fin ds S') (fun d g' H' => ∀ x, Rep ca g' x d → Q x H') QE → Q (.ref D) H2
theorem finT_ok : FinOk ca HO.lst (RepL ca) finT := fun s x h0 o hD r h => h _ _ (s.extAdopt x h0 o) (s.adopt o hD True.intro) _ (.lst upd_same (r.mono (Wld.leOut o.2)))
theorem finC_ok : FinOk ca HO.lst (RepL ca) finC := fun s x h0 o hD r h => h _ _ (Sim.extAdoptC x h0) (s.adoptC o hD (.lst (r.mono (Sim.leCell _ _)))) _ (.cell (by rw [← s.len]; exact get_snoc _ _))
def finDT : List (Key × D) → S3 → R D := fun xs S => .ok (.dic xs) S
def finDC : List (Key × D) → S3 → R D := fun xs S => .ok (.cell S.nx) (S.new (.dic xs))
theorem finDT_ok : FinOk ca HO.dK (RepK ca) finDT := fun s x h0 o hD r h => h _ _ (s.extAdopt x h0 o) (s.adopt o hD True.intro) _ (.dic upd_same (r.mono (Wld.leOut o.2)))
theorem finDC_ok : FinOk ca HO.dK (RepK ca) finDC := fun s x h0 o hD r h => h _ _ (Sim.extAdoptC x h0) (s.adoptC o hD (.dic (r.mono (Sim.leCell _ _)))) _ (.cell (by rw [← s.len]; exact get_snoc _ _))
theorem Un2.fin {α β : Type} {mk : List β → HO} {rep : Wld → List β → List α → Prop} {fin : List α → S3 → R D} (hf : FinOk ca mk rep fin) (hmk : ∀ vs o u, mk vs ≠ .frz o u) {g g2 : Wld} {H H2 : Hp} {D : Addr} {vs : List β} {ds : List α} {Q : VK} {QE : Exn → Wld → Hp → Prop}
    (z : Un2 X (fun g2 H2 => ∃ S', Sim ca g2 S' H2 ∧ Ext g H g2 H2 ∧ Fin ca g H (fin ds S') (fun d g' H' => ∀ x, Rep ca g' x d → Q x H') QE) g2 H2) (h0 : H D = none) (o : Out g2 D) (hD : H2 D = some (mk vs)) (r : rep g2 vs ds) :
    Q (.ref D) H2 ∨ ∃ d od u, H2 d = some (.frz od u) ∧ (∀ o' u', X.H_0 d ≠ some (.frz o' u')) ∧ Q (.ref D) (upd H2 d u) := by
  rcases z with ⟨S', s, x, h⟩ | ⟨d, od, u, e, nf, S', s, x, h⟩
  · exact .inl (hf s x h0 o hD r h)
  · have hne : D ≠ d := fun z => by rw [← z, hD] at e; exact hmk _ _ _ (Option.some.inj e)
    exact .inr ⟨d, od, u, e, nf, hf s x h0 o (by rw [upd_ne hne]; exact hD) r h⟩
def lcM' (vs : List Nat) (src : CS) (t : GT) (c el : CE) (fin : List D → S3 → R D) : CE := fun v S => (src v S).bind fun p S1 => if p.1.length ≤ lim then (unlR p.2 (noEx (lcL t c el (wipeD v vs) p.1 S1))).bind fin else .bad
theorem lc_rd {vs : List Nat} {src : CS} {t : GT} {sl : List Nat} {mt me : CE} {fin : List D → S3 → R D} (hf : FinOk ca HO.lst (RepL ca) fin) (hsl : ∀ j, j ∈ sl → j ∈ vs) : ∀ σ H Q, rdE ca W (lcM' vs src t mt me fin) σ H Q →
    tLc (rdI ca X W src) (rdG ca sl t) (tTest (rdE ca WF mt)) (rdE ca WF me) vs σ H (fun x H1 => Q x H1 ∨ ∃ d od u, H1 d = some (.frz od u) ∧ (∀ o' u', X.H_0 d ≠ some (.frz o' u')) ∧ Q x (upd H1 d u)) := by
  rintro σ H Q ⟨v, S, g, s, e, h⟩
  refine ⟨v, S, g, s, e, ?_⟩
  unfold lcM' at h
  cases q : src v S with
  | bad => rw [q] at h; exact h.elim
  | ex er S' => rw [q] at h; exact h
  | ok p S1 =>
    obtain ⟨ds, un⟩ := p
    rw [q] at h
    intro g1 H1 J lk le s1 wk D hD
    have h : Fin ca g H (if ds.length ≤ lim then (unlR un (noEx (lcL t mt me (wipeD v vs) ds S1))).bind fin else .bad) (fun d g' H' => ∀ x, Rep ca g' x d → Q x H') _ := h
    split at h
    · rename_i hz
      have h0 := lk.none hD
      have h1 := unlR_ok (QE' := fun _ _ _ => False) lk h
      clear h
      have e0 : EnvR ca g1 (wipeD v vs) (wipe σ vs) := (e.mono le).wipe vs
      let P : Nat → Hp → Prop := fun i H' => ∃ g' S' acc accV, Ext g1 H1 g' H' ∧ Sim ca g' S' H' ∧ Out g' D ∧ H' D = some (.lst accV) ∧ RepL ca g' accV acc ∧ acc.length ≤ i ∧
        Fin ca g1 H1 ((lcL t mt me (wipeD v vs) (ds.drop i) S').bind fun ys S4 => .ok (acc ++ ys) S4) (fun a => Un2 X fun g2 H2 => ∃ S', Sim ca g2 S' H2 ∧ Ext g H g2 H2 ∧ Fin ca g H (fin a S') (fun d g' H' => ∀ x, Rep ca g' x d → Q x H') (fun e g' H' => ∀ cls od, RepX ca g' H' cls od e → W cls od σ H')) (fun _ _ _ => False)
      have start : P 0 (upd H1 D (.lst [])) := by
        refine ⟨g1, S1, [], [], (Ext.refl g1 H1).upd hD _, s1.updOut (s1.freshOut hD), s1.freshOut hD, upd_same, .nil, Nat.le_refl _, ?_⟩
        rw [List.drop_zero]
        revert h1
        cases lcL t mt me (wipeD v vs) ds S1 with
        | ok a S => exact fun h1 => h1
        | ex a S => exact fun h1 => h1
        | bad => exact fun h1 => h1
      refine ⟨fun i m H' => m = ds.length - i ∧ i ≤ ds.length ∧ P i H', ⟨ds.length, by simp, Nat.zero_le _, start⟩, ?_⟩
      rintro i m H' ⟨rfl, hi, g', S', acc, accV, x', s', o', hD', r', hl, h'⟩
      by_cases hlt : i < ds.length
      · refine .inr ⟨wk.go i g' H' S' hlt x'.w s', P (i + 1), fun H2 p2 => ⟨ds.length - (i + 1), by omega, rfl, hlt, p2⟩, fun x H2 y => ?_⟩
        obtain ⟨g2, x2, s2, r2⟩ := wk.yld i g' H' S' ds[i] x H2 (List.getElem?_eq_getElem hlt) x'.w s' y
        have x12 := x'.trans x2
        refine ⟨wipeD v vs, g2, S', ds[i], s2, e0.mono x12.le, r2, ?_⟩
        rw [List.drop_eq_getElem_cons hlt] at h'
        unfold lcL at h'
        cases qt : t ds[i] (wipeD v vs) S' with
        | none => rw [qt] at h'; exact h'.elim
        | some p =>
          obtain ⟨v1, S1'⟩ := p
          rw [qt] at h'
          refine fun g3 H3 x3 s3 σ3 e3 off => ⟨(wipe_off off hsl).trans (wipe_wipe vs), v1, S1', g3, s3, e3, ?_⟩
          dsimp only at h'
          rw [R.bind_assoc] at h'
          refine (Fin.noEx (Fin.seqB h' (x12.trans x3))).imp (fun d g4 H4 x4 ⟨S4, s4, x4', x14, h4⟩ bv rb => ?_) fun _ _ _ _ z => z
          have xD : Ext g' H' g4 H4 := (x2.trans x3).trans x4
          have oD4 := xD.out o' (by rw [hD']; exact fun z => nomatch z)
          have hD4 := xD.rest D _ hD' o'
          split at h4
          · cases rb
            refine ⟨true, rfl, iteT ⟨v1, S4, g4, s4, e3.mono x4.le, ?_⟩⟩
            rw [R.bind_assoc] at h4
            refine (Fin.noEx (Fin.seqB h4 x14)).imp (fun d5 g5 H5 x5 ⟨S5, s5, x5', x15, h5⟩ yv ry => ?_) fun _ _ _ _ z => z
            have hD5 := x5.rest D _ hD4 oD4
            have oD5 := x5.out oD4 (by rw [hD4]; exact fun z => nomatch z)
            have hl5 : accV.length = acc.length := r'.len
            have l0 : acc.length < lim := Nat.lt_of_lt_of_le (Nat.lt_of_le_of_lt hl hlt) hz
            refine ⟨accV, hD5, by rw [hl5]; exact Nat.lt_of_lt_of_le l0 lim_le, g5, S5, acc ++ [d5], accV ++ [yv], x15.upd hD _, s5.updOut oD5, oD5, upd_same, (r'.mono (xD.trans x5).le).app (.cons ry .nil), by rw [List.length_append]; exact Nat.succ_le_succ hl, ?_⟩
            rw [R.bind_assoc] at h5
            revert h5
            cases lcL t mt me (wipeD v vs) (ds.drop (i + 1)) S5 with
            | ok a S =>
              intro h5
              have ea : acc ++ [d5] ++ a = acc ++ (d5 :: a) := by rw [List.append_assoc]; rfl
              show Fin ca g1 H1 (.ok (acc ++ [d5] ++ a) S) _ _
              rw [ea]
              exact h5
            | ex a S => exact fun h5 => h5
            | bad => exact fun h5 => h5
          · cases rb
            exact ⟨false, rfl, iteF ⟨g4, S4, acc, accV, x14, s4, oD4, hD4, r'.mono xD.le, Nat.le_succ_of_le hl, h4⟩⟩
          · exact h4.elim
      · have ei : i = ds.length := by omega
        subst ei
        rw [List.drop_length] at h'
        have h' : Fin ca g1 H1 (.ok (acc ++ []) S') _ _ := h'
        rw [List.append_nil] at h'
        exact .inl ⟨wk.stop g' H' S' x'.w s', Un2.fin (mk := HO.lst) (rep := RepL ca) (fin := fin) (vs := accV) (ds := acc) hf (fun _ _ _ z => nomatch z) (h' g' H' x' s') h0 o' hD' r'⟩
    · exact h.elim
theorem sd_lc {elt iter : Expr} {ifs : List Expr} {scope : Scope} {own : List (Str × Nat)} {src : CS} {t : GT} {sl : List Nat} {mt me : CE} {fin : List D → S3 → R D} (hf : FinOk ca HO.lst (RepL ca) fin) (hc : X.calm = true) (hN : X.N.Nodup) (hi : PI X tg iter (rdI ca X W src)) (ok : blkC X.N X.env.scope scope own = true)
    (hg : ∀ (s : Shared) (H : Hp) (C : Addr) (cl : List (Str × Addr)) (fp : List Addr), PG (X.blk s H scope (compEnvC scope cl C X.env) fp) tg (rdG ca sl t)) (ht : ∀ (s : Shared) (H : Hp) (C : Addr) (cl : List (Str × Addr)) (fp : List Addr), SDT ca (X.blk s H scope (compEnvC scope cl C X.env) fp) ifs mt)
    (he : ∀ (s : Shared) (H : Hp) (C : Addr) (cl : List (Str × Addr)) (fp : List Addr), SD ca (X.blk s H scope (compEnvC scope cl C X.env) fp) WF elt me) (hsl : ∀ j, j ∈ sl → j ∈ own.map (·.2) := by decide) (hs : ∀ x, foldedSetIterable iter X.env x = pure x := by intro _; rfl)
    (hw : ∀ whole, isTrue (.ListComp elt [⟨tg, iter, ifs, 0⟩] scope pos) X.env whole = (do let v ← whole; standAt (Expr.ListComp elt [⟨tg, iter, ifs, 0⟩] scope pos).pos; holding [v] (truthy v)) := by intro _; rfl) :
    SD ca X W (.ListComp elt [⟨tg, iter, ifs, 0⟩] scope pos) (lcM' (own.map (·.2)) src t mt me fin) := .of (PE_imp (pe_unlA (pe_lc hc hN hi (blkOk_by ok) hg (fun s H C cl fp => (ht s H C cl fp).pts) (fun s H C cl fp => (he s H C cl fp).pe) hs)) (lc_rd hf hsl)) hw
end
end M3
/-! M3L: dict comprehensions, comprehensions of two clauses. -/
namespace M3
open PySem L2
variable {ca : CAK}
section
variable {X : Cx} {W : WX} {e a b c tg : Expr} {m ma mb mc : CE} {ms : CA} {pos p apos cpos tpos : Pos} {elts : List Expr} {kk : Nat}
theorem nd_put {α : Type} {m : List (Key × V)} {k : Key} {v : V} (nd : (m.map (·.1)).Nodup) : ((putK m k v).map (·.1)).Nodup := by
  cases e : valV m k with
  | none => exact nd_putK _ nd e
  | some w =>
    unfold putK
    rw [valV_any, e, if_pos (show (some w).isSome = true from rfl), List.map_map]
    have : (fun x : Key × V => x.1) ∘ (fun kv : Key × V => if kv.1 = k then (kv.1, v) else kv) = fun x => x.1 := by
      funext p
      show (if p.1 = k then (p.1, v) else p).1 = p.1
      split <;> rfl
    rw [this]
    exact nd
def dcL (t : GT) (c k el : CE) (v : Ev) : List (Key × D) → List D → S3 → R (List (Key × D))
  | acc, [], S => .ok acc S
  | acc, d :: ds, S => match t d v S with
    | some (v1, S1) => (noEx (c v1 S1)).bind fun b S2 => match b with
      | .bl true => (noEx (k v1 S2)).bind fun x S3 => (noEx (el v1 S3)).bind fun y S4 => match keyOf x with
        | some kx => dcL t c k el v (putA acc kx y) ds S4
        | none => .bad
      | .bl false => dcL t c k el v acc ds S2
      | _ => .bad
    | none => .bad
def dcM (vs : List Nat) (src : CS) (t : GT) (c k el : CE) (fin : List (Key × D) → S3 → R D) : CE := fun v S => (src v S).bind fun p S1 => if p.1.length ≤ lim then (unlR p.2 (noEx (dcL t c k el (wipeD v vs) [] p.1 S1))).bind fin else .bad
theorem putA_len {κ α : Type} [DecidableEq κ] (j : κ) (x : α) : ∀ l : List (κ × α), (putA l j x).length ≤ l.length + 1
  | [] => Nat.le_refl _
  | (k, v) :: r => by
    unfold putA
    split
    · exact Nat.le_succ _
    · exact Nat.succ_le_succ (putA_len j x r)
theorem dc_rd {vs : List Nat} {src : CS} {t : GT} {sl : List Nat} {mt mk me : CE} {fin : List (Key × D) → S3 → R D} (hf : FinOk ca HO.dK (RepK ca) fin) (hsl : ∀ j, j ∈ sl → j ∈ vs) : ∀ σ H Q, rdE ca W (dcM vs src t mt mk me fin) σ H Q →
    tDc (rdI ca X W src) (rdG ca sl t) (tTest (rdE ca WF mt)) (rdE ca WF mk) (rdE ca WF me) vs σ H (fun x H1 => Q x H1 ∨ ∃ d od u, H1 d = some (.frz od u) ∧ (∀ o' u', X.H_0 d ≠ some (.frz o' u')) ∧ Q x (upd H1 d u)) := by
  rintro σ H Q ⟨v, S, g, s, e, h⟩
  refine ⟨v, S, g, s, e, ?_⟩
  unfold dcM at h
  cases q : src v S with
  | bad => rw [q] at h; exact h.elim
  | ex er S' => rw [q] at h; exact h
  | ok p S1 =>
    obtain ⟨ds, un⟩ := p
    rw [q] at h
    intro g1 H1 J lk le s1 wk D hD
    have h : Fin ca g H (if ds.length ≤ lim then (unlR un (noEx (dcL t mt mk me (wipeD v vs) [] ds S1))).bind fin else .bad) (fun d g' H' => ∀ x, Rep ca g' x d → Q x H') _ := h
    split at h
    · rename_i hz
      have h0 := lk.none hD
      have h1 := unlR_ok (QE' := fun _ _ _ => False) lk h
      clear h
      have e0 : EnvR ca g1 (wipeD v vs) (wipe σ vs) := (e.mono le).wipe vs
      let P : Nat → Hp → Prop := fun i H' => ∃ g' S' acc accV, Ext g1 H1 g' H' ∧ Sim ca g' S' H' ∧ Out g' D ∧ H' D = some (.dK accV) ∧ RepK ca g' accV acc ∧ (accV.map (·.1)).Nodup ∧ acc.length ≤ i ∧
        Fin ca g1 H1 (dcL t mt mk me (wipeD v vs) acc (ds.drop i) S') (fun a => Un2 X fun g2 H2 => ∃ S', Sim ca g2 S' H2 ∧ Ext g H g2 H2 ∧ Fin ca g H (fin a S') (fun d g' H' => ∀ x, Rep ca g' x d → Q x H') (fun e g' H' => ∀ cls od, RepX ca g' H' cls od e → W cls od σ H')) (fun _ _ _ => False)
      have start : P 0 (upd H1 D (.dK [])) := ⟨g1, S1, [], [], (Ext.refl g1 H1).upd hD _, s1.updOut (s1.freshOut hD), s1.freshOut hD, upd_same, .nil, List.nodup_nil, Nat.le_refl _, by rw [List.drop_zero]; exact h1⟩
      refine ⟨fun i m H' => m = ds.length - i ∧ i ≤ ds.length ∧ P i H', ⟨ds.length, by simp, Nat.zero_le _, start⟩, ?_⟩
      rintro i m H' ⟨rfl, hi, g', S', acc, accV, x', s', o', hD', r', nd, hl, h'⟩
      by_cases hlt : i < ds.length
      · refine .inr ⟨wk.go i g' H' S' hlt x'.w s', P (i + 1), fun H2 p2 => ⟨ds.length - (i + 1), by omega, rfl, hlt, p2⟩, fun x H2 y => ?_⟩
        obtain ⟨g2, x2, s2, r2⟩ := wk.yld i g' H' S' ds[i] x H2 (List.getElem?_eq_getElem hlt) x'.w s' y
        have x12 := x'.trans x2
        refine ⟨wipeD v vs, g2, S', ds[i], s2, e0.mono x12.le, r2, ?_⟩
        rw [List.drop_eq_getElem_cons hlt] at h'
        unfold dcL at h'
        cases qt : t ds[i] (wipeD v vs) S' with
        | none => rw [qt] at h'; exact h'.elim
        | some p =>
          obtain ⟨v1, S1'⟩ := p
          rw [qt] at h'
          refine fun g3 H3 x3 s3 σ3 e3 off => ⟨(wipe_off off hsl).trans (wipe_wipe vs), v1, S1', g3, s3, e3, ?_⟩
          dsimp only at h'
          refine (Fin.noEx (Fin.seqB h' (x12.trans x3))).imp (fun d g4 H4 x4 ⟨S4, s4, x4', x14, h4⟩ bv rb => ?_) fun _ _ _ _ z => z
          have xD : Ext g' H' g4 H4 := (x2.trans x3).trans x4
          have oD4 := xD.out o' (by rw [hD']; exact fun z => nomatch z)
          have hD4 := xD.rest D _ hD' o'
          split at h4
          · cases rb
            refine ⟨true, rfl, iteT ⟨v1, S4, g4, s4, e3.mono x4.le, ?_⟩⟩
            refine (Fin.noEx (Fin.seqB h4 x14)).imp (fun d5 g5 H5 x5 ⟨S5, s5, x5', x15, h5⟩ yv ry => ?_) fun _ _ _ _ z => z
            refine ⟨v1, S5, g5, s5, e3.mono (x4.trans x5).le, (Fin.noEx (Fin.seqB h5 x15)).imp (fun d6 g6 H6 x6 ⟨S6, s6, x6', x16, h6⟩ zv rz => ?_) fun _ _ _ _ z => z⟩
            have xx := x5.trans x6
            have hD6 := xx.rest D _ hD4 oD4
            have oD6 := xx.out oD4 (by rw [hD4]; exact fun z => nomatch z)
            have hl5 : accV.length = acc.length := r'.len
            have l0 : acc.length < lim := Nat.lt_of_lt_of_le (Nat.lt_of_le_of_lt hl hlt) hz
            split at h6
            · rename_i kx hk
              refine ⟨accV, kx, keyOf_rep ry hk, hD6, by rw [hl5]; exact Nat.lt_of_lt_of_le l0 lim_le, g6, S6, putA acc kx d6, putK accV kx zv, x16.upd hD _, s6.updOut oD6, oD6, upd_same, (r'.mono (xD.trans xx).le).put rz kx nd, nd_put (α := Nat) nd, Nat.le_trans (putA_len _ _ _) (Nat.succ_le_succ hl), h6⟩
            · exact h6.elim
          · cases rb
            exact ⟨false, rfl, iteF ⟨g4, S4, acc, accV, x14, s4, oD4, hD4, r'.mono xD.le, nd, Nat.le_succ_of_le hl, h4⟩⟩
          · exact h4.elim
      · have ei : i = ds.length := by omega
        subst ei
        rw [List.drop_length] at h'
        exact .inl ⟨wk.stop g' H' S' x'.w s', Un2.fin (mk := HO.dK) (rep := RepK ca) (fin := fin) (vs := accV) (ds := acc) hf (fun _ _ _ z => nomatch z) (h' g' H' x' s') h0 o' hD' r'⟩
    · exact h.elim
theorem sd_dc {kx vx iter : Expr} {ifs : List Expr} {scope : Scope} {own : List (Str × Nat)} {src : CS} {t : GT} {sl : List Nat} {mt mk me : CE} {fin : List (Key × D) → S3 → R D} (hf : FinOk ca HO.dK (RepK ca) fin) (hc : X.calm = true) (hN : X.N.Nodup) (hi : PI X tg iter (rdI ca X W src)) (ok : blkC X.N X.env.scope scope own = true)
    (hg : ∀ (s : Shared) (H : Hp) (C : Addr) (cl : List (Str × Addr)) (fp : List Addr), PG (X.blk s H scope (compEnvC scope cl C X.env) fp) tg (rdG ca sl t)) (ht : ∀ (s : Shared) (H : Hp) (C : Addr) (cl : List (Str × Addr)) (fp : List Addr), SDT ca (X.blk s H scope (compEnvC scope cl C X.env) fp) ifs mt)
    (hk : ∀ (s : Shared) (H : Hp) (C : Addr) (cl : List (Str × Addr)) (fp : List Addr), SD ca (X.blk s H scope (compEnvC scope cl C X.env) fp) WF kx mk)
    (he : ∀ (s : Shared) (H : Hp) (C : Addr) (cl : List (Str × Addr)) (fp : List Addr), SD ca (X.blk s H scope (compEnvC scope cl C X.env) fp) WF vx me) (hsl : ∀ j, j ∈ sl → j ∈ own.map (·.2) := by decide) (hs : ∀ x, foldedSetIterable iter X.env x = pure x := by intro _; rfl)
    (hw : ∀ whole, isTrue (.DictComp kx vx [⟨tg, iter, ifs, 0⟩] scope pos) X.env whole = (do let v ← whole; standAt (Expr.DictComp kx vx [⟨tg, iter, ifs, 0⟩] scope pos).pos; holding [v] (truthy v)) := by intro _; rfl) :
    SD ca X W (.DictComp kx vx [⟨tg, iter, ifs, 0⟩] scope pos) (dcM (own.map (·.2)) src t mt mk me fin) := .of (PE_imp (pe_unlA (pe_dc hc hN hi (blkOk_by ok) hg (fun s H C cl fp => (ht s H C cl fp).pts) (fun s H C cl fp => (hk s H C cl fp).pe) (fun s H C cl fp => (he s H C cl fp).pe) hs)) (dc_rd hf hsl)) hw
/-! ### two clauses -/
variable (ca)
def FinJ (W : WX) (g : Wld) (H : Hp) (σ : St) (Q : It → Hp → Prop) (r : R (List D × Option Nat)) : Prop := match r with
  | .ok (ds, none) S1 => ∀ g1 H1 J, Ext g H g1 H1 → Sim ca g1 S1 H1 → WalkD ca J g1 H1 ds → Q J H1
  | .ok (_, some _) _ => False
  | .ex e S' => ∀ g' H', Ext g H g' H' → Sim ca g' S' H' → ∀ cls od, RepX ca g' H' cls od e → W cls od σ H'
  | .bad => False
def rdJ (W : WX) (m : CS) : TI := fun σ H Q => ∃ v S g, Sim ca g S H ∧ EnvR ca g v σ ∧ FinJ ca W g H σ Q (m v S)
variable {ca}
theorem PI_imp {X : Cx} {tg e : Expr} {t t' : TI} (h : PI X tg e t) (i : ∀ σ H Q, t' σ H Q → t σ H Q) : PI X tg e t' := ⟨fun pins s σ H Q I q => h.run pins s σ H Q I (i σ H Q q)⟩
theorem pi_J {src : CS} (h : PI X tg e (rdI ca X W src)) : PI X tg e (rdJ ca W src) := PI_imp h fun σ H Q ⟨v, S, g, s, e, h⟩ => by
  refine ⟨v, S, g, s, e, ?_⟩
  revert h
  cases src v S with
  | ok p S1 =>
    obtain ⟨ds, un⟩ := p
    cases un with
    | none => exact fun h g1 H1 J lk _ s1 wk => h g1 H1 J lk s1 wk
    | some n => exact fun h => h.elim
  | ex e S => exact fun h => h
  | bad => exact fun h => h
/-- the inner items -/
def lc2L (t : GT) (c : CE) (v : Ev) (vs1 : List Nat) (src1 : CS) (t1 : GT) (c1 el : CE) : List D → S3 → R (List D)
  | [], S => .ok [] S
  | d :: ds, S => match t d v S with
    | some (v1, S1) => (noEx (c v1 S1)).bind fun b S2 => match b with
      | .bl true => (noEx (src1 v1 S2)).bind fun p S3 => match p.2 with
        | none => if p.1.length ≤ 1000 then (lcL t1 c1 el (wipeD v1 vs1) p.1 S3).bind fun ys S4 => (lc2L t c v vs1 src1 t1 c1 el ds S4).bind fun zs S5 => .ok (ys ++ zs) S5 else .bad
        | some _ => .bad
      | .bl false => lc2L t c v vs1 src1 t1 c1 el ds S2
      | _ => .bad
    | none => .bad
def lc2M (vs : List Nat) (src : CS) (t : GT) (c : CE) (vs1 : List Nat) (src1 : CS) (t1 : GT) (c1 el : CE) (fin : List D → S3 → R D) : CE := fun v S => (src v S).bind fun p S1 => if p.1.length ≤ 1000 then (unlR p.2 (noEx (lc2L t c (wipeD v vs) vs1 src1 t1 c1 el p.1 S1))).bind fin else .bad
theorem bind_app {r : R (List D)} {f : List D → S3 → R (List D)} (h : ∀ a S, f a S = f a S) : r.bind f = r.bind f := rfl
theorem lc2_rd {vs vs1 : List Nat} {src src1 : CS} {t t1 : GT} {sl sl1 : List Nat} {mt mt1 me : CE} {fin : List D → S3 → R D} (hf : FinOk ca HO.lst (RepL ca) fin) (hsl : ∀ j, j ∈ sl → j ∈ vs) (hsl1 : ∀ j, j ∈ sl1 → j ∈ vs1) : ∀ σ H Q, rdE ca W (lc2M vs src t mt vs1 src1 t1 mt1 me fin) σ H Q →
    tLc2 (rdI ca X W src) (rdG ca sl t) (tTest (rdE ca WF mt)) (rdJ ca WF src1) (rdG ca sl1 t1) (tTest (rdE ca WF mt1)) (rdE ca WF me) vs vs1 σ H (fun x H1 => Q x H1 ∨ ∃ d od u, H1 d = some (.frz od u) ∧ (∀ o' u', X.H_0 d ≠ some (.frz o' u')) ∧ Q x (upd H1 d u)) := by
  rintro σ H Q ⟨v, S, g, s, e, h⟩
  refine ⟨v, S, g, s, e, ?_⟩
  unfold lc2M at h
  cases q : src v S with
  | bad => rw [q] at h; exact h.elim
  | ex er S' => rw [q] at h; exact h
  | ok p S1 =>
    obtain ⟨ds, un⟩ := p
    rw [q] at h
    intro g1 H1 J lk le s1 wk D hD
    have h : Fin ca g H (if ds.length ≤ 1000 then (unlR un (noEx (lc2L t mt (wipeD v vs) vs1 src1 t1 mt1 me ds S1))).bind fin else .bad) (fun d g' H' => ∀ x, Rep ca g' x d → Q x H') _ := h
    split at h
    · rename_i hz
      have h0 := lk.none hD
      have h1 := unlR_ok (QE' := fun _ _ _ => False) lk h
      clear h
      have e0 : EnvR ca g1 (wipeD v vs) (wipe σ vs) := (e.mono le).wipe vs
      generalize hQO : (fun a => Un2 X fun g2 H2 => ∃ S', Sim ca g2 S' H2 ∧ Ext g H g2 H2 ∧ Fin ca g H (fin a S') (fun d g' H' => ∀ x, Rep ca g' x d → Q x H') (fun e g' H' => ∀ cls od, RepX ca g' H' cls od e → W cls od σ H')) = QO at h1
      let P : Nat → Hp → Prop := fun i H' => ∃ g' S' acc accV, Ext g1 H1 g' H' ∧ Sim ca g' S' H' ∧ Out g' D ∧ H' D = some (.lst accV) ∧ RepL ca g' accV acc ∧ acc.length ≤ i * 1000 ∧
        Fin ca g1 H1 ((lc2L t mt (wipeD v vs) vs1 src1 t1 mt1 me (ds.drop i) S').bind fun ys S4 => .ok (acc ++ ys) S4) QO (fun _ _ _ => False)
      have start : P 0 (upd H1 D (.lst [])) := by
        refine ⟨g1, S1, [], [], (Ext.refl g1 H1).upd hD _, s1.updOut (s1.freshOut hD), s1.freshOut hD, upd_same, .nil, Nat.zero_le _, ?_⟩
        rw [List.drop_zero]
        revert h1
        cases lc2L t mt (wipeD v vs) vs1 src1 t1 mt1 me ds S1 with
        | ok a S => exact fun h1 => h1
        | ex a S => exact fun h1 => h1
        | bad => exact fun h1 => h1
      refine ⟨fun i m H' => m = ds.length - i ∧ i ≤ ds.length ∧ P i H', ⟨ds.length, by simp, Nat.zero_le _, start⟩, ?_⟩
      rintro i m H' ⟨rfl, hi, g', S', acc, accV, x', s', o', hD', r', hl, h'⟩
      by_cases hlt : i < ds.length
      · refine .inr ⟨wk.go i g' H' S' hlt x'.w s', P (i + 1), fun H2 p2 => ⟨ds.length - (i + 1), by omega, rfl, hlt, p2⟩, fun x H2 y => ?_⟩
        obtain ⟨g2, x2, s2, r2⟩ := wk.yld i g' H' S' ds[i] x H2 (List.getElem?_eq_getElem hlt) x'.w s' y
        have x12 := x'.trans x2
        refine ⟨wipeD v vs, g2, S', ds[i], s2, e0.mono x12.le, r2, ?_⟩
        rw [List.drop_eq_getElem_cons hlt] at h'
        unfold lc2L at h'
        cases qt : t ds[i] (wipeD v vs) S' with
        | none => rw [qt] at h'; exact h'.elim
        | some p =>
          obtain ⟨v1, S1'⟩ := p
          rw [qt] at h'
          refine fun g3 H3 x3 s3 σ3 e3 off => ⟨(wipe_off off hsl).trans (wipe_wipe vs), v1, S1', g3, s3, e3, ?_⟩
          dsimp only at h'
          rw [R.bind_assoc] at h'
          refine (Fin.noEx (Fin.seqB h' (x12.trans x3))).imp (fun d g4 H4 x4 ⟨S4, s4, x4', x14, h4⟩ bv rb => ?_) fun _ _ _ _ z => z
          have xD : Ext g' H' g4 H4 := (x2.trans x3).trans x4
          have oD4 := xD.out o' (by rw [hD']; exact fun z => nomatch z)
          have hD4 := xD.rest D _ hD' o'
          split at h4
          · cases rb
            refine ⟨true, rfl, iteT ⟨v1, S4, g4, s4, e3.mono x4.le, ?_⟩⟩
            cases q1 : src1 v1 S4 with
            | bad => rw [q1] at h4; exact h4.elim
            | ex er S5 => rw [q1] at h4; exact h4.elim
            | ok p1 S5 =>
              obtain ⟨ds1, un1⟩ := p1
              rw [q1] at h4
              cases un1 with
              | some n => exact h4.elim
              | none =>
                intro g5 H5 J1 x5 s5 wk1
                have h4 : Fin ca g1 H1 (R.bind (if ds1.length ≤ 1000 then (lcL t1 mt1 me (wipeD v1 vs1) ds1 S5).bind fun ys S4 => (lc2L t mt (wipeD v vs) vs1 src1 t1 mt1 me (ds.drop (i + 1)) S4).bind fun zs S5 => .ok (ys ++ zs) S5 else .bad) fun ys S4 => .ok (acc ++ ys) S4) QO (fun _ _ _ => False) := h4
                split at h4
                · rename_i hz1
                  have xD5 : Ext g' H' g5 H5 := xD.trans x5
                  have oD5 := xD5.out o' (by rw [hD']; exact fun z => nomatch z)
                  have hD5 := xD5.rest D _ hD' o'
                  have e5 : EnvR ca g5 (wipeD v1 vs1) (wipe σ3 vs1) := (e3.mono (x4.trans x5).le).wipe vs1
                  let P1 : Nat → Hp → Prop := fun j H' => ∃ g' S' acc accV, Ext g1 H1 g' H' ∧ ExtW g5 H5 g' H' ∧ Sim ca g' S' H' ∧ Out g' D ∧ H' D = some (.lst accV) ∧ RepL ca g' accV acc ∧ acc.length ≤ i * 1000 + j ∧
                    Fin ca g1 H1 ((lcL t1 mt1 me (wipeD v1 vs1) (ds1.drop j) S').bind fun ys S4 => (lc2L t mt (wipeD v vs) vs1 src1 t1 mt1 me (ds.drop (i + 1)) S4).bind fun zs S5 => .ok (acc ++ (ys ++ zs)) S5) QO (fun _ _ _ => False)
                  have start1 : P1 0 H5 := by
                    refine ⟨g5, S5, acc, accV, x14.trans x5, .refl _ _, s5, oD5, hD5, r'.mono xD5.le, hl, ?_⟩
                    rw [List.drop_zero]
                    rw [R.bind_assoc] at h4
                    have ef : (fun (a : List M3.D) (S : S3) => ((lc2L t mt (wipeD v vs) vs1 src1 t1 mt1 me (ds.drop (i + 1)) S).bind fun zs S5 => R.ok (a ++ zs) S5).bind fun ys S4 => R.ok (acc ++ ys) S4) = fun ys S4 => (lc2L t mt (wipeD v vs) vs1 src1 t1 mt1 me (ds.drop (i + 1)) S4).bind fun zs S5 => .ok (acc ++ (ys ++ zs)) S5 := by
                      funext a S
                      rw [R.bind_assoc]
                      rfl
                    rw [ef] at h4
                    exact h4
                  refine ⟨fun j k H' => k = ds1.length - j ∧ j ≤ ds1.length ∧ P1 j H', ⟨ds1.length, by simp, Nat.zero_le _, start1⟩, ?_⟩
                  rintro j k H6 ⟨rfl, hj, g6, S6, acc6, accV6, x6, w6, s6, o6, hD6, r6, hl6, h6⟩
                  by_cases hjlt : j < ds1.length
                  · refine .inr ⟨wk1.go j g6 H6 S6 hjlt w6 s6, P1 (j + 1), fun H2 p2 => ⟨ds1.length - (j + 1), by omega, rfl, hjlt, p2⟩, fun x H7 y => ?_⟩
                    obtain ⟨g7, x7, s7, r7⟩ := wk1.yld j g6 H6 S6 ds1[j] x H7 (List.getElem?_eq_getElem hjlt) w6 s6 y
                    have w7 := w6.trans x7
                    refine ⟨wipeD v1 vs1, g7, S6, ds1[j], s7, e5.mono w7.le, r7, ?_⟩
                    rw [List.drop_eq_getElem_cons hjlt] at h6
                    unfold lcL at h6
                    cases qt1 : t1 ds1[j] (wipeD v1 vs1) S6 with
                    | none => rw [qt1] at h6; exact h6.elim
                    | some p =>
                      obtain ⟨v8, S8⟩ := p
                      rw [qt1] at h6
                      refine fun g8 H8 x8 s8 σ8 e8 off8 => ⟨(wipe_off off8 hsl1).trans (wipe_wipe vs1), v8, S8, g8, s8, e8, ?_⟩
                      dsimp only at h6
                      rw [R.bind_assoc] at h6
                      refine (Fin.noEx (Fin.seqB h6 ((x6.trans x7).trans x8))).imp (fun d g9 H9 x9 ⟨S9, s9, x9', x19, h9⟩ bv rb => ?_) fun _ _ _ _ z => z
                      have xE : Ext g6 H6 g9 H9 := (x7.trans x8).trans x9
                      have oD9 := xE.out o6 (by rw [hD6]; exact fun z => nomatch z)
                      have hD9 := xE.rest D _ hD6 o6
                      split at h9
                      · cases rb
                        refine ⟨true, rfl, iteT ⟨v8, S9, g9, s9, e8.mono x9.le, ?_⟩⟩
                        rw [R.bind_assoc] at h9
                        refine (Fin.noEx (Fin.seqB h9 x19)).imp (fun d10 g10 H10 x10 ⟨S10, s10, x10', x110, h10⟩ yv ry => ?_) fun _ _ _ _ z => z
                        have hD10 := x10.rest D _ hD9 oD9
                        have oD10 := x10.out oD9 (by rw [hD9]; exact fun z => nomatch z)
                        have hlen : accV6.length = acc6.length := r6.len
                        have l0 : acc6.length < lim := by
                          have : i < 1000 := Nat.lt_of_lt_of_le hlt hz
                          have : j < 1000 := Nat.lt_of_lt_of_le hjlt hz1
                          unfold lim
                          omega
                        refine ⟨accV6, hD10, by rw [hlen]; exact Nat.lt_of_lt_of_le l0 lim_le, g10, S10, acc6 ++ [d10], accV6 ++ [yv], x110.upd hD _, ((w6.trans xE).trans x10).upd hD10 (fun _ _ z => nomatch z) _, s10.updOut oD10, oD10, upd_same, (r6.mono (xE.trans x10).le).app (.cons ry .nil), by rw [List.length_append]; exact Nat.succ_le_succ hl6, ?_⟩
                        rw [R.bind_assoc] at h10
                        revert h10
                        cases lcL t1 mt1 me (wipeD v1 vs1) (ds1.drop (j + 1)) S10 with
                        | ok a S =>
                          intro h10
                          show Fin ca g1 H1 ((lc2L t mt (wipeD v vs) vs1 src1 t1 mt1 me (ds.drop (i + 1)) S).bind fun zs S5 => .ok (acc6 ++ [d10] ++ (a ++ zs)) S5) _ _
                          have ef : (fun (zs : List M3.D) (S5 : S3) => R.ok (acc6 ++ [d10] ++ (a ++ zs)) S5) = fun zs S5 => R.ok (acc6 ++ ((d10 :: a) ++ zs)) S5 := by
                            funext zs S5
                            rw [List.append_assoc]
                            rfl
                          rw [ef]
                          exact h10
                        | ex a S => exact fun h => h
                        | bad => exact fun h => h
                      · cases rb
                        exact ⟨false, rfl, iteF ⟨g9, S9, acc6, accV6, x19, w6.trans xE, s9, oD9, hD9, r6.mono xE.le, Nat.le_succ_of_le hl6, h9⟩⟩
                      · exact h9.elim
                  · have ej : j = ds1.length := by omega
                    subst ej
                    rw [List.drop_length] at h6
                    refine .inl ⟨wk1.stop g6 H6 S6 w6 s6, g6, S6, acc6, accV6, x6, s6, o6, hD6, r6, ?_, ?_⟩
                    · have : acc6.length ≤ i * 1000 + ds1.length := hl6
                      omega
                    · exact h6
                · exact h4.elim
          · cases rb
            exact ⟨false, rfl, iteF ⟨g4, S4, acc, accV, x14, s4, oD4, hD4, r'.mono xD.le, by omega, h4⟩⟩
          · exact h4.elim
      · have ei : i = ds.length := by omega
        subst ei
        rw [List.drop_length] at h'
        have h' : Fin ca g1 H1 (.ok (acc ++ []) S') _ _ := h'
        rw [List.append_nil] at h'
        subst hQO
        exact .inl ⟨wk.stop g' H' S' x'.w s', Un2.fin (mk := HO.lst) (rep := RepL ca) (fin := fin) (vs := accV) (ds := acc) hf (fun _ _ _ z => nomatch z) (h' g' H' x' s') h0 o' hD' r'⟩
    · exact h.elim
theorem sd_lc2 {elt iter tg1 iter1 : Expr} {ifs ifs1 : List Expr} {scope : Scope} {own : List (Str × Nat)} {vs1 : List Nat} {src src1 : CS} {t t1 : GT} {sl sl1 : List Nat} {mt mt1 me : CE} {fin : List D → S3 → R D} (hf : FinOk ca HO.lst (RepL ca) fin) (hc : X.calm = true) (hN : X.N.Nodup) (hi : PI X tg iter (rdI ca X W src)) (ok : blkC X.N X.env.scope scope own = true) (hv : ∀ i ∈ vs1, i ∈ own.map (·.2))
    (hg : ∀ (s : Shared) (H : Hp) (C : Addr) (cl : List (Str × Addr)) (fp : List Addr), PG (X.blk s H scope (compEnvC scope cl C X.env) fp) tg (rdG ca sl t)) (ht : ∀ (s : Shared) (H : Hp) (C : Addr) (cl : List (Str × Addr)) (fp : List Addr), SDT ca (X.blk s H scope (compEnvC scope cl C X.env) fp) ifs mt)
    (hi1 : ∀ (s : Shared) (H : Hp) (C : Addr) (cl : List (Str × Addr)) (fp : List Addr), PI (X.blk s H scope (compEnvC scope cl C X.env) fp) tg1 iter1 (rdI ca (X.blk s H scope (compEnvC scope cl C X.env) fp) WF src1))
    (hg1 : ∀ (s : Shared) (H : Hp) (C : Addr) (cl : List (Str × Addr)) (fp : List Addr), PG (X.blk s H scope (compEnvC scope cl C X.env) fp) tg1 (rdG ca sl1 t1)) (ht1 : ∀ (s : Shared) (H : Hp) (C : Addr) (cl : List (Str × Addr)) (fp : List Addr), SDT ca (X.blk s H scope (compEnvC scope cl C X.env) fp) ifs1 mt1)
    (he : ∀ (s : Shared) (H : Hp) (C : Addr) (cl : List (Str × Addr)) (fp : List Addr), SD ca (X.blk s H scope (compEnvC scope cl C X.env) fp) WF elt me) (hsl : ∀ j, j ∈ sl → j ∈ own.map (·.2) := by decide) (hsl1 : ∀ j, j ∈ sl1 → j ∈ vs1 := by decide) (hs : ∀ x, foldedSetIterable iter X.env x = pure x := by intro _; rfl) (hs1 : ∀ env x, foldedSetIterable iter1 env x = pure x := by intro _ _; rfl)
    (hw : ∀ whole, isTrue (.ListComp elt [⟨tg, iter, ifs, 0⟩, ⟨tg1, iter1, ifs1, 0⟩] scope pos) X.env whole = (do let v ← whole; standAt (Expr.ListComp elt [⟨tg, iter, ifs, 0⟩, ⟨tg1, iter1, ifs1, 0⟩] scope pos).pos; holding [v] (truthy v)) := by intro _; rfl) :
    SD ca X W (.ListComp elt [⟨tg, iter, ifs, 0⟩, ⟨tg1, iter1, ifs1, 0⟩] scope pos) (lc2M (own.map (·.2)) src t mt vs1 src1 t1 mt1 me fin) := .of (PE_imp (pe_unlA (pe_lc2 hc hN hi (blkOk_by ok) hv hg (fun s H C cl fp => (ht s H C cl fp).pts) (fun s H C cl fp => pi_J (hi1 s H C cl fp)) hg1 (fun s H C cl fp => (ht1 s H C cl fp).pts) (fun s H C cl fp => (he s H C cl fp).pe) hs hs1)) (lc2_rd hf hsl hsl1)) hw
end
end M3
/-! M3M: defs, calls. -/
namespace M3
open PySem L2
variable {ca : CAK}
/-! ### what a body's context has -/
structure CO (ca : CAK) (X : Cx) (W : WX) (k : Nat) : Prop where
  hK : X.K = ca.K
  calm : X.calm = true
  nd : X.N.Nodup
  tk : L2N.Takes X W
  ow : PassesOwn (model X.prog X.w) X.A X.env X.xe
  rm : Room k X.A
structure COT (ca : CAK) (X : Cx) (W : WX) (k : Nat) : Prop extends CO ca X W k where
  stk : X.stack = X.env :: X.outer
  fr : X.env.frame = some X.env.locals
theorem CO.hu {X : Cx} {W : WX} {k : Nat} (c : CO ca X W k) : X.A.units + 1 < cLine := by have := c.rm.units; omega
theorem CO.hu64 {X : Cx} {W : WX} {k : Nat} (c : CO ca X W k) : X.A.units + 64 < cLine := c.rm.units
theorem CO.blk {X : Cx} {W : WX} {k : Nat} (c : CO ca X W k) (s : Shared) (H : Hp) (scope : Scope) (cenv : Env) (fp : List Addr) : CO ca (X.blk s H scope cenv fp) WF k :=
  ⟨c.hK, c.calm, c.nd, fun u s' ⟨_, _, _, _, _, _, _, _, _, _, _, _, _, _, _, _, h⟩ => h.elim, .never, c.rm⟩
theorem COT.tr {X : Cx} {W W' : WX} {k : Nat} (c : COT ca X W k) {pn : List (Addr × Obj)} {xe : Value → Shared → Prop} (tk : L2N.Takes (X.tr pn xe) W') (ow : PassesOwn (model X.prog X.w) X.A X.env xe) : COT ca (X.tr pn xe) W' k :=
  ⟨⟨c.hK, c.calm, c.nd, tk, ow, c.rm⟩, c.stk, c.fr⟩
section
variable {P : Program} {w : World} {K : PySem.W.Frag} {mg : Str → Option Value} {base : Heap}
abbrev WD (E : XK) : WX := fun cls d _ H => E cls d H
theorem COT.of {N ps : List Str} {qual : Str} {scope : Scope} {f : Addr} {cdv : Value} {A : Around} {outer : List Env} {s : Shared} {H : Hp} {E : XK} {k : Nat} (hK : K = ca.K) (S : FnScope N ps scope) (hr : Room k (A.deeper (PyProof.Rows.envOfC qual scope s.heap.objs.size f cdv))) :
    COT ca (cxOf (L2N.CX P w) P w K mg base N qual scope f cdv A outer s H E) (WD E) k :=
  ⟨⟨hK, rfl, S.nd, L2N.takes_of rfl rfl rfl rfl, passes_of rfl, hr⟩, rfl, rfl⟩
/-! ### promises -/
variable (ca)
def spM (m : Fn) : Sp := fun vs H Q E => ∃ ds S g, Sim ca g S H ∧ RepL ca g vs ds ∧ Fin ca g H (m ds S) (fun d g' H' => ∀ x, Rep ca g' x d → Q x H') (fun e g' H' => ∀ cls od, RepX ca g' H' cls od e → E cls od H')
variable {ca}
def endM (r : SR) : R D := match r with
  | .nx _ S => .ok .non S
  | .rt d S => .ok d S
  | .ex e _ S => .ex e S
  | _ => .bad
/-- a def: np parameters, n slots -/
def bodyM (np n : Nat) (b : SC) : Fn := fun ds S => if ds.length = np then endM (b (ds.map some ++ List.replicate (n - ds.length) none) S) else .bad
theorem start_rep {g : Wld} {N : List Str} {vs : List V} {ds : List D} (r : RepL ca g vs ds) : EnvR ca g (ds.map some ++ List.replicate (N.length - ds.length) none) (L2.start N vs) := by
  have hl := r.len
  refine ⟨by unfold L2.start; simp [hl], fun i d h => ?_⟩
  by_cases hi : i < ds.length
  · rw [List.getElem?_append_left (by simpa using hi), List.getElem?_map] at h
    obtain ⟨d', hd, e⟩ := Option.map_eq_some_iff.mp h
    cases e
    obtain ⟨v, hv, rv⟩ := r.get hd
    refine ⟨v, ?_, rv⟩
    unfold L2.start
    rw [List.getElem?_append_left (by rw [List.length_map, hl]; exact hi), List.getElem?_map, hv]
    rfl
  · rw [List.getElem?_append_right (by simpa using hi)] at h
    have := List.mem_of_getElem? h
    rw [List.mem_replicate] at this
    exact absurd this.2 (by simp)
theorem bodyM_fin {np n : Nat} {b : SC} {g : Wld} {H : Hp} {N : List Str} {vs : List V} {ds : List D} {S : S3} {Q : VK} {E : XK} (hn : N.length = n) (s : Sim ca g S H) (r : RepL ca g vs ds)
    (h : Fin ca g H (bodyM np n b ds S) (fun d g' H' => ∀ x, Rep ca g' x d → Q x H') (fun e g' H' => ∀ cls od, RepX ca g' H' cls od e → E cls od H')) :
    rdS ca (WD E) b { nx := fun _ H' => Q .non H', rt := Q } (L2.start N vs) H := by
  unfold bodyM at h
  split at h
  · refine ⟨_, S, g, s, start_rep r, ?_⟩
    rw [hn]
    revert h
    cases b (ds.map some ++ List.replicate (n - ds.length) none) S with
    | nx v S' => exact fun h g' H' σ' x s' e => h g' H' x s' _ .non
    | rt d S' => exact fun h => h
    | ex e v S' => exact fun h g' H' σ' x s' _ => h g' H' x s'
    | _ => exact fun h => h.elim
  · exact h.elim
theorem fn_okM {x qual : Str} {params : Arguments} {body : List Stmt} {scope : Scope} {dvs : List V} {kws : List (Str × V)} {f : Addr} {fd : FuncData} {N ps : List Str} {k n : Nat} {b : SC} (hK : K = ca.K) (F : FunD K x qual params body scope dvs kws f fd) (S : FnScope N ps scope) (hn : N.length = n)
    (hb : ∀ (cdv : Value) (A : Around) (outer : List Env) (s : Shared) (H : Hp) (E : XK), COT ca (cxOf (L2N.CX P w) P w K mg base N qual scope f cdv A outer s H E) (WD E) k → PSs (cxOf (L2N.CX P w) P w K mg base N qual scope f cdv A outer s H E) body (rdS ca (WD E) b)) :
    FnOk P w K mg base (L2N.CX P w) (k + 1) f fd ps (spM ca (bodyM ps.length n b)) := by
  refine F.ok S (fun vs H Q E ⟨ds, S3, g, s, r, h⟩ => ?_) fun cdv A outer s H vs Q E hr ⟨ds, S3, g, sm, r, h⟩ => ⟨_, hb cdv A outer s H E (.of hK S hr), bodyM_fin hn sm r h⟩
  rw [r.len]
  unfold bodyM at h
  split at h
  · assumption
  · exact h.elim
end
/-! ### calls -/
section
variable {X : Cx} {W : WX} {e o : Expr} {es : List Expr} {mo : CE} {ms mk : CA} {m : Fn} {k c : Nat} {f : Addr} {fd : FuncData} {ps ks : List Str} {dvs : List V} {dds : List D} {ds : List Value} {x mn : Str} {p pos apos : Pos}
/-- defaults: numbers, texts, None -/
structure Dfl (ca : CAK) (K : PySem.W.Frag) (fd : FuncData) (ps : List Str) (dds : List D) : Prop where
  ex : ∃ (dvs : List V) (ds : List Value), Binds K fd ps ds ∧ Vals dvs ds ∧ ∀ g : Wld, RepL ca g dvs dds
def callM (ms : CA) (m : Fn) (dds : List D) : CE := fun v S => (ms v S).bind fun xs S1 => m (xs ++ dds) S1
theorem sp_of {g : Wld} {S : S3} {H : Hp} {σ : St} {vs : List V} {xs : List D} {Q : VK} (s : Sim ca g S H) (r : RepL ca g vs xs) (h : Fin ca g H (m xs S) (fun d g' H' => ∀ x, Rep ca g' x d → Q x H') (fun e g' H' => ∀ cls od, RepX ca g' H' cls od e → W cls od σ H')) : spM ca m vs H Q (WE W σ) := ⟨xs, S, g, s, r, h⟩
theorem sd_call {j : Nat} (C : CO ca X W k) (F : FnOk X.prog X.w X.K X.mg X.base (L2N.CX X.prog X.w) j f fd ps (spM ca m)) (hj : j ≤ k) (hm : X.mg x = some (.ref f)) (hk : PySem.W.keepIn X.K (.ref f) = true) (hb : Dfl ca X.K fd ps dds) (ha : PA X (e :: es) (rdA ca W ms))
    (hg : Gl X x := by rfl) (hdb : (x == ("__debug__" : Str)) = false := by decide) (he : starEach (e :: es) X.env = (false, eval e X.env) :: starEach es X.env := by rfl) (hpl : (backTo pos (starEach es X.env)).any (·.1) = false := by rfl)
    (hw : ∀ whole, isTrue (.Call (.Name x p) (e :: es) [] pos) X.env whole = (do let v ← whole; standAt (Expr.Call (.Name x p) (e :: es) [] pos).pos; holding [v] (truthy v)) := by intro _; rfl) :
    SD ca X W (.Call (.Name x p) (e :: es) [] pos) (callM ms m dds) := by
  obtain ⟨dvs, ds, hb, hd, rd⟩ := hb.ex
  refine .of (PE_imp (pe_callSD F (C.rm.mono hj) hg hm hk hb hd (L2N.passAt C.tk) ha hdb he hpl) ?_) hw
  rintro σ H Q ⟨v, S, g, s, e, h⟩
  exact ⟨v, S, g, s, e, (Fin.seq h).imp (fun xs g1 H1 x1 ⟨S1, s1, h1⟩ vs rv => sp_of s1 (rv.app (rd g1)) h1) fun _ _ _ _ z => z⟩
/-! ### methods -/
def methM (c : Nat) (mn : Str) (mo : CE) (ms : CA) (m : Fn) (dds : List D) : CE := fun v S => (mo v S).bind fun o S1 => match insOf S1 o with
  | some (c', fs) => if c' = c ∧ getA fs mn = none then (ms v S1).bind fun xs S2 => m (o :: (xs ++ dds)) S2 else .bad
  | none => .bad
def tMethS (C : Addr) (m : Str) (sp : Sp) (dvs : List V) (E : St → XK) (ta : TE) (t : TA) : TE := fun σ H Q => ta σ H fun x H1 => ∃ a dx fs, x = .ref a ∧ H1 a = some (.ins C dx fs) ∧ fs.lookup m = none ∧
  t σ H1 fun vs H2 => sp (x :: (vs ++ dvs)) H2 Q (E σ)
theorem pe_methSD {CX : CXT} {C : Addr} {sp : Sp} {E : St → XK} {ta : TE} {t : TA} {pl : Sem Bool} (he : PE X o ta) (c : Cls X.K C) (hm : Meth X.K C mn f) (F : FnOk X.prog X.w X.K X.mg X.base CX k f fd ps sp) (hr : Room k X.A) (hb : Binds X.K fd ps ds) (hd : Vals dvs ds) (hx : ∀ σ, PassesAt CX X σ (E σ)) (ha : PA X (e :: es) t)
    (hst : starEach (e :: es) X.env = (false, eval e X.env) :: starEach es X.env := by rfl) (hpl : (backTo pos (starEach es X.env)).any (·.1) = false := by rfl)
    (ht : eval (.Call (.Attribute o mn apos) (e :: es) [] pos) X.env = (do
      let ov ← eval o X.env
      standAt apos.atName
      let (f, first) ← holding [ov] (getMethod ov mn pl)
      callWith pos f first (backTo pos (starEach (e :: es) X.env)) (backToKw pos (keywordEach [] X.env))) := by rfl) :
    PE X (.Call (.Attribute o mn apos) (e :: es) [] pos) (tMethS C mn sp dvs E ta t) := by
  refine ⟨fun pins s σ H Q I h => ?_⟩
  refine PySem.W.methodCall_KW (pl := pl) (thn (he.run pins s σ H _ I h) fun u s1 ⟨x, H1, I1, rx, a, dx, fs, ex, ea, l, q⟩ => ?_) ht
  subst ex
  obtain rfl : u = Value.ref a := rx
  refine getmeth_ok I1 ea c hm l ?_
  refine PySem.W.callWith_K (first := [.ref a]) (h₀ := X.base) I.ok.mod.kin hm.kp (thn (ha.run pos pins s1 σ H1 _ I1 q) fun us s2 ⟨vs, H2, I2, r, q2⟩ => ⟨I2.kIn, ?_⟩) hst hpl
  exact run_fnSD (us := .ref a :: us) (vs := .ref a :: vs) F hr hb hd (hx σ) I2 (.cons rfl r) q2
theorem pe_methSD0 {CX : CXT} {C : Addr} {sp : Sp} {E : St → XK} {ta : TE} {pl : Sem Bool} (he : PE X o ta) (c : Cls X.K C) (hm : Meth X.K C mn f) (F : FnOk X.prog X.w X.K X.mg X.base CX k f fd ps sp) (hr : Room k X.A) (hb : Binds X.K fd ps ds) (hd : Vals dvs ds) (hx : ∀ σ, PassesAt CX X σ (E σ))
    (ht : eval (.Call (.Attribute o mn apos) [] [] pos) X.env = (do
      let ov ← eval o X.env
      standAt apos.atName
      let (f, first) ← holding [ov] (getMethod ov mn pl)
      callWith pos f first (backTo pos (starEach [] X.env)) (backToKw pos (keywordEach [] X.env))) := by rfl) :
    PE X (.Call (.Attribute o mn apos) [] [] pos) (tMethS C mn sp dvs E ta tNil) := by
  refine ⟨fun pins s σ H Q I h => ?_⟩
  refine PySem.W.methodCall_KW (pl := pl) (thn (he.run pins s σ H _ I h) fun u s1 ⟨x, H1, I1, rx, a, dx, fs, ex, ea, l, q⟩ => ?_) ht
  subst ex
  obtain rfl : u = Value.ref a := rx
  refine getmeth_ok I1 ea c hm l ?_
  exact PySem.W.callWith_K0 (first := [.ref a]) I1.kIn hm.kp (run_fnSD (us := [.ref a]) (vs := [.ref a]) F hr hb hd (hx σ) I1 (.cons rfl .nil) q)
theorem rd_meth (dvs : List V) (rd : ∀ g : Wld, RepL ca g dvs dds) : ∀ σ H Q, rdE ca W (methM c mn mo ms m dds) σ H Q → tMethS (ca c) mn (spM ca m) dvs (WE W) (rdE ca W mo) (rdA ca W ms) σ H Q := by
  rintro σ H Q ⟨v, S, g, s, e, h⟩
  refine ⟨v, S, g, s, e, (Fin.seq h).imp (fun o g1 H1 x1 ⟨S1, s1, h1⟩ ov ro => ?_) fun _ _ _ _ z => z⟩
  split at h1
  · rename_i c' fs hi
    split at h1
    · rename_i hc
      obtain ⟨rfl, hn⟩ := hc
      obtain ⟨p, dx, ws, rfl, hp, rf⟩ := s1.ins ro hi
      refine ⟨p, dx, ws, rfl, hp, rf.none hn, v, S1, g1, s1, e.mono x1.le, (Fin.seq h1).imp (fun xs g2 H2 x2 ⟨S2, s2, h2⟩ vs rv => ?_) fun _ _ _ _ z => z⟩
      exact sp_of s2 (.cons (ro.mono x2.le) (rv.app (rd g2))) h2
    · exact h1.elim
  · exact h1.elim
theorem sd_meth {j : Nat} {pl : Sem Bool} (C : CO ca X W k) (ho : SD ca X W o mo) (hc : Cls X.K (ca c)) (hm : Meth X.K (ca c) mn f) (F : FnOk X.prog X.w X.K X.mg X.base (L2N.CX X.prog X.w) j f fd ps (spM ca m)) (hj : j ≤ k) (hb : Dfl ca X.K fd ps dds) (ha : PA X (e :: es) (rdA ca W ms))
    (hst : starEach (e :: es) X.env = (false, eval e X.env) :: starEach es X.env := by rfl) (hpl : (backTo pos (starEach es X.env)).any (·.1) = false := by rfl)
    (ht : eval (.Call (.Attribute o mn apos) (e :: es) [] pos) X.env = (do
      let ov ← eval o X.env
      standAt apos.atName
      let (f, first) ← holding [ov] (getMethod ov mn pl)
      callWith pos f first (backTo pos (starEach (e :: es) X.env)) (backToKw pos (keywordEach [] X.env))) := by rfl)
    (hw : ∀ whole, isTrue (.Call (.Attribute o mn apos) (e :: es) [] pos) X.env whole = (do let v ← whole; standAt (Expr.Call (.Attribute o mn apos) (e :: es) [] pos).pos; holding [v] (truthy v)) := by intro _; rfl) :
    SD ca X W (.Call (.Attribute o mn apos) (e :: es) [] pos) (methM c mn mo ms m dds) := by
  obtain ⟨dvs, ds, hb, hd, rd⟩ := hb.ex
  exact .of (PE_imp (pe_methSD ho.pe hc hm F (C.rm.mono hj) hb hd (L2N.passAt C.tk) ha hst hpl ht) (rd_meth dvs rd)) hw
theorem sd_meth0 {j : Nat} {pl : Sem Bool} (C : CO ca X W k) (ho : SD ca X W o mo) (hc : Cls X.K (ca c)) (hm : Meth X.K (ca c) mn f) (F : FnOk X.prog X.w X.K X.mg X.base (L2N.CX X.prog X.w) j f fd ps (spM ca m)) (hj : j ≤ k) (hb : Dfl ca X.K fd ps dds)
    (ht : eval (.Call (.Attribute o mn apos) [] [] pos) X.env = (do
      let ov ← eval o X.env
      standAt apos.atName
      let (f, first) ← holding [ov] (getMethod ov mn pl)
      callWith pos f first (backTo pos (starEach [] X.env)) (backToKw pos (keywordEach [] X.env))) := by rfl)
    (hw : ∀ whole, isTrue (.Call (.Attribute o mn apos) [] [] pos) X.env whole = (do let v ← whole; standAt (Expr.Call (.Attribute o mn apos) [] [] pos).pos; holding [v] (truthy v)) := by intro _; rfl) :
    SD ca X W (.Call (.Attribute o mn apos) [] [] pos) (methM c mn mo aNil m dds) := by
  obtain ⟨dvs, ds, hb, hd, rd⟩ := hb.ex
  refine .of (PE_imp (pe_methSD0 ho.pe hc hm F (C.rm.mono hj) hb hd (L2N.passAt C.tk) ht) fun σ H Q h => ?_) hw
  have h2 := rd_meth dvs rd σ H Q h
  obtain ⟨v, S, g, s, e, hf⟩ := h2
  refine ⟨v, S, g, s, e, hf.imp (fun o g1 H1 x1 q xv rx => ?_) fun _ _ _ _ z => z⟩
  obtain ⟨a, dx, fs, e1, e2, e3, v', S', g', s', e', h'⟩ := q xv rx
  exact ⟨a, dx, fs, e1, e2, e3, h' g' H1 (.refl _ _) s' [] .nil⟩
/-! ### instances made -/
def makeM (c : Nat) (ms : CA) (m : Fn) (dds : List D) : CE := fun v S => (ms v S).bind fun xs S1 => (m (.cell S1.nx :: (xs ++ dds)) (S1.new (.ins c []))).bind fun r S2 => match r with
  | .non => .ok (.cell S1.nx) S2
  | _ => .bad
def tMakeS (C : Addr) (sp : Sp) (dvs : List V) (E : St → XK) (t : TA) : TE := fun σ H Q => t σ H fun vs H1 => ∀ x dx, H1 x = none → H1 dx = none → dx ≠ x →
  sp (.ref x :: (vs ++ dvs)) (upd (upd H1 dx (.own x)) x (.ins C dx [])) (fun v H2 => v = .non ∧ Q (.ref x) H2) (E σ)
theorem run_makeS {CX : CXT} {C : Addr} {sp : Sp} {E : XK} {pins : List (Addr × Obj)} {σ : St} {H : Hp} {s : Shared} {Q : VK} {us : List Value} {vs : List V} (M : Mk X.K C f) (F : FnOk X.prog X.w X.K X.mg X.base CX k f fd ps sp) (hr : Room (k + 1) X.A) (hb : Binds X.K fd ps ds) (hd : Vals dvs ds)
    (hx : PassesAt CX X σ E) (I : Inv X pins σ H s) (r : Vals vs us)
    (h : ∀ x dx, H x = none → H dx = none → dx ≠ x → sp (.ref x :: (vs ++ dvs)) (upd (upd H dx (.own x)) x (.ins C dx [])) (fun v H2 => v = .non ∧ Q (.ref x) H2) E) :
    wpAny (model X.prog X.w) X.A (call (.ref C) us) (EP X pins σ Q) X.xe s := by
  have hq := h (s.heap.objs.size + 1) s.heap.objs.size (I.hok.fresh (Nat.le_succ _)) (I.hok.fresh (Nat.le_refl _)) (Nat.ne_of_lt (Nat.lt_succ_self _))
  have I2 := Inv.made (C := C) I
  have r2 : Vals (V.ref (s.heap.objs.size + 1) :: (vs ++ dvs)) (Value.ref (s.heap.objs.size + 1) :: (us ++ ds)) := .cons rfl (r.append hd)
  have hl : (Value.ref (s.heap.objs.size + 1) :: us ++ ds).length = ps.length := by
    have e := r2.length
    rw [F.len _ _ _ _ hq] at e
    exact e.symm
  refine wpAny_call (make_map (f := f) I.kIn M.makes M.init (beq_iff_eq.mp M.fn) (codeAny_mono (F.run _ X.stack _ _ ⟨Value.ref (s.heap.objs.size + 1) :: us, []⟩ (Value.ref (s.heap.objs.size + 1) :: (us ++ ds)) _ _ E (hr.make C us [])
    (I2.env0.make C us []) (hb _ (Value.ref (s.heap.objs.size + 1) :: us) I2.kIn hl) r2 hq) fun r s' hq' => ?_))
  cases r with
  | error e => exact hx pins _ _ e s' I2 hq'
  | ok fl =>
    cases fl with
    | ret u =>
      obtain ⟨v, H', I3, rv, ev, q3⟩ := I2.after hq'
      subst ev
      exact ⟨rv, ⟨V.ref (s.heap.objs.size + 1), H', I3, rfl, q3⟩⟩
    | next => exact False.elim hq'
    | brk => exact False.elim hq'
    | cont => exact False.elim hq'
theorem pe_makeS {CX : CXT} {C : Addr} {sp : Sp} {E : St → XK} {t : TA} (M : Mk X.K C f) (F : FnOk X.prog X.w X.K X.mg X.base CX k f fd ps sp) (hr : Room (k + 1) X.A) (hg : Gl X x) (hm : X.mg x = some (.ref C)) (hb : Binds X.K fd ps ds) (hd : Vals dvs ds) (hx : ∀ σ, PassesAt CX X σ (E σ))
    (ha : PA X (e :: es) t) (hdb : (x == ("__debug__" : Str)) = false := by decide) (he : starEach (e :: es) X.env = (false, eval e X.env) :: starEach es X.env := by rfl) (hpl : (backTo pos (starEach es X.env)).any (·.1) = false := by rfl) :
    PE X (.Call (.Name x p) (e :: es) [] pos) (tMakeS C sp dvs E t) := by
  refine ⟨fun pins s σ H Q I h => ?_⟩
  refine wpAny_Call_Name_kw (ld_glob I hg hm ?_ hdb)
  refine PySem.W.callWith_K (h₀ := X.base) I.ok.mod.kin M.kp (thn (ha.run pos pins s σ H _ I h) fun us s1 ⟨vs, H1, I1, r, q⟩ => ⟨I1.kIn, ?_⟩) he hpl
  exact run_makeS M F hr hb hd (hx σ) I1 r q
theorem make_ok {g : Wld} {S : S3} {H : Hp} {σ : St} {vs : List V} {xs : List D} {Q : VK} (rd : ∀ g : Wld, RepL ca g dvs dds) (s : Sim ca g S H) (r : RepL ca g vs xs)
    (h : Fin ca g H ((m (.cell S.nx :: (xs ++ dds)) (S.new (.ins c []))).bind fun r S2 => match r with
      | .non => .ok (.cell S.nx) S2
      | _ => .bad) (fun d g' H' => ∀ x, Rep ca g' x d → Q x H') (fun e g' H' => ∀ cls od, RepX ca g' H' cls od e → W cls od σ H')) (x dx : Addr) (hx : H x = none) (hdx : H dx = none) (hne : dx ≠ x) :
    spM ca m (.ref x :: (vs ++ dvs)) (upd (upd H dx (.own x)) x (.ins (ca c) dx [])) (fun v H2 => v = .non ∧ Q (.ref x) H2) (WE W σ) := by
  have x1 : Ext g H g (upd H dx (.own x)) := (Ext.refl g H).upd hdx _
  have s1 : Sim ca g S (upd H dx (.own x)) := s.updOut (s.freshOut hdx)
  have hx1 : (upd H dx (.own x)) x = none := by rw [upd_ne (Ne.symm hne)]; exact hx
  have x2 := x1.trans (s1.extCell (u := .ins (ca c) dx []) hx1)
  have s2 := s1.cell (ob := .ins c []) (u := .ins (ca c) dx []) hx1 (.ins .nil)
  have le := x2.le
  have hph : (g.cell x).ph[S.nx]? = some x := by rw [← s.len]; exact get_snoc _ _
  refine ⟨_, _, _, s2, .cons (.cell hph) ((r.mono le).app (rd _)), ?_⟩
  refine (Fin.seqB h x2).imp (fun d g3 H3 x3 ⟨S3, s3, _, x03, h3⟩ v rv => ?_) fun _ _ _ _ z => z
  split at h3
  · cases rv
    exact ⟨rfl, h3 g3 H3 x03 s3 _ (.cell (x3.le.ph _ _ hph))⟩
  · exact h3.elim
theorem sd_make {j : Nat} (C : CO ca X W k) (M : Mk X.K (ca c) f) (F : FnOk X.prog X.w X.K X.mg X.base (L2N.CX X.prog X.w) j f fd ps (spM ca m)) (hj : j + 1 ≤ k) (hm : X.mg x = some (.ref (ca c))) (hb : Dfl ca X.K fd ps dds) (ha : PA X (e :: es) (rdA ca W ms))
    (hg : Gl X x := by rfl) (hdb : (x == ("__debug__" : Str)) = false := by decide) (he : starEach (e :: es) X.env = (false, eval e X.env) :: starEach es X.env := by rfl) (hpl : (backTo pos (starEach es X.env)).any (·.1) = false := by rfl)
    (hw : ∀ whole, isTrue (.Call (.Name x p) (e :: es) [] pos) X.env whole = (do let v ← whole; standAt (Expr.Call (.Name x p) (e :: es) [] pos).pos; holding [v] (truthy v)) := by intro _; rfl) :
    SD ca X W (.Call (.Name x p) (e :: es) [] pos) (makeM c ms m dds) := by
  obtain ⟨dvs, ds, hb, hd, rd⟩ := hb.ex
  refine .of (PE_imp (pe_makeS M F (C.rm.mono hj) hg hm hb hd (L2N.passAt C.tk) ha hdb he hpl) ?_) hw
  rintro σ H Q ⟨v, S, g, s, e, h⟩
  exact ⟨v, S, g, s, e, (Fin.seq h).imp (fun xs g1 H1 x1 ⟨S1, s1, h1⟩ vs rv => make_ok rd s1 rv h1) fun _ _ _ _ z => z⟩
end
end M3
/-! M3N: comprehensions assigned on their line, what is never come to, try, calls by their promises. -/
namespace M3
open PySem L2
variable {ca : CAK}
section
variable {X : Cx} {W : WX} {e a b c tg : Expr} {m ma mb mc : CE} {ms : CA} {pos p apos cpos tpos spos py : Pos} {elts : List Expr} {kk : Nat}
theorem ss_setLc {i : Nat} {y : Str} {elt iter : Expr} {ifs : List Expr} {scope : Scope} {own : List (Str × Nat)} {src : CS} {t : GT} {sl : List Nat} {mt me : CE} {fin : List D → S3 → R D} (hf : FinOk ca HO.lst (RepL ca) fin) (hc : X.calm = true) (hN : X.N.Nodup) (hi : PI X tg iter (rdI ca X W src)) (ok : blkC X.N X.env.scope scope own = true)
    (hg : ∀ (s : Shared) (H : Hp) (C : Addr) (cl : List (Str × Addr)) (fp : List Addr), PG (X.blk s H scope (compEnvC scope cl C X.env) fp) tg (rdG ca sl t)) (ht : ∀ (s : Shared) (H : Hp) (C : Addr) (cl : List (Str × Addr)) (fp : List Addr), SDT ca (X.blk s H scope (compEnvC scope cl C X.env) fp) ifs mt)
    (he : ∀ (s : Shared) (H : Hp) (C : Addr) (cl : List (Str × Addr)) (fp : List Addr), SD ca (X.blk s H scope (compEnvC scope cl C X.env) fp) WF elt me) (hsl : ∀ j, j ∈ sl → j ∈ own.map (·.2) := by decide)
    (hy : X.N[i]? = some y := by rfl) (hyl : X.env.scope.names.lookup y = some .local := by rfl) (hk : X.env.scope.kind = .function := by rfl) (hl : (py.line == pos.line) = true := by rfl) (ha : (scope.names.any fun (n, k) => n == y && (k == .local || k == .cell)) = false := by rfl)
    (hs : ∀ x, foldedSetIterable iter X.env x = pure x := by intro _; rfl) :
    PS X (.Assign [.Name y py] (.ListComp elt [⟨tg, iter, ifs, 0⟩] scope pos) spos) (rdS ca W (asgS (lcM' (own.map (·.2)) src t mt me fin) (asgN i))) :=
  PS_imp (ps_unlA (ps_setLc hc hN hy hyl (sw_true hk hyl hl ha) hi (blkOk_by ok) hg (fun s H C cl fp => (ht s H C cl fp).pts) (fun s H C cl fp => (he s H C cl fp).pe) hs)) fun D σ H ⟨v, S, g, s, e, h⟩ =>
    lc_rd (X := X) (W := W) hf hsl σ H (fun x H1 => D.nx (σ.set i (some x)) H1) ⟨v, S, g, s, e, (FinS.ofE h e).imp (fun d g1 H1 x1 ⟨S1, s1, h1⟩ x r => h1.now s1 ((e.mono x1.le).set i r)) fun _ _ _ _ z => z⟩
theorem ss_setLc2 {i : Nat} {y : Str} {elt iter tg1 iter1 : Expr} {ifs ifs1 : List Expr} {scope : Scope} {own : List (Str × Nat)} {vs1 : List Nat} {src src1 : CS} {t t1 : GT} {sl sl1 : List Nat} {mt mt1 me : CE} {fin : List D → S3 → R D} (hf : FinOk ca HO.lst (RepL ca) fin) (hc : X.calm = true) (hN : X.N.Nodup) (hi : PI X tg iter (rdI ca X W src)) (ok : blkC X.N X.env.scope scope own = true) (hv : ∀ i ∈ vs1, i ∈ own.map (·.2))
    (hg : ∀ (s : Shared) (H : Hp) (C : Addr) (cl : List (Str × Addr)) (fp : List Addr), PG (X.blk s H scope (compEnvC scope cl C X.env) fp) tg (rdG ca sl t)) (ht : ∀ (s : Shared) (H : Hp) (C : Addr) (cl : List (Str × Addr)) (fp : List Addr), SDT ca (X.blk s H scope (compEnvC scope cl C X.env) fp) ifs mt)
    (hi1 : ∀ (s : Shared) (H : Hp) (C : Addr) (cl : List (Str × Addr)) (fp : List Addr), PI (X.blk s H scope (compEnvC scope cl C X.env) fp) tg1 iter1 (rdI ca (X.blk s H scope (compEnvC scope cl C X.env) fp) WF src1))
    (hg1 : ∀ (s : Shared) (H : Hp) (C : Addr) (cl : List (Str × Addr)) (fp : List Addr), PG (X.blk s H scope (compEnvC scope cl C X.env) fp) tg1 (rdG ca sl1 t1)) (ht1 : ∀ (s : Shared) (H : Hp) (C : Addr) (cl : List (Str × Addr)) (fp : List Addr), SDT ca (X.blk s H scope (compEnvC scope cl C X.env) fp) ifs1 mt1)
    (he : ∀ (s : Shared) (H : Hp) (C : Addr) (cl : List (Str × Addr)) (fp : List Addr), SD ca (X.blk s H scope (compEnvC scope cl C X.env) fp) WF elt me) (hsl : ∀ j, j ∈ sl → j ∈ own.map (·.2) := by decide) (hsl1 : ∀ j, j ∈ sl1 → j ∈ vs1 := by decide)
    (hy : X.N[i]? = some y := by rfl) (hyl : X.env.scope.names.lookup y = some .local := by rfl) (hk : X.env.scope.kind = .function := by rfl) (hl : (py.line == pos.line) = true := by rfl) (ha : (scope.names.any fun (n, k) => n == y && (k == .local || k == .cell)) = false := by rfl)
    (hs : ∀ x, foldedSetIterable iter X.env x = pure x := by intro _; rfl) (hs1 : ∀ env x, foldedSetIterable iter1 env x = pure x := by intro _ _; rfl) :
    PS X (.Assign [.Name y py] (.ListComp elt [⟨tg, iter, ifs, 0⟩, ⟨tg1, iter1, ifs1, 0⟩] scope pos) spos) (rdS ca W (asgS (lc2M (own.map (·.2)) src t mt vs1 src1 t1 mt1 me fin) (asgN i))) :=
  PS_imp (ps_unlA (ps_setLc2 hc hN hy hyl (sw_true hk hyl hl ha) hi (blkOk_by ok) hv hg (fun s H C cl fp => (ht s H C cl fp).pts) (fun s H C cl fp => pi_J (hi1 s H C cl fp)) hg1 (fun s H C cl fp => (ht1 s H C cl fp).pts) (fun s H C cl fp => (he s H C cl fp).pe) hs hs1)) fun D σ H ⟨v, S, g, s, e, h⟩ =>
    lc2_rd (X := X) (W := W) hf hsl hsl1 σ H (fun x H1 => D.nx (σ.set i (some x)) H1) ⟨v, S, g, s, e, (FinS.ofE h e).imp (fun d g1 H1 x1 ⟨S1, s1, h1⟩ x r => h1.now s1 ((e.mono x1.le).set i r)) fun _ _ _ _ z => z⟩
theorem swd_true {kx vx : Expr} {gs : List Comprehension} {scope : Scope} {y : Str} {l : Nat} {env : Env} (hk : env.scope.kind = .function) (hy : env.scope.names.lookup y = some .local) (hl : (py.line == pos.line) = true)
    (ha : (scope.names.any fun (n, k) => n == y && (k == .local || k == .cell)) = false) : swapsWith (.DictComp kx vx gs scope pos) (some (.Name y py)) l env = pure true := by
  have ky : env.kindOf y = some .local := hy
  have hb : env.blockKind = .function := by unfold Env.blockKind; rw [hk]; rfl
  unfold swapsWith
  simp only [hb, ky, ha, Expr.pos, hl]
  rfl
theorem ps_setDc {i : Nat} {y : Str} {kx vx iter : Expr} {ifs : List Expr} {scope : Scope} {own : List (Str × Nat)} {wi : TI} {g : TG} {tt : TT} {tk tv : TE} (hc : X.calm = true) (hN : X.N.Nodup) (hy : X.N[i]? = some y) (hyl : X.env.scope.names.lookup y = some .local)
    (hsw : swapsWith (.DictComp kx vx [⟨tg, iter, ifs, 0⟩] scope pos) (some (.Name y py)) spos.line X.env = pure true) (hi : PI X tg iter wi) (ok : BlkOk X.N X.env.scope scope own)
    (hg : ∀ (s : Shared) (H : Hp) (C : Addr) (cl : List (Str × Addr)) (fp : List Addr), PG (X.blk s H scope (compEnvC scope cl C X.env) fp) tg g) (ht : ∀ (s : Shared) (H : Hp) (C : Addr) (cl : List (Str × Addr)) (fp : List Addr), PTs (X.blk s H scope (compEnvC scope cl C X.env) fp) ifs tt)
    (hk : ∀ (s : Shared) (H : Hp) (C : Addr) (cl : List (Str × Addr)) (fp : List Addr), PE (X.blk s H scope (compEnvC scope cl C X.env) fp) kx tk)
    (he : ∀ (s : Shared) (H : Hp) (C : Addr) (cl : List (Str × Addr)) (fp : List Addr), PE (X.blk s H scope (compEnvC scope cl C X.env) fp) vx tv) (hs : ∀ x, foldedSetIterable iter X.env x = pure x := by intro _; rfl) :
    PS X (.Assign [.Name y py] (.DictComp kx vx [⟨tg, iter, ifs, 0⟩] scope pos) spos) (tAsg (tDc wi g tt tk tv (own.map (·.2))) (gName i)) := by
  refine ⟨fun pins s σ H D I h => ?_⟩
  rw [PySem.exec_Assign_Name_used _ _ _ _ hsw]
  refine wpAny_bind (wpAny_standAt (wpAny_bind ?_))
  show wpAny _ X.A (do let _ ← comprehension (.DictComp kx vx [⟨tg, iter, ifs, 0⟩] scope pos) scope X.env (firstIterPos [⟨tg, iter, ifs, 0⟩] pos) newDict false (eval iter X.env) (some (assign (.Name y py) X.env))) _ _ s
  have h : tDc wi g tt tk tv (own.map (·.2)) σ H (fun x H1 => gName i x σ H1 D.nx) := h
  refine wpAny_bind (thn (dc_core (Qf := fun _ s' => SP X pins D .next s') hc hN I hi ok hg ht hk he hs h fun L C s' m H' I' q hn f => ?_) fun _ s' hq => wpAny_pure (wpAny_pure hq))
  show wpAny _ _ (assign (.Name y py) X.env (.ref L)) _ _ _
  refine wpAny_assign_Name (store_ok2 (v := V.ref L) I' hN hy (.inl hyl) rfl (fun s2 I2 ⟨a, sb, ha⟩ => ?_) (.inr hyl))
  obtain ⟨f0, f1, f2, f3, f4, f5⟩ := f
  have haC : C ≠ a := by
    rcases ha with z | z
    · rw [z]; exact f1
    · exact fun e => f4 y a z e.symm
  refine ⟨m, hn.sameBut sb haC, fun h3 sb3 => ?_⟩
  exact ⟨_, H', I2.turned (t' := s2.toks) (fun b o hb e => (sb3.2 b hb).trans e) f0 f1 f3 f4 f5, q⟩
theorem ss_setDc {i : Nat} {y : Str} {kx vx iter : Expr} {ifs : List Expr} {scope : Scope} {own : List (Str × Nat)} {src : CS} {t : GT} {sl : List Nat} {mt mk me : CE} {fin : List (Key × D) → S3 → R D} (hf : FinOk ca HO.dK (RepK ca) fin) (hc : X.calm = true) (hN : X.N.Nodup) (hi : PI X tg iter (rdI ca X W src)) (ok : blkC X.N X.env.scope scope own = true)
    (hg : ∀ (s : Shared) (H : Hp) (C : Addr) (cl : List (Str × Addr)) (fp : List Addr), PG (X.blk s H scope (compEnvC scope cl C X.env) fp) tg (rdG ca sl t)) (ht : ∀ (s : Shared) (H : Hp) (C : Addr) (cl : List (Str × Addr)) (fp : List Addr), SDT ca (X.blk s H scope (compEnvC scope cl C X.env) fp) ifs mt)
    (hkx : ∀ (s : Shared) (H : Hp) (C : Addr) (cl : List (Str × Addr)) (fp : List Addr), SD ca (X.blk s H scope (compEnvC scope cl C X.env) fp) WF kx mk)
    (he : ∀ (s : Shared) (H : Hp) (C : Addr) (cl : List (Str × Addr)) (fp : List Addr), SD ca (X.blk s H scope (compEnvC scope cl C X.env) fp) WF vx me) (hsl : ∀ j, j ∈ sl → j ∈ own.map (·.2) := by decide)
    (hy : X.N[i]? = some y := by rfl) (hyl : X.env.scope.names.lookup y = some .local := by rfl) (hk : X.env.scope.kind = .function := by rfl) (hl : (py.line == pos.line) = true := by rfl) (ha : (scope.names.any fun (n, k) => n == y && (k == .local || k == .cell)) = false := by rfl)
    (hs : ∀ x, foldedSetIterable iter X.env x = pure x := by intro _; rfl) :
    PS X (.Assign [.Name y py] (.DictComp kx vx [⟨tg, iter, ifs, 0⟩] scope pos) spos) (rdS ca W (asgS (dcM (own.map (·.2)) src t mt mk me fin) (asgN i))) :=
  PS_imp (ps_unlA (ps_setDc hc hN hy hyl (swd_true hk hyl hl ha) hi (blkOk_by ok) hg (fun s H C cl fp => (ht s H C cl fp).pts) (fun s H C cl fp => (hkx s H C cl fp).pe) (fun s H C cl fp => (he s H C cl fp).pe) hs)) fun D σ H ⟨v, S, g, s, e, h⟩ =>
    dc_rd (X := X) (W := W) hf hsl σ H (fun x H1 => D.nx (σ.set i (some x)) H1) ⟨v, S, g, s, e, (FinS.ofE h e).imp (fun d g1 H1 x1 ⟨S1, s1, h1⟩ x r => h1.now s1 ((e.mono x1.le).set i r)) fun _ _ _ _ z => z⟩
/-! ### what is never come to -/
def nvS : SC := fun _ _ => .bad
def nvE : CE := fun _ _ => .bad
theorem ss_nv {st : Stmt} : PS X st (rdS ca W nvS) := PS_imp ps_never fun D σ H ⟨v, S, g, s, e, h⟩ => h
theorem sss_nv {st : List Stmt} : PSs X st (rdS ca W nvS) := PSs_imp pss_never fun D σ H ⟨v, S, g, s, e, h⟩ => h
theorem sd_nv : SD ca X W e nvE := ⟨⟨fun _ _ _ _ _ _ ⟨v, S, g, s, e, h⟩ => h.elim⟩, ⟨fun _ _ _ _ _ _ ⟨v, S, g, s, e, h⟩ => h.elim⟩⟩
/-! ### try whose body lets nothing out -/
def thruM (b : SC) : SC := fun v S => match b v S with
  | .ex _ _ _ => .bad
  | r => r
theorem ss_thru {body : List Stmt} {hs : List ExceptHandler} {h0 : ExceptHandler} {s1 : SC} (hb : PSs X.nox body (rdS ca WF s1)) : PS X (.Try body (h0 :: hs) [] [] pos) (rdS ca W (thruM s1)) := PS_imp (ps_try_thru0 hb) fun D σ H ⟨v, S, g, s, e, h⟩ => by
  refine ⟨v, S, g, s, e, ?_⟩
  unfold thruM at h
  revert h
  cases s1 v S <;> first | exact fun h => h | exact fun h => h.elim
theorem COT.nox {k : Nat} (c : COT ca X W k) : COT ca X.nox WF k := ⟨⟨c.hK, c.calm, c.nd, fun u s' ⟨_, _, _, _, _, _, _, _, _, _, _, _, _, _, _, _, h⟩ => h.elim, .never, c.rm⟩, c.stk, c.fr⟩
end
/-! ### calls by their promises -/
section
variable {P : Program} {w : World} {K : PySem.W.Frag} {mg : Str → Option Value} {base : Heap}
/-- a def of the module -/
structure CalF (ca : CAK) (P : Program) (w : World) (K : PySem.W.Frag) (mg : Str → Option Value) (base : Heap) (k : Nat) (x : Str) (m : Fn) (dds : List D) : Prop where
  ex : ∃ (f : Addr) (fd : FuncData) (ps : List Str), FnOk P w K mg base (L2N.CX P w) k f fd ps (spM ca m) ∧ mg x = some (.ref f) ∧ PySem.W.keepIn K (.ref f) = true ∧ Dfl ca K fd ps dds
/-- a method -/
structure CalM (ca : CAK) (P : Program) (w : World) (K : PySem.W.Frag) (mg : Str → Option Value) (base : Heap) (k c : Nat) (mn : Str) (m : Fn) (dds : List D) : Prop where
  ex : ∃ (f : Addr) (fd : FuncData) (ps : List Str), FnOk P w K mg base (L2N.CX P w) k f fd ps (spM ca m) ∧ Cls K (ca c) ∧ Meth K (ca c) mn f ∧ Dfl ca K fd ps dds
/-- a class, by its __init__ -/
structure CalC (ca : CAK) (P : Program) (w : World) (K : PySem.W.Frag) (mg : Str → Option Value) (base : Heap) (k c : Nat) (x : Str) (m : Fn) (dds : List D) : Prop where
  ex : ∃ (f : Addr) (fd : FuncData) (ps : List Str), FnOk P w K mg base (L2N.CX P w) k f fd ps (spM ca m) ∧ mg x = some (.ref (ca c)) ∧ Mk K (ca c) f ∧ Dfl ca K fd ps dds
end
section
variable {X : Cx} {W : WX} {e o : Expr} {es : List Expr} {mo : CE} {ms mk : CA} {m : Fn} {k j c : Nat} {dds : List D} {x mn : Str} {p pos apos : Pos}
theorem sd_callF (C : CO ca X W k) (F : CalF ca X.prog X.w X.K X.mg X.base j x m dds) (hj : j ≤ k) (ha : PA X (e :: es) (rdA ca W ms))
    (hg : Gl X x := by rfl) (hdb : (x == ("__debug__" : Str)) = false := by decide) (he : starEach (e :: es) X.env = (false, eval e X.env) :: starEach es X.env := by rfl) (hpl : (backTo pos (starEach es X.env)).any (·.1) = false := by rfl)
    (hw : ∀ whole, isTrue (.Call (.Name x p) (e :: es) [] pos) X.env whole = (do let v ← whole; standAt (Expr.Call (.Name x p) (e :: es) [] pos).pos; holding [v] (truthy v)) := by intro _; rfl) :
    SD ca X W (.Call (.Name x p) (e :: es) [] pos) (callM ms m dds) := by
  obtain ⟨f, fd, ps, F, hm, hk, hd⟩ := F.ex
  exact sd_call C F hj hm hk hd ha hg hdb he hpl hw
theorem sd_methF {pl : Sem Bool} (C : CO ca X W k) (F : CalM ca X.prog X.w X.K X.mg X.base j c mn m dds) (hj : j ≤ k) (ho : SD ca X W o mo) (ha : PA X (e :: es) (rdA ca W ms))
    (hst : starEach (e :: es) X.env = (false, eval e X.env) :: starEach es X.env := by rfl) (hpl : (backTo pos (starEach es X.env)).any (·.1) = false := by rfl)
    (ht : eval (.Call (.Attribute o mn apos) (e :: es) [] pos) X.env = (do
      let ov ← eval o X.env
      standAt apos.atName
      let (f, first) ← holding [ov] (getMethod ov mn pl)
      callWith pos f first (backTo pos (starEach (e :: es) X.env)) (backToKw pos (keywordEach [] X.env))) := by rfl)
    (hw : ∀ whole, isTrue (.Call (.Attribute o mn apos) (e :: es) [] pos) X.env whole = (do let v ← whole; standAt (Expr.Call (.Attribute o mn apos) (e :: es) [] pos).pos; holding [v] (truthy v)) := by intro _; rfl) :
    SD ca X W (.Call (.Attribute o mn apos) (e :: es) [] pos) (methM c mn mo ms m dds) := by
  obtain ⟨f, fd, ps, F, hc, hm, hd⟩ := F.ex
  exact sd_meth C ho hc hm F hj hd ha hst hpl ht hw
theorem sd_methF0 {pl : Sem Bool} (C : CO ca X W k) (F : CalM ca X.prog X.w X.K X.mg X.base j c mn m dds) (hj : j ≤ k) (ho : SD ca X W o mo)
    (ht : eval (.Call (.Attribute o mn apos) [] [] pos) X.env = (do
      let ov ← eval o X.env
      standAt apos.atName
      let (f, first) ← holding [ov] (getMethod ov mn pl)
      callWith pos f first (backTo pos (starEach [] X.env)) (backToKw pos (keywordEach [] X.env))) := by rfl)
    (hw : ∀ whole, isTrue (.Call (.Attribute o mn apos) [] [] pos) X.env whole = (do let v ← whole; standAt (Expr.Call (.Attribute o mn apos) [] [] pos).pos; holding [v] (truthy v)) := by intro _; rfl) :
    SD ca X W (.Call (.Attribute o mn apos) [] [] pos) (methM c mn mo aNil m dds) := by
  obtain ⟨f, fd, ps, F, hc, hm, hd⟩ := F.ex
  exact sd_meth0 C ho hc hm F hj hd ht hw
theorem sd_makeF (C : CO ca X W k) (F : CalC ca X.prog X.w X.K X.mg X.base j c x m dds) (hj : j + 1 ≤ k) (ha : PA X (e :: es) (rdA ca W ms))
    (hg : Gl X x := by rfl) (hdb : (x == ("__debug__" : Str)) = false := by decide) (he : starEach (e :: es) X.env = (false, eval e X.env) :: starEach es X.env := by rfl) (hpl : (backTo pos (starEach es X.env)).any (·.1) = false := by rfl)
    (hw : ∀ whole, isTrue (.Call (.Name x p) (e :: es) [] pos) X.env whole = (do let v ← whole; standAt (Expr.Call (.Name x p) (e :: es) [] pos).pos; holding [v] (truthy v)) := by intro _; rfl) :
    SD ca X W (.Call (.Name x p) (e :: es) [] pos) (makeM c ms m dds) := by
  obtain ⟨f, fd, ps, F, hm, hM, hd⟩ := F.ex
  exact sd_make C hM F hj hm hd ha hg hdb he hpl hw
/-! ### fields: which classes -/
theorem hC1 {K : PySem.W.Frag} {c : Nat} {f : Str} (h1 : Cls K (ca c)) (h2 : NoAttr K (ca c) f) : ∀ c', [c].contains c' = true → Cls K (ca c') ∧ NoAttr K (ca c') f := fun c' h => by
  have : c' = c := by simpa using h
  subst this
  exact ⟨h1, h2⟩
theorem hCc {K : PySem.W.Frag} {c : Nat} {l : List Nat} {f : Str} (h1 : Cls K (ca c)) (h2 : NoAttr K (ca c) f) (r : ∀ c', l.contains c' = true → Cls K (ca c') ∧ NoAttr K (ca c') f) : ∀ c', (c :: l).contains c' = true → Cls K (ca c') ∧ NoAttr K (ca c') f := fun c' h => by
  rw [List.contains_cons, Bool.or_eq_true] at h
  rcases h with h | h
  · have : c' = c := by simpa using h
    subst this
    exact ⟨h1, h2⟩
  · exact r c' h
end
end M3
/-! M3O: more of the text. -/
namespace M3
open PySem L2
variable {ca : CAK}
section
variable {X : Cx} {W : WX} {e a b o : Expr} {es : List Expr} {m ma mb mo : CE} {ms : CA} {pos p apos cpos : Pos}
/-! ### numbers -/
theorem sd_neg {i : Int} {j : Nat} {p1 : Pos} (hw : ∀ whole, isTrue (.UnaryOp .USub (.Constant (.int i) j p1) pos) X.env whole = (do let v ← whole; standAt (Expr.UnaryOp .USub (.Constant (.int i) j p1) pos).pos; holding [v] (truthy v)) := by intro _; rfl) : SD ca X W (.UnaryOp .USub (.Constant (.int i) j p1) pos) (xc (.int (-i))) := .of (PE_imp (pe_un un_neg (pe_int (X := X))) fun σ H Q ⟨v, S, g, s, e, h⟩ => ⟨_, rfl, h g H (.refl _ _) s _ (.int _)⟩) hw
def iaddF : O2 := fun x y S => match x, y with
  | .int i, .int j => some (.int (i + j), S)
  | _, _ => none
def isubF : O2 := fun x y S => match x, y with
  | .int i, .int j => some (.int (i - j), S)
  | _, _ => none
theorem in_addF : InOp X .Add (rdO2 ca iaddF) := by
  rintro pins s σ H x y u v Q I rx ry ⟨g, S, d, e, sm, rd, re, h⟩
  unfold iaddF at h
  split at h
  · cases rd; cases re
    exact in_add pins s σ H _ _ u v Q I rx ry ⟨_, _, rfl, rfl, h.now sm _ (.int _)⟩
  · exact h.elim
theorem in_subF : InOp X .Sub (rdO2 ca isubF) := by
  rintro pins s σ H x y u v Q I rx ry ⟨g, S, d, e, sm, rd, re, h⟩
  unfold isubF at h
  split at h
  · cases rd; cases re
    exact in_sub pins s σ H _ _ u v Q I rx ry ⟨_, _, rfl, rfl, h.now sm _ (.int _)⟩
  · exact h.elim
def augM (i : Nat) (op : O2) (me : CE) : SC := fun v S => match v[i]? with
  | some (some x) => (me v S).bindS v fun y S1 => match op x y S1 with
    | some (z, S2) => .nx (v.set i (some z)) S2
    | none => .bad
  | _ => .bad
theorem ss_aug {i : Nat} {x : Str} {op : Operator} {f : O2} {pos' : Pos} (he : SD ca X W e m) (ho : InOp X op (rdO2 ca f)) (hN : X.N.Nodup) (hi : X.N[i]? = some x := by rfl) (hx : Loc X.env.scope x := by first | exact Or.inl rfl | exact Or.inr rfl) (hf : X.fn x = true ∨ X.env.scope.names.lookup x = some .local := by first | exact .inl rfl | exact .inr rfl) :
    PS X (.AugAssign (.Name x pos') op e pos) (rdS ca W (augM i f m)) := PS_imp (ps_aug hN hi hx he.pe ho hf) fun D σ H ⟨v, S, g, s, e, h⟩ => by
  unfold augM at h
  split at h
  · rename_i x hx
    obtain ⟨y, hy, ry⟩ := e.at_ _ _ hx
    refine ⟨y, hy, v, S, g, s, e, (FinS.ofE h e).imp (fun d g1 H1 x1 ⟨S1, s1, h1⟩ zv rz => ?_) fun _ _ _ _ z => z⟩
    refine ⟨g1, S1, x, d, s1, ry.mono x1.le, rz, ?_⟩
    split at h1
    · rename_i z S2 ez
      rw [ez]
      exact fun g2 H2 x2 s2 wv rw' => h1 g2 H2 _ x2 s2 ((e.mono (x1.trans x2).le).set _ rw')
    · exact h1.elim
  · exact h.elim
/-! ### lists that change -/
def extF : List D → List D → Option (D × List D) := fun ys xs => none
/-- xs.extend(ys) -/
def extM (ma mb : CE) : CE := fun v S => (ma v S).bind fun d S1 => match lstOf S1 d with
  | none => .bad
  | some _ => (mb v S1).bind fun y S2 => match cellOf d, lstOf S2 y with
    | some n, some zs => match S2.cs n with
      | some (.lst ys) => if n ∈ S2.lk then .bad else if ys.length + zs.length ≤ lim then .ok .non (S2.set n (.lst (ys ++ zs))) else .bad
      | _ => .bad
    | _, _ => .bad
/-- extend, of a list that may be locked -/
def rExtR : V → List V → Hp → VK → Prop := fun x vs H Q => ∃ l b xs zs, x = .ref l ∧ vs = [.ref b] ∧ H l = some (.lst xs) ∧ Rd H b (.lst zs) ∧ xs.length + zs.length ≤ sizeLine ∧ Q .non (upd H l (.lst (xs ++ zs)))
theorem mt_extR : MtR X "list.extend" rExtR := by
  intro pins s σ H x vs v us Q I rx rv h
  obtain ⟨l, b, xs, zs, rfl, rfl, hH, hB, hz, q⟩ := h
  cases rx
  obtain ⟨u, rfl, ru⟩ := L2.Vals.one rv
  cases ru
  obtain ⟨z, its, n, r, hl, e⟩ := lstR I (.inl hH)
  obtain ⟨z2, its2, n2, r2, hl2, e2⟩ := lstR I hB
  have hsz : its.toArray.size + its2.toArray.size ≤ sizeLine := by rw [List.size_toArray, List.size_toArray]; omega
  have hlong : ¬ (!its.toArray.isEmpty && Builtin.List.listTooLong (its.toArray.size + its2.toArray.size)) = true := by
    rw [notLongL hsz, Bool.and_false]
    exact Bool.false_ne_true
  refine call_meets PySem.F.slot_list_extend ⟨_, e, rfl⟩ PySem.F.entry_list_extend (PySem.F.args_list_extend_2 _ _)
    (AutoSeq1.list_extend_list_list_0 l its.toArray n b its2.toArray n2 hlong (by rw [List.size_toArray]; omega) (by omega)) ⟨e, e2, ?_⟩
  refine ⟨.non, _, I.lset (its' := its ++ its2) hH e (by simp) (r.append r2) ?_, rfl, q⟩
  rw [List.length_append]
  omega
theorem sd_extend (ha : SD ca X W a ma) (hb : SD ca X W b mb) (hw : ∀ whole, isTrue (.Call (.Attribute a "extend" apos) [b] [] cpos) X.env whole = (do let v ← whole; standAt (Expr.Call (.Attribute a "extend" apos) [b] [] cpos).pos; holding [v] (truthy v)) := by intro _; rfl)
    (hbase : attributeBase a "extend" X.env (eval a X.env) = eval a X.env := by rfl)
    (hfew : ((backTo cpos (starEach [b] X.env)).all (fun x => !x.1) && (backToKw cpos (keywordEach [] X.env)).all (fun x => x.1.isSome) && decide ([b].length + ([] : List Keyword).length + (if ([] : List Keyword).isEmpty then 0 else 1) < 30)) = true := by rfl)
    (hline : (apos.endLine == cpos.line) = true := by rfl) (hs : starEach [b] X.env = (false, eval b X.env) :: starEach [] X.env := by rfl) (hplain : (backTo cpos (starEach [] X.env)).any (·.1) = false := by rfl) :
    SD ca X W (.Call (.Attribute a "extend" apos) [b] [] cpos) (extM ma mb) :=
  .of (PE_imp (pe_bm PySem.F.plainAttrs_list PySem.F.slot_list_extend PySem.F.type_list_extend mt_extR ha.pe (sda_cons hb sda_nil hs) hbase hfew hline hs hplain) <| by
  rintro σ H Q ⟨v, S, g, s, e, h⟩
  refine ⟨v, S, g, s, e, (Fin.seq h).imp (fun d g1 H1 x1 ⟨S1, s1, h1⟩ xv rv => ?_) fun _ _ _ _ z => z⟩
  split at h1
  · exact h1.elim
  · rename_i ys0 hy0
    obtain ⟨p, vs0, rfl, hp0, _⟩ := s1.lst rv hy0
    refine ⟨.inl ⟨rfl, vs0, .inl hp0⟩, v, S1, g1, s1, e.mono x1.le, ?_⟩
    refine Fin.imp (QO := fun ys g' H' => ∃ y, ys = [y] ∧ ∃ S', Sim ca g' S' H' ∧ Fin ca g' H' (match cellOf d, lstOf S' y with
      | some n, some zs => match S'.cs n with
        | some (.lst ys) => if n ∈ S'.lk then .bad else if ys.length + zs.length ≤ lim then .ok .non (S'.set n (.lst (ys ++ zs))) else .bad
        | _ => .bad
      | _, _ => .bad) (fun d g' H' => ∀ x, Rep ca g' x d → Q x H') (fun e g' H' => ∀ cls od, RepX ca g' H' cls od e → W cls od σ H')) ?_ (fun ys g2 H2 x2 ⟨y, ey, S2, s2, h2⟩ ws rw' => ?_) (fun _ _ _ _ z => z)
    · have h1' := Fin.seq h1
      unfold aCons aNil
      revert h1'
      cases mb v S1 with
      | ok y S2 => exact fun h1' g' H' x s => ⟨y, rfl, h1' g' H' x s⟩
      | ex _ _ => exact fun h1' => h1'
      | bad => exact fun h1' => h1'
    · subst ey
      obtain ⟨yv, rfl, ry⟩ := rw'.one
      split at h2
      · rename_i n zs en hz
        cases cellOf_eq en
        split at h2
        · rename_i ys hc
          split at h2
          · exact h2.elim
          rename_i hl
          split at h2
          · rename_i hlen
            obtain ⟨p', u, ep, hph, ro, hp⟩ := s2.cellOb (rv.mono x2.le) hc hl
            cases ep
            cases ro with
            | lst rl =>
              obtain ⟨b, bs, rfl, hb, rb⟩ := s2.lst ry hz
              exact ⟨p, b, _, bs, rfl, rfl, hp, hb, by rw [rl.len, rb.len]; exact Nat.le_trans hlen lim_le, h2 g2 _ (Sim.extWrite (by rw [hp]; exact fun _ _ z => nomatch z) hph) (s2.write hph hc hl (.lst (rl.app rb))) _ .non⟩
          · exact h2.elim
        · exact h2.elim
      · exact h2.elim) hw
end
end M3
/-! M3P: clear, pop, displays of dicts, f-strings, field targets, keywords. -/
namespace M3
open PySem L2
variable {ca : CAK}
section
variable {X : Cx} {W : WX} {e a b o : Expr} {es : List Expr} {m ma mb mo : CE} {ms : CA} {pos p apos cpos : Pos}
/-! ### clear, pop -/
def clrL (ma : CE) : CE := fun v S => (ma v S).bind fun d S1 => match cellOf d with
  | some n => match S1.cs n with
    | some (.lst _) => if n ∈ S1.lk then .bad else .ok .non (S1.set n (.lst []))
    | _ => .bad
  | none => .bad
def clrD (ma : CE) : CE := fun v S => (ma v S).bind fun d S1 => match cellOf d with
  | some n => match S1.cs n with
    | some (.dic _) => if n ∈ S1.lk then .bad else .ok .non (S1.set n (.dic []))
    | _ => .bad
  | none => .bad
def popL (ma : CE) : CE := fun v S => (ma v S).bind fun d S1 => match cellOf d with
  | some n => match S1.cs n with
    | some (.lst ys) => if n ∈ S1.lk then .bad else match ys[ys.length - 1]? with
      | some y => .ok y (S1.set n (.lst ys.dropLast))
      | none => .bad
    | _ => .bad
  | none => .bad
theorem mt_clearR : MtR X "list.clear" rClear := fun pins s σ H x xs v us Q I rx rv h => mt_clear pins s σ H x xs v us Q I rx rv h
theorem mt_popR : MtR X "list.pop" rPop := fun pins s σ H x xs v us Q I rx rv h => mt_pop pins s σ H x xs v us Q I rx rv h
theorem sd_clrL (ha : SD ca X W a ma) (hbase : attributeBase a "clear" X.env (eval a X.env) = eval a X.env := by rfl) (hline : (apos.endLine == cpos.line) = true := by rfl) (hw : ∀ whole, isTrue (.Call (.Attribute a "clear" apos) [] [] cpos) X.env whole = (do let v ← whole; standAt (Expr.Call (.Attribute a "clear" apos) [] [] cpos).pos; holding [v] (truthy v)) := by intro _; rfl) :
    SD ca X W (.Call (.Attribute a "clear" apos) [] [] cpos) (clrL ma) := .of (PE_imp (pe_bm0 PySem.F.plainAttrs_list PySem.F.slot_list_clear PySem.F.type_list_clear mt_clearR ha.pe hbase hline) <| by
  rintro σ H Q ⟨v, S, g, s, e, h⟩
  refine ⟨v, S, g, s, e, (Fin.seq h).imp (fun d g1 H1 x1 ⟨S1, s1, h1⟩ xv rv => ?_) fun _ _ _ _ z => z⟩
  split at h1
  · rename_i n en
    cases cellOf_eq en
    split at h1
    · rename_i ys hc
      split at h1
      · exact h1.elim
      rename_i hl
      obtain ⟨p, u, rfl, hph, ro, hp⟩ := s1.cellOb rv hc hl
      cases ro with
      | lst rl => exact ⟨.inl ⟨rfl, _, .inl (.inl hp)⟩, p, _, rfl, rfl, hp, h1 g1 _ (Sim.extWrite (by rw [hp]; exact fun _ _ z => nomatch z) hph) (s1.write hph hc hl (.lst .nil)) _ .non⟩
    · exact h1.elim
  · exact h1.elim) hw
theorem sd_popL (ha : SD ca X W a ma) (hbase : attributeBase a "pop" X.env (eval a X.env) = eval a X.env := by rfl) (hline : (apos.endLine == cpos.line) = true := by rfl) (hw : ∀ whole, isTrue (.Call (.Attribute a "pop" apos) [] [] cpos) X.env whole = (do let v ← whole; standAt (Expr.Call (.Attribute a "pop" apos) [] [] cpos).pos; holding [v] (truthy v)) := by intro _; rfl) :
    SD ca X W (.Call (.Attribute a "pop" apos) [] [] cpos) (popL ma) := .of (PE_imp (pe_bm0 PySem.F.plainAttrs_list PySem.F.slot_list_pop PySem.F.type_list_pop mt_popR ha.pe hbase hline) <| by
  rintro σ H Q ⟨v, S, g, s, e, h⟩
  refine ⟨v, S, g, s, e, (Fin.seq h).imp (fun d g1 H1 x1 ⟨S1, s1, h1⟩ xv rv => ?_) fun _ _ _ _ z => z⟩
  split at h1
  · rename_i n en
    cases cellOf_eq en
    split at h1
    · rename_i ys hc
      split at h1
      · exact h1.elim
      rename_i hl
      split at h1
      · rename_i y hy
        obtain ⟨p, u, rfl, hph, ro, hp⟩ := s1.cellOb rv hc hl
        cases ro with
        | @lst vs _ rl =>
          obtain ⟨w, hw', rw'⟩ := rl.get hy
          refine ⟨.inl ⟨rfl, _, .inl (.inl hp)⟩, p, _, w, rfl, rfl, hp, by rw [rl.len]; exact hw', h1 g1 _ (Sim.extWrite (by rw [hp]; exact fun _ _ z => nomatch z) hph) (s1.write hph hc hl (.lst ?_)) _ rw'⟩
          rw [List.dropLast_eq_take, List.dropLast_eq_take, rl.len]
          exact rl.take _
      · exact h1.elim
    · exact h1.elim
  · exact h1.elim) hw
theorem sd_clrD (ha : SD ca X W a ma) (hbase : attributeBase a "clear" X.env (eval a X.env) = eval a X.env := by rfl) (hline : (apos.endLine == cpos.line) = true := by rfl) (hw : ∀ whole, isTrue (.Call (.Attribute a "clear" apos) [] [] cpos) X.env whole = (do let v ← whole; standAt (Expr.Call (.Attribute a "clear" apos) [] [] cpos).pos; holding [v] (truthy v)) := by intro _; rfl) :
    SD ca X W (.Call (.Attribute a "clear" apos) [] [] cpos) (clrD ma) := .of (PE_imp (pe_dclear ha.pe hbase hline) <| by
  rintro σ H Q ⟨v, S, g, s, e, h⟩
  refine ⟨v, S, g, s, e, (Fin.seq h).imp (fun d g1 H1 x1 ⟨S1, s1, h1⟩ xv rv => ?_) fun _ _ _ _ z => z⟩
  split at h1
  · rename_i n en
    cases cellOf_eq en
    split at h1
    · rename_i ks hc
      split at h1
      · exact h1.elim
      · rename_i hl
        obtain ⟨p, u, rfl, hph, ro, hp⟩ := s1.cellOb rv hc hl
        cases ro with
        | dic rk => exact ⟨.inr (.inr (.inl ⟨rfl, .inl ⟨_, hp⟩⟩)), p, _, rfl, rfl, hp, h1 g1 _ (Sim.extWrite (by rw [hp]; exact fun _ _ z => nomatch z) hph) (s1.write hph hc hl (.dic .nil)) _ .non⟩
    · exact h1.elim
  · exact h1.elim) hw
/-! ### a field as a target -/
def asgFld (cs : List Nat) (f : Str) (mo : CE) : GT := fun d v S => match mo v S with
  | .ok o S1 => (setF cs f o d S1).map fun S2 => (v, S2)
  | _ => none
theorem pg_fld {f : Str} {to : TE} (ho : PE X o to) (hs : ∀ v, assign (.Attribute o f pos) X.env v = (do
      let ov ← holding [v] (eval o X.env)
      standAt pos.atName
      holding [v, ov] (setAttr ov f v)
      release [v, ov] []) := by intro _; rfl) : PG X (.Attribute o f pos) (fun v σ H Q => to σ H fun x H1 => ∃ a C dx fs, x = .ref a ∧ H1 a = some (.ins C dx fs) ∧ Cls X.K C ∧ NoAttr X.K C f ∧ fs.length < 1000 ∧ Q σ (upd H1 a (.ins C dx (putF f v fs)))) := by
  refine ⟨fun pins s σ H v u Q I r h => ?_⟩
  rw [hs]
  refine wpAny_bind (wpAny_holding (thn (ho.run pins s σ H _ I h) fun ov s1 ⟨x, H1, I1, rx, a, C, dx, fs, ex, ea, c, n, l, q⟩ => ?_))
  subst ex
  obtain rfl : ov = Value.ref a := rx
  refine wpAny_bind (wpAny_standAt (wpAny_bind (wpAny_holding (setattr_ok I1 ea c n l r fun s2 I2 => ?_))))
  exact wpAny_release ⟨σ, _, I2, q⟩
end
end M3
/-! M3Q: field targets, displays of dicts, f-strings, keywords. -/
namespace M3
open PySem L2
variable {ca : CAK}
section
variable {X : Cx} {W : WX} {e a b o : Expr} {es : List Expr} {m ma mb mo : CE} {ms mk : CA} {pos p apos cpos : Pos}
theorem sg_fld {f : Str} {cs : List Nat} (ho : SD ca X W o mo) (hC : ∀ c, cs.contains c = true → Cls X.K (ca c) ∧ NoAttr X.K (ca c) f) (hs : ∀ v, assign (.Attribute o f pos) X.env v = (do
      let ov ← holding [v] (eval o X.env)
      standAt pos.atName
      holding [v, ov] (setAttr ov f v)
      release [v, ov] []) := by intro _; rfl) : PG X (.Attribute o f pos) (rdG ca [] (asgFld cs f mo)) := PG_imp (pg_fld ho.pe hs) fun x σ H Q ⟨v, g, S, d, s, e, r, h⟩ => by
  unfold asgFld at h
  split at h
  · rename_i o1 S1 e1
    cases hp : setF cs f o1 d S1 with
    | none => rw [hp] at h; exact h.elim
    | some S2 =>
      rw [hp] at h
      refine ⟨v, S, g, s, e, ?_⟩
      rw [e1]
      intro g1 H1 x1 s1 xo ro
      obtain ⟨a, C, dx, fs, e2, e3, ⟨c, hc, rfl⟩, e4, q⟩ := setF_ok s1 ro (r.mono x1.le) hp
      exact ⟨a, _, dx, fs, e2, e3, (hC c hc).1, (hC c hc).2, e4, h g1 _ (x1.trans (q dx).1) (q dx).2 σ (e.mono x1.le) (.refl _ _)⟩
  · exact h.elim
/-! ### {k: v, ..} -/
abbrev CP := Ev → S3 → R (List (Key × D))
def pNil : CP := fun _ S => .ok [] S
def pCons (mk mv : CE) (r : CP) : CP := fun v S => (mk v S).bind fun k S1 => (mv v S1).bind fun x S2 => match keyOf k with
  | some kk => (r v S2).bind fun ps S3 => .ok ((kk, x) :: ps) S3
  | none => .bad
variable (ca)
structure SDP (X : Cx) (W : WX) (keys : List (Option Expr)) (vals : List Expr) (m : CP) : Prop where
  ex : ∃ trs : List (TE × TE), (∀ pos, PPs X pos keys vals trs) ∧ ∀ σ H (Q : List (V × V) → Hp → Prop), (∃ v S g, Sim ca g S H ∧ EnvR ca g v σ ∧ Fin ca g H (m v S) (fun ds g' H' => ∀ kvs, RepK ca g' kvs ds → Q (kvs.map fun kv => (kV kv.1, kv.2)) H') (fun e g' H' => ∀ cls od, RepX ca g' H' cls od e → W cls od σ H')) → tPairs trs σ H Q
variable {ca}
theorem sdp_nil : SDP ca X W [] [] pNil := ⟨[], fun _ => pps_nil, fun σ H Q ⟨v, S, g, s, e, h⟩ => h g H (.refl _ _) s [] .nil⟩
theorem sdp_cons {ks : List (Option Expr)} {vs : List Expr} {r : CP} (hk : SD ca X W a ma) (hv : SD ca X W b mb) (hr : SDP ca X W ks vs r) : SDP ca X W (some a :: ks) (b :: vs) (pCons ma mb r) := by
  obtain ⟨trs, h1, h2⟩ := hr.ex
  refine ⟨(rdE ca W ma, rdE ca W mb) :: trs, fun pos => pps_cons hk.pe hv.pe (h1 pos), ?_⟩
  rintro σ H Q ⟨v, S, g, s, e, h⟩
  refine ⟨v, S, g, s, e, (Fin.seq h).imp (fun k g1 H1 x1 ⟨S1, s1, h1⟩ kv rk => ?_) fun _ _ _ _ z => z⟩
  refine ⟨v, S1, g1, s1, e.mono x1.le, (Fin.seq h1).imp (fun d g3 H3 x3 ⟨S3, s3, h3⟩ dv rd => ?_) fun _ _ _ _ z => z⟩
  refine h2 σ H3 _ ?_
  split at h3
  · rename_i kk ek
    have := keyOf_rep rk ek
    subst this
    refine ⟨v, S3, g3, s3, e.mono (x1.trans x3).le, (Fin.seq h3).imp (fun ps g4 H4 x4 ⟨S4, s4, h4⟩ kvs rp => ?_) fun _ _ _ _ z => z⟩
    exact h4 g4 H4 (.refl _ _) s4 ((kk, dv) :: kvs) (.cons (rd.mono x4.le) rp)
  · exact h3.elim
def dspM' (p : CP) (fin : List (Key × D) → S3 → R D) : CE := fun v S => (p v S).bind fun ps S1 => if ps.length ≤ 15 then fin (mergeA [] ps) S1 else .bad
abbrev dspM (p : CP) : CE := dspM' p finDT
abbrev dspMC (p : CP) : CE := dspM' p finDC
theorem sd_dsp' {keys : List (Option Expr)} {vals : List Expr} {pr : CP} {fin : List (Key × D) → S3 → R D} (hf : FinOk ca HO.dK (RepK ca) fin) (hp : SDP ca X W keys vals pr) (hall : keys.all (·.isSome) = true := by rfl) (hl : keys.length = vals.length := by rfl) (h0 : keys ≠ [] := by exact fun z => nomatch z)
    (h15 : keys.length ≤ 15 := by decide) (hw : ∀ whole, isTrue (.Dict keys vals pos) X.env whole = (do let v ← whole; standAt (Expr.Dict keys vals pos).pos; holding [v] (truthy v)) := by intro _; rfl) : SD ca X W (.Dict keys vals pos) (dspM' pr fin) := by
  obtain ⟨trs, h1, h2⟩ := hp.ex
  refine .of (PE_imp (pe_disp (h1 pos) hall hl h0 h15) ?_) hw
  rintro σ H Q ⟨v, S, g, s, e, h⟩ p hpn
  have x0 : Ext g H g (upd H p (.dK [])) := (Ext.refl g H).upd hpn _
  have o0 := s.freshOut hpn
  refine h2 σ _ _ ⟨v, S, g, s.updOut o0, e, (Fin.seqB h x0).imp (fun ps g1 H1 x1 ⟨S1, s1, x1', x01, h3⟩ kvs rk => ?_) fun _ _ _ _ z => z⟩
  split at h3
  · rename_i hz
    have hD := x1.rest p _ upd_same o0
    have o1 := x1.out o0 (by rw [upd_same]; exact fun z => nomatch z)
    exact ⟨hD, kvs, rfl, by rw [rk.len]; exact hz, hf (s1.updOut o1) (x01.upd hpn _) hpn o1 upd_same (rk.merge .nil List.nodup_nil) h3⟩
  · exact h3.elim
theorem sd_dsp {keys : List (Option Expr)} {vals : List Expr} {pr : CP} (hp : SDP ca X W keys vals pr) (hall : keys.all (·.isSome) = true := by rfl) (hl : keys.length = vals.length := by rfl) (h0 : keys ≠ [] := by exact fun z => nomatch z)
    (h15 : keys.length ≤ 15 := by decide) (hw : ∀ whole, isTrue (.Dict keys vals pos) X.env whole = (do let v ← whole; standAt (Expr.Dict keys vals pos).pos; holding [v] (truthy v)) := by intro _; rfl) : SD ca X W (.Dict keys vals pos) (dspM pr) := sd_dsp' finDT_ok hp hall hl h0 h15 hw
theorem sd_dspC {keys : List (Option Expr)} {vals : List Expr} {pr : CP} (hp : SDP ca X W keys vals pr) (hall : keys.all (·.isSome) = true := by rfl) (hl : keys.length = vals.length := by rfl) (h0 : keys ≠ [] := by exact fun z => nomatch z)
    (h15 : keys.length ≤ 15 := by decide) (hw : ∀ whole, isTrue (.Dict keys vals pos) X.env whole = (do let v ← whole; standAt (Expr.Dict keys vals pos).pos; holding [v] (truthy v)) := by intro _; rfl) : SD ca X W (.Dict keys vals pos) (dspMC pr) := sd_dsp' finDC_ok hp hall hl h0 h15 hw
/-! ### f-strings -/
abbrev CF := Ev → Str → S3 → R Str
def sNil : CF := fun _ acc S => .ok acc S
def sLit (z : Str) (r : CF) : CF := fun v acc S => if (acc ++ z).length ≤ lim then r v (acc ++ z) S else .bad
def fmtD : D → Option Str
  | .str y => if y.length ≤ lim then some y else none
  | .int i => if i.natAbs.log2 < 1920 then some (toString i) else none
  | _ => none
def sVal (m : CE) (r : CF) : CF := fun v acc S => (m v S).bind fun x S1 => match fmtD x with
  | some y => if (acc ++ y).length ≤ lim then r v (acc ++ y) S1 else .bad
  | none => .bad
def fstM (r : CF) : CE := fun v S => (r v Str.empty S).bind fun z S1 => .ok (.str z) S1
variable (ca)
structure SDF (X : Cx) (W : WX) (es : List Expr) (m : CF) : Prop where
  ex : ∃ ts : List TE, PJ X es ts ∧ ∀ σ H acc (Q : Str → Hp → Prop), (∃ v S g, Sim ca g S H ∧ EnvR ca g v σ ∧ Fin ca g H (m v acc S) (fun z g' H' => Q z H') (fun e g' H' => ∀ cls od, RepX ca g' H' cls od e → W cls od σ H')) → tJs ts acc σ H Q
variable {ca}
theorem sdf_nil : SDF ca X W [] sNil := ⟨[], .nil, fun σ H acc Q ⟨v, S, g, s, e, h⟩ => h g H (.refl _ _) s⟩
theorem sdf_lit {z : Str} {j : Nat} {r : CF} (hr : SDF ca X W es r) : SDF ca X W (.Constant (.str z) j pos :: es) (sLit z r) := by
  obtain ⟨ts, h1, h2⟩ := hr.ex
  refine ⟨_ :: ts, .cons pe_str h1, ?_⟩
  rintro σ H acc Q ⟨v, S, g, s, e, h⟩
  unfold sLit at h
  split at h
  · rename_i hz
    exact ⟨z, rfl, Nat.le_trans hz lim_le, h2 σ H _ Q ⟨v, S, g, s, e, h⟩⟩
  · exact h.elim
theorem sdf_val {r : CF} (he : SD ca X W e m) (hr : SDF ca X W es r) : SDF ca X W (.FormattedValue e (-1) none pos :: es) (sVal m r) := by
  obtain ⟨ts, h1, h2⟩ := hr.ex
  refine ⟨_ :: ts, .cons (pe_fmt he.pe) h1, ?_⟩
  rintro σ H acc Q ⟨v, S, g, s, e, h⟩
  refine ⟨v, S, g, s, e, (Fin.seq h).imp (fun d g1 H1 x1 ⟨S1, s1, h3⟩ xv rv => ?_) fun _ _ _ _ z => z⟩
  split at h3
  · rename_i y hy
    split at h3
    · rename_i hz
      have fin : tJs ts (acc ++ y) σ H1 Q := h2 σ H1 _ Q ⟨v, S1, g1, s1, e.mono x1.le, h3⟩
      unfold fmtD at hy
      split at hy
      · split at hy
        · rename_i hy2
          cases hy; cases rv
          exact .inl ⟨_, rfl, Nat.le_trans hy2 lim_le, _, rfl, Nat.le_trans hz lim_le, fin⟩
        · cases hy
      · split at hy
        · rename_i hy2
          cases hy; cases rv
          exact .inr ⟨_, rfl, hy2, _, rfl, Nat.le_trans hz lim_le, fin⟩
        · cases hy
      · cases hy
    · exact h3.elim
  · exact h3.elim
theorem sd_fst {v1 v2 : Expr} {rest : List Expr} {r : CF} (hr : SDF ca X W (v1 :: v2 :: rest) r) (hw : ∀ whole, isTrue (.JoinedStr (v1 :: v2 :: rest) pos) X.env whole = (do let v ← whole; standAt (Expr.JoinedStr (v1 :: v2 :: rest) pos).pos; holding [v] (truthy v)) := by intro _; rfl) : SD ca X W (.JoinedStr (v1 :: v2 :: rest) pos) (fstM r) := by
  obtain ⟨ts, h1, h2⟩ := hr.ex
  refine .of (PE_imp (pe_joined h1) ?_) hw
  rintro σ H Q ⟨v, S, g, s, e, h⟩
  exact h2 σ H _ _ ⟨v, S, g, s, e, (Fin.seq h).imp (fun z g1 H1 x1 ⟨S1, s1, h3⟩ => h3 g1 H1 (.refl _ _) s1 _ (.str z)) fun _ _ _ _ z => z⟩
end
/-! ### methods with keywords -/
section
variable {X : Cx} {W : WX} {e o : Expr} {es : List Expr} {mo : CE} {ms mk : CA} {m : Fn} {k j c n : Nat} {mn : Str} {pos apos : Pos} {kws : List Keyword} {ks : List Str}
def cat2 {α : Type} (a b : List α) : List α := a ++ b
structure CalMK (ca : CAK) (P : Program) (w : World) (K : PySem.W.Frag) (mg : Str → Option Value) (base : Heap) (k c : Nat) (mn : Str) (m : Fn) (n : Nat) (ks : List Str) : Prop where
  ex : ∃ (f : Addr) (fd : FuncData) (ps : List Str), FnOk P w K mg base (L2N.CX P w) k f fd ps (spM ca m) ∧ Cls K (ca c) ∧ Meth K (ca c) mn f ∧ KBn K fd ps n ks cat2 cat2
variable (ca)
def rdK (W : WX) (m : CA) : TA := rdA ca W m
variable {ca}
theorem PK_imp {X : Cx} {e : List Keyword} {t t' : TA} (h : PK X e t) (i : ∀ σ H Q, t' σ H Q → t σ H Q) : PK X e t' := ⟨fun pos pins s σ H Q I q => h.run pos pins s σ H Q I (i σ H Q q)⟩
theorem sdk_nil : PK X [] (rdA ca W aNil) := PK_imp pk_nil <| by
  rintro σ H Q ⟨v, S, g, s, e, h⟩
  exact h g H (.refl _ _) s _ .nil
theorem sdk_cons {ma : CE} {nm : Option Str} {kpos : Pos} (ha : SD ca X W e ma) (hr : PK X kws (rdA ca W ms)) : PK X (⟨nm, e, kpos⟩ :: kws) (rdA ca W (aCons ma ms)) := PK_imp (pk_cons ha.pe hr) <| by
  rintro σ H Q ⟨v, S, g, s, e, h⟩
  refine ⟨v, S, g, s, e, (Fin.seq h).imp (fun d g1 H1 x1 ⟨S1, s1, h1⟩ xv rv => ?_) fun _ _ _ _ z => z⟩
  refine ⟨v, S1, g1, s1, e.mono x1.le, (Fin.seq h1).imp (fun ds g2 H2 x2 ⟨S2, s2, h2⟩ xs rs => ?_) fun _ _ _ _ z => z⟩
  exact h2 g2 H2 (.refl _ _) s2 _ (.cons (rv.mono x2.le) rs)
def methKM (c : Nat) (mn : Str) (n l : Nat) (mo : CE) (ms mk : CA) (m : Fn) : CE := fun v S => (mo v S).bind fun o S1 => match insOf S1 o with
  | some (c', fs) => if c' = c ∧ getA fs mn = none then (ms v S1).bind fun xs S2 => (mk v S2).bind fun zs S3 => if xs.length + 1 = n ∧ zs.length = l then m (o :: (xs ++ zs)) S3 else .bad else .bad
  | none => .bad
theorem run_fnNS {CX : CXT} {f : Addr} {fd : FuncData} {ps : List Str} {sp : Sp} {E : XK} {g : List Value → List Value → List Value} {gV : List V → List V → List V} {pins : List (Addr × Obj)} {σ : St} {H : Hp} {s : Shared} {Q : VK} {us ws : List Value} {vs zs : List V} (F : FnOk X.prog X.w X.K X.mg X.base CX k f fd ps sp) (hr : Room k X.A) (hb : KBn X.K fd ps n ks g gV) (hx : PassesAt CX X σ E)
    (I : Inv X pins σ H s) (r : Vals vs us) (rz : Vals zs ws) (l1 : vs.length = n) (l2 : zs.length = ks.length) (h : sp (gV vs zs) H Q E) : wpAny (model X.prog X.w) X.A (call (.ref f) us (ks.zip ws)) (EP X pins σ Q) X.xe s := by
  refine wpAny_call (codeAny_mono (F.run X.A X.stack s H ⟨us, ks.zip ws⟩ (g us ws) (gV vs zs) Q E hr I.env0 (hb.to s us ws I.kIn (r.length.symm.trans l1) (rz.length.symm.trans l2)) (hb.rel r rz) h) fun r s' hq => ?_)
  cases r with
  | error e => exact hx pins H s e s' I hq
  | ok fl => cases fl with
    | ret u => exact I.after hq
    | _ => exact False.elim hq
theorem sd_methK {pl : Sem Bool} (C : CO ca X W k) (F : CalMK ca X.prog X.w X.K X.mg X.base j c mn m n ks) (hj : j ≤ k) (ho : SD ca X W o mo) (ha : PA X (e :: es) (rdA ca W ms)) (hkw : PK X kws (rdA ca W mk))
    (hall : (backToKw pos (keywordEach kws X.env)).all (·.1.isSome) = true := by rfl) (hks : (backToKw pos (keywordEach kws X.env)).filterMap (·.1) = ks := by rfl)
    (hst : starEach (e :: es) X.env = (false, eval e X.env) :: starEach es X.env := by rfl) (hpl : ((backTo pos (starEach (e :: es) X.env)).any (·.1) || (backToKw pos (keywordEach kws X.env)).any (·.1.isNone)) = false := by rfl)
    (ht : eval (.Call (.Attribute o mn apos) (e :: es) kws pos) X.env = (do
      let ov ← eval o X.env
      standAt apos.atName
      let (f, first) ← holding [ov] (getMethod ov mn pl)
      callWith pos f first (backTo pos (starEach (e :: es) X.env)) (backToKw pos (keywordEach kws X.env))) := by rfl)
    (hw : ∀ whole, isTrue (.Call (.Attribute o mn apos) (e :: es) kws pos) X.env whole = (do let v ← whole; standAt (Expr.Call (.Attribute o mn apos) (e :: es) kws pos).pos; holding [v] (truthy v)) := by intro _; rfl) :
    SD ca X W (.Call (.Attribute o mn apos) (e :: es) kws pos) (methKM c mn n ks.length mo ms mk m) := by
  obtain ⟨f, fd, ps, F, hc, hm, hb⟩ := F.ex
  refine .of ⟨fun pins s σ H Q I h => ?_⟩ hw
  obtain ⟨v, S, g, sm, ev, h⟩ := h
  refine PySem.W.methodCall_KW (pl := pl) (thn (ho.pe.run pins s σ H (fun x H1 => ∃ (p dx : Addr) (ws : List (Str × V)), x = .ref p ∧ H1 p = some (.ins (ca c) dx ws) ∧ ws.lookup mn = none ∧ rdA ca W ms σ H1 fun xs H2 => rdA ca W mk σ H2 fun zs H3 => (V.ref p :: xs).length = n ∧ zs.length = ks.length ∧ spM ca m (V.ref p :: (xs ++ zs)) H3 Q (WE W σ)) I ⟨v, S, g, sm, ev, (Fin.seq h).imp (fun o g1 H1 x1 ⟨S1, s1, h1⟩ ov ro => ?_) fun _ _ _ _ z => z⟩) fun u s1 ⟨x, H1, I1, rx, a, dx, fs, ex, ea, l, q⟩ => ?_) ht
  · split at h1
    · rename_i c' fs hi
      split at h1
      · rename_i hcn
        obtain ⟨rfl, hn⟩ := hcn
        obtain ⟨p, dx, ws, rfl, hp, rf⟩ := s1.ins ro hi
        refine ⟨p, dx, ws, rfl, hp, rf.none hn, v, S1, g1, s1, ev.mono x1.le, (Fin.seq h1).imp (fun xs g2 H2 x2 ⟨S2, s2, h2⟩ vs rv => ?_) fun _ _ _ _ z => z⟩
        refine ⟨v, S2, g2, s2, ev.mono (x1.trans x2).le, (Fin.seq h2).imp (fun zs g3 H3 x3 ⟨S3, s3, h3⟩ zv rz => ?_) fun _ _ _ _ z => z⟩
        split at h3
        · rename_i hl
          exact ⟨by rw [List.length_cons, rv.len]; exact hl.1, by rw [rz.len]; exact hl.2, sp_of s3 (.cons (ro.mono (x2.trans x3).le) ((rv.mono x3.le).app rz)) h3⟩
        · exact h3.elim
      · exact h1.elim
    · exact h1.elim
  · subst ex
    obtain rfl : u = Value.ref a := rx
    refine getmeth_ok I1 ea hc hm l ?_
    refine PySem.W.callWith_KW (first := [.ref a]) (h₀ := X.base) I.ok.mod.kin hm.kp hall (thn (ha.run pos pins s1 σ H1 _ I1 q) fun us s2 ⟨vs, H2, I2, r, q2⟩ => ?_) hpl hst
    refine thn (hkw.run pos pins s2 σ H2 _ I2 q2) fun ws s3 ⟨zs, H3, I3, rz, l1, l2, q3⟩ => ⟨I3.kIn, ?_⟩
    rw [hks]
    exact run_fnNS (us := .ref a :: us) (vs := .ref a :: vs) F (C.rm.mono hj) hb (L2N.passAt C.tk σ) I3 (.cons rfl r) rz l1 l2 q3
end
end M3
/-! M3R: sorted. -/
namespace M3
open PySem L2
variable {ca : CAK}
/-! ### by hand -/
section
variable {α : Type} (le : α → α → Bool)
def insB (x : α) : List α → List α
  | [] => [x]
  | y :: r => if le x y then x :: y :: r else y :: insB x r
def srtB : List α → List α
  | [] => []
  | x :: r => insB le x (srtB r)
variable {le}
theorem insB_perm (x : α) : ∀ l : List α, (insB le x l).Perm (x :: l)
  | [] => .refl _
  | y :: r => by
    unfold insB
    split
    · exact .refl _
    · exact ((insB_perm x r).cons y).trans (.swap x y r)
theorem srtB_perm : ∀ l : List α, (srtB le l).Perm l
  | [] => .refl _
  | x :: r => (insB_perm x _).trans ((srtB_perm r).cons x)
theorem insB_pw (tot : ∀ a b, le a b = true ∨ le b a = true) (tr : ∀ a b c, le a b = true → le b c = true → le a c = true) (x : α) : ∀ l : List α, l.Pairwise (fun a b => le a b = true) → (insB le x l).Pairwise (fun a b => le a b = true)
  | [], _ => List.pairwise_singleton _ _
  | y :: r, h => by
    obtain ⟨h1, h2⟩ := List.pairwise_cons.mp h
    unfold insB
    split
    · rename_i hxy
      refine List.pairwise_cons.mpr ⟨fun z hz => ?_, h⟩
      rcases List.mem_cons.mp hz with rfl | hz
      · exact hxy
      · exact tr _ _ _ hxy (h1 z hz)
    · rename_i hxy
      refine List.pairwise_cons.mpr ⟨fun z hz => ?_, insB_pw tot tr x r h2⟩
      rcases List.mem_cons.mp ((insB_perm x r).mem_iff.mp hz) with rfl | hz
      · exact (tot _ _).resolve_left hxy
      · exact h1 z hz
theorem srtB_pw (tot : ∀ a b, le a b = true ∨ le b a = true) (tr : ∀ a b c, le a b = true → le b c = true → le a c = true) : ∀ l : List α, (srtB le l).Pairwise (fun a b => le a b = true)
  | [] => .nil
  | x :: r => insB_pw tot tr x _ (srtB_pw tot tr r)
theorem srtB_eq (tot : ∀ a b, le a b = true ∨ le b a = true) (tr : ∀ a b c, le a b = true → le b c = true → le a c = true) (an : ∀ a b, le a b = true → le b a = true → a = b) {l m : List α} (p : m.Perm l) (s : m.Pairwise (fun a b => le a b = true)) : m = srtB le l :=
  List.Perm.eq_of_pairwise (fun a b _ _ => an a b) s (srtB_pw tot tr l) (p.trans (srtB_perm l).symm)
end
def leI (i j : Int) : Bool := decide (i ≤ j)
theorem leI_tot : ∀ a b, leI a b = true ∨ leI b a = true := fun a b => by unfold leI; simp only [decide_eq_true_eq]; omega
theorem leI_tr : ∀ a b c, leI a b = true → leI b c = true → leI a c = true := fun a b c => by unfold leI; simp only [decide_eq_true_eq]; omega
theorem leI_an : ∀ a b, leI a b = true → leI b a = true → a = b := fun a b => by unfold leI; simp only [decide_eq_true_eq]; omega
def leS (a b : Str) : Bool := !decide (b.cps.toList < a.cps.toList)
theorem leS_iff {a b : Str} : leS a b = true ↔ a.cps.toList ≤ b.cps.toList := by
  unfold leS
  rw [Bool.not_eq_true', decide_eq_false_iff_not]
  exact List.not_lt
theorem leS_tot : ∀ a b, leS a b = true ∨ leS b a = true := fun a b => by
  rw [leS_iff, leS_iff]
  exact List.le_total _ _
theorem leS_tr : ∀ a b c, leS a b = true → leS b c = true → leS a c = true := fun a b c => by
  rw [leS_iff, leS_iff, leS_iff]
  exact List.le_trans
theorem leS_an : ∀ a b, leS a b = true → leS b a = true → a = b := fun a b h1 h2 => by
  rw [leS_iff] at h1 h2
  have := List.le_antisymm h1 h2
  cases a; cases b
  exact congrArg _ (Array.toList_inj.mp this)
/-- pairs, by their first, then by their second -/
def leP (p q : Str × Str) : Bool := if p.1 = q.1 then leS p.2 q.2 else leS p.1 q.1
theorem leP_tot : ∀ a b, leP a b = true ∨ leP b a = true := fun a b => by
  unfold leP
  by_cases e : a.1 = b.1
  · rw [if_pos e, if_pos e.symm]; exact leS_tot _ _
  · rw [if_neg e, if_neg (Ne.symm e)]; exact leS_tot _ _
theorem leP_tr : ∀ a b c, leP a b = true → leP b c = true → leP a c = true := fun a b c => by
  unfold leP
  by_cases e : a.1 = b.1
  · by_cases e2 : b.1 = c.1
    · rw [if_pos e, if_pos e2, if_pos (e.trans e2)]; exact leS_tr _ _ _
    · rw [if_pos e, if_neg e2, if_neg (fun z => e2 (e.symm.trans z))]
      rw [← e]
      exact fun _ h => h
  · by_cases e2 : b.1 = c.1
    · rw [if_neg e, if_pos e2, if_neg (fun z => e (z.trans e2.symm)), e2]
      exact fun h _ => h
    · rw [if_neg e, if_neg e2]
      intro h1 h2
      by_cases e3 : a.1 = c.1
      · rw [← e3] at h2
        exact absurd (leS_an _ _ h1 h2) e
      · rw [if_neg e3]; exact leS_tr _ _ _ h1 h2
theorem leP_an : ∀ a b, leP a b = true → leP b a = true → a = b := fun a b => by
  unfold leP
  by_cases e : a.1 = b.1
  · rw [if_pos e, if_pos e.symm]
    intro h1 h2
    exact Prod.ext e (leS_an _ _ h1 h2)
  · rw [if_neg e, if_neg (Ne.symm e)]
    intro h1 h2
    exact absurd (leS_an _ _ h1 h2) e
/-! ### of data -/
def intsOf : List D → Option (List Int)
  | [] => some []
  | .int i :: r => (intsOf r).map (i :: ·)
  | _ :: _ => none
def strsOf : List D → Option (List Str)
  | [] => some []
  | .str i :: r => (strsOf r).map (i :: ·)
  | _ :: _ => none
def prsOf : List D → Option (List (Str × Str))
  | [] => some []
  | .tup [.str a, .str b] :: r => (prsOf r).map ((a, b) :: ·)
  | _ :: _ => none
def prD (p : Str × Str) : D := .tup [.str p.1, .str p.2]
def sortD (xs : List D) : Option (List D) := match intsOf xs with
  | some ns => some ((srtB leI ns).map .int)
  | none => match strsOf xs with
    | some zs => if zs.length < 64 then some ((srtB leS zs).map .str) else none
    | none => (prsOf xs).map fun ps => (srtB leP ps).map prD
theorem intsOf_rep {g : Wld} : ∀ {ds : List D} {vs : List V} {ns : List Int}, RepL ca g vs ds → intsOf ds = some ns → vs = ns.map V.int
  | [], _, bs, .nil, h => by unfold intsOf at h; cases h; rfl
  | d :: ds, _, bs, .cons r t, h => by
    unfold intsOf at h
    split at h
    · rename_i e; cases e
    · rename_i e
      cases e
      obtain ⟨cs, hc, e⟩ := Option.map_eq_some_iff.mp h
      subst e
      cases r
      rw [intsOf_rep t hc]
      rfl
    · cases h
theorem strsOf_rep {g : Wld} : ∀ {ds : List D} {vs : List V} {ns : List Str}, RepL ca g vs ds → strsOf ds = some ns → vs = ns.map V.str
  | [], _, bs, .nil, h => by unfold strsOf at h; cases h; rfl
  | d :: ds, _, bs, .cons r t, h => by
    unfold strsOf at h
    split at h
    · rename_i e; cases e
    · rename_i e
      cases e
      obtain ⟨cs, hc, e⟩ := Option.map_eq_some_iff.mp h
      subst e
      cases r
      rw [strsOf_rep t hc]
      rfl
    · cases h
theorem RepL.ints {g : Wld} : ∀ ns : List Int, RepL ca g (ns.map V.int) (ns.map D.int)
  | [] => .nil
  | n :: r => .cons (.int n) (RepL.ints r)
theorem RepL.strs {g : Wld} : ∀ ns : List Str, RepL ca g (ns.map V.str) (ns.map D.str)
  | [] => .nil
  | n :: r => .cons (.str n) (RepL.strs r)
theorem risingS_pw : ∀ (ys : List Str) (p : Str), PyProof.Rows.risingS p ys = true → (p :: ys).Pairwise (fun a b => leS a b = true)
  | [], p, _ => List.pairwise_singleton _ _
  | x :: r, p, h => by
    unfold PyProof.Rows.risingS at h
    rw [Bool.and_eq_true] at h
    have h2 := risingS_pw r x h.2
    have h1 : leS p x = true := by
      have z := h.1
      rw [PyProof.Rows.ltCps_eq] at z
      exact z
    refine List.pairwise_cons.mpr ⟨fun z hz => ?_, h2⟩
    rcases List.mem_cons.mp hz with rfl | hz
    · exact h1
    · exact leS_tr _ _ _ h1 ((List.pairwise_cons.mp h2).1 z hz)
theorem sortedS_pw : ∀ (ys : List Str), PyProof.Rows.sortedS ys = true → ys.Pairwise (fun a b => leS a b = true)
  | [], _ => .nil
  | x :: r, h => risingS_pw r x h
end M3
/-! M3S: sorted, pairs of texts. -/
namespace M3N
open PySem PyProof.Rows Srt SrtO M3
section
variable {prog : Program} {w : World} {A : Around} {s : Shared}
def IsPS (h : Heap) (v : Value) (p : Str × Str) : Prop := ∃ (a : Addr) (o : Obj) (t u : Tok) (n : Nat), v = .ref a ∧ h.get? a = some o ∧ o.cls = .type "tuple" ∧ o.data = .seq #[.str p.1 t, .str p.2 u] n
def ltP (p q : Str × Str) : Bool := !leP q p
theorem swo_P (k : Value → Str × Str) : Swo fun v u => ltP (k v) (k u) := by
  refine ⟨fun x y h => ?_, fun x y z h1 h2 => ?_⟩
  · unfold ltP at h ⊢
    rw [Bool.not_eq_true'] at h
    rw [Bool.not_eq_false']
    exact (leP_tot _ _).resolve_left (by rw [h]; exact Bool.false_ne_true)
  · unfold ltP at h1 h2 ⊢
    rw [Bool.not_eq_false'] at h1 h2 ⊢
    first
      | exact leP_tr _ _ _ h1 h2
      | exact leP_tr _ _ _ h2 h1
theorem ltP_eq (x y x' y' : Str) : ltP (x, y) (x', y') = if x = x' then decide (y.cps.toList < y'.cps.toList) else decide (x.cps.toList < x'.cps.toList) := by
  unfold ltP leP leS
  by_cases e : x = x'
  · rw [if_pos e, if_pos e.symm, Bool.not_not]
  · rw [if_neg e, if_neg (Ne.symm e), Bool.not_not]
theorem ps_cmp {vs : List Value} {k : Value → Str × Str} (hp : ∀ v ∈ vs, IsPS s.heap v (k v)) : Cmp prog w A s (tuples' true) (fun p => p.1 ∈ vs) (lt2 fun v u => ltP (k v) (k u)) := by
  intro p q hm hm'
  have h1 := hp _ hm
  have h2 := hp _ hm'
  show wpAny (model prog w) A (keyLt' (tuples' true) p.1 q.1) (fun r s' => s' = s ∧ r = ltP (k p.1) (k q.1)) (fun _ _ => False) s
  generalize k p.1 = kp at h1 ⊢
  generalize k q.1 = kq at h2 ⊢
  obtain ⟨x, y⟩ := kp
  obtain ⟨x', y'⟩ := kq
  obtain ⟨a, o, t, u, n, e, ho, hc, hd⟩ := h1
  obtain ⟨a', o', t', u', n', e', ho', hc', hd'⟩ := h2
  rw [e, e', ltP_eq]
  refine PySem.W.kat_lt ho hd ho' hd' ?_
  show PySem.W.KatLex prog w A true (decide (2 < 2)) _ [(.str x t, .str x' t'), (.str y u, .str y' u')] 0 s
  refine PySem.W.kat_cons (SeqAt.EqAt.str_str x t x' t' prog w _ _ ?_)
  refine PySem.W.kat_go (fun e1 => ?_) (fun e1 => ?_)
  · have ex : x = x' := by simpa using e1
    refine PySem.W.kat_yes (PySem.W.kat_cons (SeqAt.EqAt.str_str y u y' u' prog w _ _ ?_))
    refine PySem.W.kat_go (fun e2 => ?_) (fun e2 => ?_)
    · have ey : y = y' := by simpa using e2
      have e3 : (if x = x' then decide (y.cps.toList < y'.cps.toList) else decide (x.cps.toList < x'.cps.toList)) = false := by
        rw [if_pos ex, ey]
        exact decide_eq_false (List.lt_irrefl _)
      exact PySem.W.kat_yes (PySem.W.kat_nil ⟨rfl, e3.symm⟩)
    · have e3 : (if x = x' then decide (y.cps.toList < y'.cps.toList) else decide (x.cps.toList < x'.cps.toList)) = decide (y.cps.toList < y'.cps.toList) := if_pos ex
      refine PySem.W.kat_no (PySem.W.kat_one _ _ (PyProof.Rows.lt_str ?_))
      exact (show s = s ∧ decide (y.cps.toList < y'.cps.toList) = (if x = x' then decide (y.cps.toList < y'.cps.toList) else decide (x.cps.toList < x'.cps.toList)) from ⟨rfl, e3.symm⟩)
  · have ex : ¬ x = x' := by simpa using e1
    have e3 : (if x = x' then decide (y.cps.toList < y'.cps.toList) else decide (x.cps.toList < x'.cps.toList)) = decide (x.cps.toList < x'.cps.toList) := if_neg ex
    exact PySem.W.kat_no (oneLt_str ⟨rfl, e3.symm⟩)
theorem ps_firsts {h : Heap} : ∀ {vs : List Value} {k : Value → Str × Str}, (∀ v ∈ vs, IsPS h v (k v)) → ∃ fs : List Value, PySem.W.KatTups h vs fs ∧ fs.length = vs.length ∧ ∀ f ∈ fs, ∃ x t, f = Value.str x t
  | [], _, _ => ⟨[], .nil, rfl, fun _ hm => by simp at hm⟩
  | v :: vs, k, hp => by
    obtain ⟨fs, h1, h2, h3⟩ := ps_firsts (vs := vs) fun v' hm => hp v' (List.mem_cons_of_mem _ hm)
    obtain ⟨a, o, t, u, n, e, ho, hc, hd⟩ := hp v (List.mem_cons_self ..)
    rw [e]
    refine ⟨.str (k v).1 t :: fs, .cons ho hc hd rfl h1, by rw [List.length_cons, List.length_cons, h2], fun f hm => ?_⟩
    rcases List.mem_cons.mp hm with rfl | hm
    · exact ⟨_, t, rfl⟩
    · exact h3 f hm
theorem ps_sortable {a : Addr} {vs : List Value} {k : Value → Str × Str} (h0 : 0 < vs.length) (hp : ∀ v ∈ vs, IsPS s.heap v (k v)) (ha : ∀ o, s.heap.get? a = some o → o.cls ≠ .type "tuple") : SortableO prog w A s a vs fun v u => ltP (k v) (k u) := by
  intro h' keep
  have hp' : ∀ v ∈ vs, IsPS h' v (k v) := fun v hm => by
    obtain ⟨b, o, t, u, n, e, ho, hc, hd⟩ := hp v hm
    exact ⟨b, o, t, u, n, e, keep b o (fun z => by subst z; exact ha o ho hc) ho, hc, hd⟩
  obtain ⟨fs, h1, h2, h3⟩ := ps_firsts hp'
  refine ⟨tuples' true, fun Q E hq => ?_, ps_cmp hp'⟩
  refine PySem.W.kat_kind (T := .type "str") h1 (by omega) (fun f hm => ?_) (by rfl) ?_
  · obtain ⟨x, t, rfl⟩ := h3 f hm
    exact PySem.W.Looks.now
  · have e : (Value.type "str" != Value.type "tuple") = true := by decide +kernel
    rw [e]
    exact hq
end
end M3N
namespace M3
open PySem L2
variable {ca : CAK}
section
variable {X : Cx}
theorem isPS_det {h : Heap} {v : Value} {p q : Str × Str} (a : M3N.IsPS h v p) (b : M3N.IsPS h v q) : p = q := by
  obtain ⟨x, o, t, u, n, e, ho, _, hd⟩ := a
  obtain ⟨x', o', t', u', n', e', ho', _, hd'⟩ := b
  rw [e] at e'
  cases e'
  rw [ho] at ho'
  cases ho'
  rw [hd] at hd'
  injection hd' with h1 _
  obtain ⟨p1, p2⟩ := p
  obtain ⟨q1, q2⟩ := q
  simp only [Array.mk.injEq, List.cons.injEq, Value.str.injEq, and_true] at h1
  rw [h1.1.1, h1.2.1]
open Classical in
noncomputable def psOf (h : Heap) (v : Value) : Str × Str := if e : ∃ p, M3N.IsPS h v p then e.choose else (Str.empty, Str.empty)
theorem psOf_eq {h : Heap} {v : Value} {p : Str × Str} (a : M3N.IsPS h v p) : psOf h v = p := by
  unfold psOf
  rw [dif_pos ⟨p, a⟩]
  exact isPS_det (Exists.choose_spec (⟨p, a⟩ : ∃ p, M3N.IsPS h v p)) a
theorem prs_rep {pins : List (Addr × Obj)} {σ : L2.St} {H : Hp} {s : Shared} {g : Wld} {S : S3} (I : Inv X pins σ H s) (sm : Sim ca g S H) : ∀ {ds : List D} {vs : List V} {us : List Value} {ps : List (Str × Str)}, RepL ca g vs ds → prsOf ds = some ps → Vals vs us →
    us.map (psOf s.heap) = ps ∧ ∀ u ∈ us, M3N.IsPS s.heap u (psOf s.heap u) ∧ ∃ b, u = .ref b ∧ Rep ca g (.ref b) (prD (psOf s.heap u))
  | [], _, _, ps, .nil, h, .nil => by
    unfold prsOf at h
    cases h
    exact ⟨rfl, fun u hu => by cases hu⟩
  | _ :: _, _, [], _, .cons _ _, _, hv => nomatch hv
  | d :: ds, _, u :: us, ps, .cons r t, h, .cons rv tv => by
    unfold prsOf at h
    split at h
    · rename_i e; cases e
    · rename_i sa sb rr e
      cases e
      obtain ⟨cs, hc, e⟩ := Option.map_eq_some_iff.mp h
      subst e
      obtain ⟨h1, h2⟩ := prs_rep I sm t hc tv
      obtain ⟨a, ws, rfl, ha, rw'⟩ := sm.tup r
      obtain ⟨x, y, rfl, rx, ry⟩ := rw'.two
      cases rx
      cases ry
      cases rv
      obtain ⟨_, its2, r2, o, ho, hcl, n, hd⟩ := I.hok _ _ ha
      have key : ∃ t u, its2 = [.str sa t, .str sb u] := by
        cases r2 with
        | cons p q => cases q with
          | cons p' q' =>
            cases q'
            obtain ⟨t1, rfl⟩ := p
            obtain ⟨t2, rfl⟩ := p'
            exact ⟨t1, t2, rfl⟩
      obtain ⟨t1, t2, rfl⟩ := key
      have ip : M3N.IsPS s.heap (.ref a) (sa, sb) := ⟨a, o, t1, t2, n, rfl, ho, hcl, hd⟩
      have ek := psOf_eq ip
      refine ⟨by rw [List.map_cons, ek, h1], fun u hu => ?_⟩
      rcases List.mem_cons.mp hu with rfl | hu
      · rw [ek]
        exact ⟨ip, a, rfl, r⟩
      · exact h2 u hu
    · cases h
theorem repL_back {g : Wld} {h : Heap} : ∀ {us : List Value}, (∀ u ∈ us, ∃ b, u = .ref b ∧ Rep ca g (.ref b) (prD (psOf h u))) → RepL ca g (us.map backV) (us.map fun u => prD (psOf h u))
  | [], _ => .nil
  | u :: us, k => by
    obtain ⟨b, e, r⟩ := k u List.mem_cons_self
    rw [List.map_cons, List.map_cons]
    refine .cons ?_ (repL_back fun v hv => k v (List.mem_cons_of_mem _ hv))
    rw [e] at r ⊢
    exact r
theorem call_sortAny {pins : List (Addr × Obj)} {s : Shared} {σ : L2.St} {H : Hp} {v : V} {us : List Value} {Q : VK} {g : Wld} {S : S3} {d : D} {xs ys : List D} (I : Inv X pins σ H s) (r : L2.Vals [v] us) (sm : Sim ca g S H) (rd : Rep ca g v d) (h : lstOf S d = some xs) (hs : sortD xs = some ys)
    (q : ∀ vs, RepL ca g vs ys → ∀ p, H p = none → Q (.ref p) (upd H p (.lst vs))) : wpAny (model X.prog X.w) X.A (call (.builtin "sorted") us) (EP X pins σ Q) X.xe s := by
  obtain ⟨a, vs, rfl, ha, ra⟩ := sm.lst rd h
  unfold sortD at hs
  split at hs
  · rename_i ns hn
    cases hs
    have ev := intsOf_rep ra hn
    exact cr_sortedI pins s σ H _ us Q I r ⟨a, ns, rfl, .inl (ev ▸ ha), fun ns' p h1 h2 h3 => by
      have e : ns' = srtB leI ns := srtB_eq leI_tot leI_tr leI_an h1 (h2.imp fun {x y} z => decide_eq_true z)
      exact q _ (by rw [e]; exact RepL.ints _) p h3⟩
  · split at hs
    · rename_i zs hz
      split at hs
      · rename_i h64
        cases hs
        have ev := strsOf_rep ra hz
        exact cr_sortedS pins s σ H _ us Q I r ⟨a, zs, rfl, .inl (ev ▸ ha), h64, fun zs' p h1 h2 h3 => by
          have e : zs' = srtB leS zs := srtB_eq leS_tot leS_tr leS_an h1 (sortedS_pw _ h2)
          exact q _ (by rw [e]; exact RepL.strs _) p h3⟩
      · cases hs
    · obtain ⟨ps, hp, e⟩ := Option.map_eq_some_iff.mp hs
      subst e
      obtain ⟨its, rv, hl, hz⟩ := I.list (.inl ha)
      rw [L2.Vals.ref1 r]
      obtain ⟨h1, h2⟩ := prs_rep I sm ra hp rv
      refine SrtO.sorted_ord (M3N.swo_P (psOf s.heap)) hl.isList (by rw [← rv.length]; exact hz) (fun hlen h₁ a' ha' keep => ?_) fun out hsr hst => ?_
      · refine M3N.ps_sortable (by omega) (fun u hu => ?_) (fun o ho => ?_)
        · obtain ⟨b, o, t, u', n, e, ho, hc, hd⟩ := (h2 u hu).1
          exact ⟨b, o, t, u', n, e, (keep b o ho).2, hc, hd⟩
        · have ho : h₁.get? a' = some o := ho
          rw [ha'] at ho
          cases ho
          show Value.type "list" ≠ Value.type "tuple"
          decide
      · obtain ⟨ep, he'⟩ := PyProof.Rows.sortedAll_at s.heap its out.toArray
        have h3 : ∀ u ∈ out, ∃ b, u = .ref b ∧ Rep ca g (.ref b) (prD (psOf s.heap u)) := fun u hu => (h2 u (hst.perm.mem_iff.mp hu)).2
        have e : out.map (psOf s.heap) = srtB leP ps := by
          refine srtB_eq leP_tot leP_tr leP_an ?_ ?_
          · rw [← h1]; exact hst.perm.map _
          · refine List.pairwise_map.mpr (hsr.imp fun {x y} z => ?_)
            have z : M3N.ltP (psOf s.heap y) (psOf s.heap x) = false := z
            unfold M3N.ltP at z
            rw [Bool.not_eq_false'] at z
            exact z
        have hlen : (out.map backV).length ≤ sizeLine := by rw [List.length_map, hst.perm.length_eq, ← rv.length]; exact hz
        refine ⟨.ref _, upd H (s.heap.objs.size + 1) (.lst (out.map backV)), I.laid (t' := s.toks) (fun _ _ => PyProof.Rows.sortedAll_old) (Nat.le_succ _) ⟨hlen, out, ep, vals_back (fun u hu => let ⟨b, e, _⟩ := h3 u hu; ⟨b, e⟩), he'⟩, rfl, q _ ?_ _ (I.hok.fresh (Nat.le_succ _))⟩
        have e2 : (srtB leP ps).map prD = out.map fun u => prD (psOf s.heap u) := by
          rw [← e, List.map_map]
          rfl
        rw [e2]
        exact repL_back h3
def sortF : OL := fun ds S => match ds with
  | [d] => match lstOf S d with
    | some xs => (sortD xs).map fun ys => (.lst ys, S)
    | none => none
  | _ => none
def sortC : OL := fun ds S => match ds with
  | [d] => match lstOf S d with
    | some xs => (sortD xs).map fun ys => (.cell S.nx, S.new (.lst ys))
    | none => none
  | _ => none
theorem call_sortF : CallR X (.builtin "sorted") (rdOL ca sortF) := by
  intro pins s σ H xs us Q I r ⟨g, S, ds, sm, rl, h⟩
  unfold sortF at h
  split at h
  · obtain ⟨v, rfl, rd⟩ := rl.one
    split at h
    · rename_i ys hy
      cases q : sortD ys with
      | none => rw [q] at h; exact h.elim
      | some zs => rw [q] at h; exact call_sortAny I r sm rd hy q fun vs rv => newLst sm rv h
    · exact h.elim
  · exact h.elim
theorem call_sortC : CallR X (.builtin "sorted") (rdOL ca sortC) := by
  intro pins s σ H xs us Q I r ⟨g, S, ds, sm, rl, h⟩
  unfold sortC at h
  split at h
  · obtain ⟨v, rfl, rd⟩ := rl.one
    split at h
    · rename_i ys hy
      cases q : sortD ys with
      | none => rw [q] at h; exact h.elim
      | some zs => rw [q] at h; exact call_sortAny I r sm rd hy q fun vs rv => newLstC sm rv h
    · exact h.elim
  · exact h.elim
end
end M3
/-! M3T: the number of unlike texts, by a set comprehension. -/
namespace M3N
open PySem L2
/-- a set of texts in the making -/
def SetT (P : Program) (w : World) (a : Addr) (S : Str → Bool) (n : Nat) : HO := .ext fun h => h.SetOf (strKind P w) a S n
section
variable {P : Program} {w : World}
theorem setOf_keep {h h' : Heap} {a : Addr} {S : Str → Bool} {n : Nat} (x : h.SetOf (strKind P w) a S n) (k : ∀ o, h.get? a = some o → h'.get? a = some o) : h'.SetOf (strKind P w) a S n := by
  obtain ⟨o, es, ep, t, ho, r⟩ := x
  exact ⟨o, es, ep, t, k o ho, r⟩
theorem setT_new {H : Hp} {h : Heap} {a : Addr} {S : Str → Bool} {n : Nat} (x : h.SetOf (strKind P w) a S n) : ObjOk P w H h a (SetT P w a S n) := by
  have ⟨o, _, _, _, ho, _⟩ := x
  exact ⟨x, ⟨o, ho⟩, fun h1 h2 p k => setOf_keep p k⟩
variable {A : Around} {E : Value → Shared → Prop} {s : Shared}
theorem add_text {a : Addr} {S : Str → Bool} {n : Nat} {y : Str} {t : Tok} {Q : Value → Shared → Prop} (hS : s.heap.SetOf (strKind P w) a S n) (room : n + 1 < scanBound)
    (hQ : ∀ h' tk, Heap.SameBut a s.heap h' → h'.SetOf (strKind P w) a (fun j => S j || decide (j = y)) (if S y = true then n else n + 1) → Q .none { s with heap := h', toks := tk }) :
    wpAny (model P w) A (call (.builtin "set.add") [.ref a, .str y t]) Q E s := by
  have hk : (strKind P w).is y (.str y t) = true := by show (y == y) = true; exact beq_self_eq_true y
  refine wpAny_call_entry F.slot_set_add hS.typeIs F.entry_set_add ?_ (F.args_set_add_2 _ _)
  unfold Builtin.«set.add» Builtin.Frozenset.oneOther
  simp only [List.isEmpty_nil, bind_assoc]
  unfold Builtin.Frozenset.addrOf setAdd
  refine wpAny_bind (wpAny_pure ?_)
  try dsimp only
  refine wpAny_bind (wpAny_pure ?_)
  try dsimp only
  refine wpAny_bind (wpAny_holding ?_)
  refine wpAny_bind ((strKind P w).pyHash hk ?_)
  refine wpAny_setAddHashed_of hk rfl hS room fun h' sb r => ?_
  show wpAny _ _ (ret Value.none) _ _ _
  exact wpAny_pure ⟨_, rfl, hQ h' _ sb r⟩
end
section
variable {X : Cx} {pins : List (Addr × Obj)} {σ : L2.St} {H : Hp} {s : Shared} {E : Value → Shared → Prop}
theorem put_text {D : Addr} {S : Str → Bool} {n : Nat} {y : Str} {u : Value} {Q : Value → Shared → Prop} (I : Inv X pins σ H s) (hD : H D = some (SetT X.prog X.w D S n)) (room : n + 1 < scanBound) (r : RelV (.str y) u)
    (h : ∀ s', Inv X pins σ (upd H D (SetT X.prog X.w D (fun j => S j || decide (j = y)) (if S y = true then n else n + 1))) s' → Q .none s') : wpAny (model X.prog X.w) X.A (call (.builtin "set.add") [.ref D, u]) Q E s := by
  obtain ⟨t, rfl⟩ := r
  refine add_text (I.hok D _ hD).1 room fun h' tk sb new => h _ ?_
  have ⟨o, _, _, _, ho, _⟩ := new
  exact I.write (e := D) (t' := tk) (by rw [hD]; trivial) (.inl rfl) (fun b u hb hu => (sb.2 b hb).trans hu) ⟨o, ho⟩ (setT_new new)
end
section
variable {X : Cx}
/-- {elt for tg in iter}, texts: D the new set, W by the turn and a measure -/
def tSt (P : Program) (w : World) (wi : TI) (g : TG) (te : TE) (vs : List Nat) : TE := fun σ H Q => wi σ H fun J H1 => ∀ D, H1 D = none → ∃ W : Nat → Nat → Hp → Prop, (∃ m, W 0 m (upd H1 D (SetT P w D (fun _ => false) 0))) ∧ ∀ i m H, W i m H →
  (J.stop i H ∧ Q (.ref D) H) ∨ (J.go i H ∧ ∃ Nx : Hp → Prop, (∀ H', Nx H' → ∃ m', m' < m ∧ W (i + 1) m' H') ∧ ∀ x H', J.yld i H x H' → g x (wipe σ vs) H' fun σ2 H2 => wipe σ2 vs = wipe σ vs ∧ te σ2 H2 fun y H4 =>
    ∃ (z : Str) (S : Str → Bool) (n : Nat), y = .str z ∧ H4 D = some (SetT P w D S n) ∧ n + 1 < scanBound ∧ Nx (upd H4 D (SetT P w D (fun j => S j || decide (j = z)) (if S z = true then n else n + 1))))
/-- what lies behind one turn of the block -/
def Behind (X : Cx) (σ0 : L2.St) (tn : Nat → Heap → Prop) (fp : List Addr) (W : Nat → Nat → Hp → Prop) (n : Nat) (s : Shared) : Prop := ∃ i H, Inv X [] σ0 H s ∧ tn i s.heap ∧ (∀ b ∈ fp, H b = none) ∧ W i n H
theorem fp_blk {X : Cx} {s0 s : Shared} {H0 H : Hp} {scope : Scope} {ce : Env} {fp : List Addr} {σ : L2.St} (I : Inv (X.blk s0 H0 scope ce fp) [] σ H s) (n : ∀ b ∈ fp, H b = none) : ∀ b ∈ fp, FpOk (X.blk s0 H0 scope ce fp) [] H b :=
  fun b hb => ⟨n b hb, (I.ok.exf b hb).1, I.ok.exfs b hb, .inl hb, fun x c e => (I.ok.exf b hb).2 x c e, fun p hp => by cases (show p ∈ ([] : List (Addr × Obj)) from hp)⟩
theorem pe_st {elt tg iter : Expr} {scope : Scope} {own : List (Str × Nat)} {pos : Pos} {wi : TI} {g : TG} {te : TE} (hc : X.calm = true) (hN : X.N.Nodup) (hi : PI X tg iter wi) (ok : BlkOk X.N X.env.scope scope own)
    (hg : ∀ (s : Shared) (H : Hp) (C : Addr) (cl : List (Str × Addr)) (fp : List Addr), PG (X.blk s H scope (compEnvC scope cl C X.env) fp) tg g)
    (he : ∀ (s : Shared) (H : Hp) (C : Addr) (cl : List (Str × Addr)) (fp : List Addr), PE (X.blk s H scope (compEnvC scope cl C X.env) fp) elt te) (hs : ∀ x, foldedSetIterable iter X.env x = pure x) :
    PE X (.SetComp elt [⟨tg, iter, [], 0⟩] scope pos) (tSt X.prog X.w wi g te (own.map (·.2))) := by
  refine ⟨fun pins s σ H Q I h => ?_⟩
  rw [PpSet.eval_SetComp]
  have clo : ∀ y ∈ scope.names, y.2 = .free → ∃ c, X.env.cells.lookup y.1 = some c := fun y hy e => (ok.free y hy e).elim (fun k => I.ok.has _ (.inl k)) fun k => I.ok.has _ (.inr k)
  refine wpAny_comprehension_free (use := none) rfl hs (closure_ok clo) ok.kind (fun y hy e => by rw [ok.uniq y hy, e]) (thn (hi.run pins s σ H _ I h) fun xv s1 hx => thn hx fun itv s2 h2 => ?_)
  obtain ⟨it, fp, tn, J, H2, rfl, I2, T, st2, f2, q⟩ := h2
  refine wpAny_newSet_of (knd := strKind X.prog X.w) fun led fresh => newEnv_comp ?_
  obtain ⟨W, ⟨m0, w0⟩, turn⟩ := q s2.heap.objs.size (I2.hok.fresh (Nat.le_refl _))
  have J3 : Inv X pins σ (upd H2 s2.heap.objs.size (SetT X.prog X.w s2.heap.objs.size (fun _ => false) 0)) { s2 with heap := s2.heap.push { cls := .type "set", dict := none, data := .set #[] 0 (.fresh 0 0 led) } } :=
    I2.laid (t' := s2.toks) (fun b o e => Heap.get?_push_of_some _ e) (Nat.le_refl _) (setT_new fresh)
  have lt2 : ∀ b ∈ fp, b < s2.heap.objs.size := fun b hb => let ⟨_, e, _⟩ := T.obj _ _ st2 b hb; Heap.lt_size e
  generalize hD : s2.heap.objs.size = D at *
  generalize hs3 : ({ s2 with heap := s2.heap.push { cls := .type "set", dict := none, data := .set #[] 0 (.fresh 0 0 led) } } : Shared) = s3 at *
  have size3 : s3.heap.objs.size = D + 1 := by rw [← hs3, ← hD]; exact Heap.size_push ..
  have st3 : tn 0 s3.heap := T.keep _ _ _ st2 fun b _ o e => by rw [← hs3]; exact Heap.get?_push_of_some _ e
  generalize hH3 : upd H2 D (SetT X.prog X.w D (fun _ => false) 0) = H3 at *
  have n3 : ∀ b ∈ fp, H3 b = none := fun b hb => by rw [← hH3, upd_ne (Nat.ne_of_lt (lt2 b hb))]; exact (f2 b hb).1
  have f3 : ∀ b ∈ fp, FpOk X pins H3 b ∧ b < s3.heap.objs.size := fun b hb => ⟨⟨n3 b hb, (f2 b hb).2⟩, by rw [size3]; exact Nat.lt_succ_of_lt (lt2 b hb)⟩
  have I4 := block_start J3 ok hN f3
  have pg := hg s3 H3 s3.heap.objs.size (cellsFrom (s3.heap.objs.size + 1) scope.names (cloFrom X.env.cells scope.names [])) fp
  have pe := he s3 H3 s3.heap.objs.size (cellsFrom (s3.heap.objs.size + 1) scope.names (cloFrom X.env.cells scope.names [])) fp
  have eh : s3.heap = s2.heap.push { cls := .type "set", dict := none, data := .set #[] 0 (.fresh 0 0 led) } := by rw [← hs3]
  show codeAny _ _ (.compStart (.SetComp elt [⟨tg, iter, [], 0⟩] scope pos) 0 (.ref it) (.ref D) (compEnvC scope (cellsFrom (s3.heap.objs.size + 1) scope.names (cloFrom X.env.cells scope.names [])) s3.heap.objs.size X.env)) (compPost (model X.prog X.w) X.A X.xe none (EP X pins σ Q) (.ref D) s3.heap.objs.size) { s3 with heap := pushCells (s3.heap.push { cls := .type "dict", data := .dict #[] }) scope.names }
  generalize hce : compEnvC scope (cellsFrom (s3.heap.objs.size + 1) scope.names (cloFrom X.env.cells scope.names [])) s3.heap.objs.size X.env = ce at I4 pg pe ⊢
  have cL : ce.locals = s3.heap.objs.size := by rw [← hce]; rfl
  generalize hs4 : ({ s3 with heap := pushCells (s3.heap.push { cls := .type "dict", data := .dict #[] }) scope.names } : Shared) = s4 at I4 ⊢
  have st4 : tn 0 s4.heap := T.keep _ _ _ st3 fun b _ o e => by rw [← hs4]; exact pushCells_keeps _ _ _ _ (Heap.get?_push_of_some _ e)
  have loop : codeAny (model X.prog X.w) X.A (.compLoop (.SetComp elt [⟨tg, iter, [], 0⟩] scope pos) 0 (.ref it) (.ref D) ce) (compPost (model X.prog X.w) X.A X.xe none (EP X pins σ Q) (.ref D) s3.heap.objs.size) s4 := by
    refine PpSet.compLoopS_any (Behind (X.blk s3 H3 scope ce fp) (wipe σ (own.map (·.2))) tn fp W) ?_ m0 ⟨0, H3, I4, st4, n3, w0⟩
    rintro n s5 ⟨i, H5, I5, st5, n5, w5⟩
    rcases turn i n H5 w5 with ⟨stop, qq⟩ | ⟨go, Nx, hNx, step⟩
    · refine thnF (T.done (X.blk s3 H3 scope ce fp) rfl rfl rfl hc i [] s5 _ H5 (fun _ _ => False) I5 (fp_blk I5 n5) st5 stop) fun r s6 ⟨hr, I6⟩ => ?_
      subst hr
      have I7 : Inv X pins σ H5 s6 := J3.call' (ch := fp) I6.os I6.base I6.hok I6.bare fun b hb => by
        obtain ⟨⟨_, k1, _, k2, k3, k4⟩, _⟩ := f3 b hb
        exact ⟨k2, k1, k3, k4⟩
      obtain ⟨m, hn, _⟩ := I6.loc
      have hn : s6.heap.Ns ce.locals m := hn
      have nC : H5 ce.locals = none := I6.free
      rw [cL] at hn nC
      obtain ⟨k0, k1, k2, k3, k4, k5⟩ := J3.fpOk (Nat.le_refl _) nC
      exact ⟨m, hn, fun h'' sb => ⟨.ref D, H5, I7.turned (t' := s6.toks) (fun b o hb e => (sb.2 b hb).trans e) k0 k1 k3 k4 k5, rfl, qq⟩⟩
    · refine thnF (T.item (X.blk s3 H3 scope ce fp) rfl rfl rfl hc i [] s5 _ H5 (fun _ _ => False) I5 (fp_blk I5 n5) st5 go) fun r s6 ⟨u, hr, h6⟩ => ?_
      subst hr
      refine thnF h6 fun _ s7 ⟨x, H7, I7, r7, y7, st7, n7⟩ => ?_
      refine thnF (pg.run _ s7 _ H7 x u _ (I7.pinned (fp_blk I7 n7) (T.obj _ _ st7)) r7 (step x H7 y7)) fun _ s8 ⟨σ8, H8, I8, hw8, q8⟩ => ?_
      refine wpAny_tests_nil ?_
      rw [if_pos rfl]
      refine thnF (pe.run _ s8 σ8 H8 _ I8 q8) fun z s9 ⟨yv, H9, I9, r9, zt, S0, n0, ey, hD9, hz9, nx⟩ => ?_
      subst ey
      refine put_text (X := X.blk s3 H3 scope ce fp) I9 hD9 hz9 r9 fun s10 I10 => ?_
      obtain ⟨m', hm, w'⟩ := hNx _ nx
      have pin : ∀ b ∈ fp, ∀ o, s7.heap.get? b = some o → s10.heap.get? b = some o ∧ (upd H9 D (SetT X.prog X.w D (fun j => S0 j || decide (j = zt)) (if S0 zt = true then n0 else n0 + 1))) b = none := fun b hb o e => by
        have z := I10.pin (b, o) (List.mem_append_right _ (List.mem_append_right _ (mem_pinsAt hb e)))
        exact ⟨z.1, z.2.1⟩
      refine ⟨m', hm, i + 1, _, (I10.unpinned (pins := [])).weak (by rw [← hw8, wipe_length]) (fun j v e => ?_), T.keep _ _ _ st7 fun b hb o e => (pin b hb o e).1, fun b hb => ?_, w'⟩
      · rw [← hw8] at e
        exact (wipe_some e).1
      · obtain ⟨o, e, _⟩ := T.obj _ _ st7 b hb
        exact (pin b hb o e).2
  exact PpSet.codeAny_compStart_set loop (T.self X.A 0 _ _ _ st4 loop)
end
end M3N

namespace M3
open PySem L2
variable {ca : CAK}
/-- how many unlike texts, beside the seen ones -/
def dstF (seen : List Str) : List Str → Nat
  | [] => 0
  | z :: r => (if z ∈ seen then 0 else 1) + dstF (z :: seen) r
def stL (t : GT) (el : CE) (v : Ev) : List D → S3 → R (List Str)
  | [], S => .ok [] S
  | d :: ds, S => match t d v S with
    | some (v1, S1) => (noEx (el v1 S1)).bind fun y S2 => match y with
      | .str z => (stL t el v ds S2).bind fun zs S3 => .ok (z :: zs) S3
      | _ => .bad
    | none => .bad
def lenSt (vs : List Nat) (src : CS) (t : GT) (el : CE) : CE := fun v S => (src v S).bind fun p S1 => if p.1.length ≤ 1000 then (unlR p.2 (noEx (stL t el (wipeD v vs) p.1 S1))).bind fun zs S2 => .ok (.int (dstF [] zs : Nat)) S2 else .bad
section
variable {X : Cx} {W : WX} {pos p spos : Pos}
theorem call_lenT : CallR X (.builtin "len") (fun xs H Q => ∃ D S n, xs = [.ref D] ∧ H D = some (M3N.SetT X.prog X.w D S n) ∧ n ≤ 1000 ∧ Q (.int (n : Nat)) H) := by
  intro pins s σ H xs us Q I r ⟨D, S, n, ex, hD, hn, q⟩
  subst ex
  rw [L2.Vals.ref1 r]
  obtain ⟨o, es, ep, t, ho, hex, hd, _, _, _, hf, hn2⟩ := (I.hok D _ hD).1
  exact call_len_set ho hex hd hf (by rw [hn2]; omega) ⟨.int n, H, I.tok _, ⟨_, by rw [hn2]⟩, q⟩
theorem sd_lenSt {elt tg iter : Expr} {scope : Scope} {own : List (Str × Nat)} {src : CS} {t : GT} {sl : List Nat} {me : CE} (hc : X.calm = true) (hN : X.N.Nodup) (hi : PI X tg iter (rdI ca X W src)) (ok : blkC X.N X.env.scope scope own = true)
    (hg : ∀ (s : Shared) (H : Hp) (C : Addr) (cl : List (Str × Addr)) (fp : List Addr), PG (X.blk s H scope (compEnvC scope cl C X.env) fp) tg (rdG ca sl t))
    (he : ∀ (s : Shared) (H : Hp) (C : Addr) (cl : List (Str × Addr)) (fp : List Addr), SD ca (X.blk s H scope (compEnvC scope cl C X.env) fp) WF elt me) (hgl : Gl X "len") (hm : X.mg "len" = none) (hv : bootBuiltins "len" = some (.builtin "len")) (hsl : ∀ j, j ∈ sl → j ∈ own.map (·.2) := by decide) (hs : ∀ x, foldedSetIterable iter X.env x = pure x := by intro _; rfl)
    (h1 : starEach [.SetComp elt [⟨tg, iter, [], 0⟩] scope pos] X.env = (false, eval (.SetComp elt [⟨tg, iter, [], 0⟩] scope pos) X.env) :: starEach [] X.env := by rfl)
    (hw : ∀ whole, isTrue (.Call (.Name "len" p) [.SetComp elt [⟨tg, iter, [], 0⟩] scope pos] [] spos) X.env whole = (do let v ← whole; standAt (Expr.Call (.Name "len" p) [.SetComp elt [⟨tg, iter, [], 0⟩] scope pos] [] spos).pos; holding [v] (truthy v)) := by intro _; rfl) :
    SD ca X W (.Call (.Name "len" p) [.SetComp elt [⟨tg, iter, [], 0⟩] scope pos] [] spos) (lenSt (own.map (·.2)) src t me) := by
  refine .of (PE_imp (pe_unlA (pe_callB call_lenT hgl hm hv (pa_cons (M3N.pe_st hc hN hi (blkOk_by ok) hg (fun s H C cl fp => (he s H C cl fp).pe) hs) pa_nil h1) (by decide) (by decide) h1 rfl)) ?_) hw
  rintro σ H Q ⟨v, S, g, s, e, h⟩
  show M3N.tSt X.prog X.w (rdI ca X W src) (rdG ca sl t) (rdE ca WF me) (own.map (·.2)) σ H (fun x H1 => ∃ (D : Addr) (S : Str → Bool) (n : Nat), [x] = [V.ref D] ∧ H1 D = some (M3N.SetT X.prog X.w D S n) ∧ n ≤ 1000 ∧ (Q (V.int ↑n) H1 ∨ ∃ d od u, H1 d = some (.frz od u) ∧ (∀ o' u', X.H_0 d ≠ some (.frz o' u')) ∧ Q (V.int ↑n) (upd H1 d u)))
  refine ⟨v, S, g, s, e, ?_⟩
  generalize hvs : own.map (·.2) = vs at *
  unfold lenSt at h
  cases q : src v S with
  | bad => rw [q] at h; exact h.elim
  | ex er S' => rw [q] at h; exact h
  | ok p S1 =>
    obtain ⟨ds, un⟩ := p
    rw [q] at h
    intro g1 H1 J lk le s1 wk D hD
    have h : Fin ca g H (if ds.length ≤ 1000 then (unlR un (noEx (stL t me (wipeD v vs) ds S1))).bind fun zs S2 => .ok (.int (dstF [] zs : Nat)) S2 else .bad) (fun d g' H' => ∀ x, Rep ca g' x d → Q x H') _ := h
    split at h
    · rename_i hz
      have h0 := lk.none hD
      have h1 := unlR_ok (QE' := fun _ _ _ => False) lk h
      clear h
      have e0 : EnvR ca g1 (wipeD v vs) (wipe σ vs) := (e.mono le).wipe vs
      let QO : Nat → Wld → Hp → Prop := fun k => Un2 X fun g2 H2 => ∃ S', Sim ca g2 S' H2 ∧ Ext g H g2 H2 ∧ Fin ca g H (.ok (.int (k : Nat)) S') (fun d g' H' => ∀ x, Rep ca g' x d → Q x H') (fun e g' H' => ∀ cls od, RepX ca g' H' cls od e → W cls od σ H')
      let P : Nat → Hp → Prop := fun i H' => ∃ g' S' seen Sf n, Ext g1 H1 g' H' ∧ Sim ca g' S' H' ∧ Out g' D ∧ H' D = some (M3N.SetT X.prog X.w D Sf n) ∧ (∀ j, Sf j = decide (j ∈ seen)) ∧ n ≤ i ∧
        Fin ca g1 H1 ((stL t me (wipeD v vs) (ds.drop i) S').bind fun zs S4 => .ok (n + dstF seen zs) S4) QO (fun _ _ _ => False)
      have start : P 0 (upd H1 D (M3N.SetT X.prog X.w D (fun _ => false) 0)) := by
        refine ⟨g1, S1, [], _, 0, (Ext.refl g1 H1).upd hD _, s1.updOut (s1.freshOut hD), s1.freshOut hD, upd_same, fun j => by simp, Nat.le_refl _, ?_⟩
        rw [List.drop_zero]
        revert h1
        cases stL t me (wipeD v vs) ds S1 with
        | ok a S =>
          intro h1
          show Fin ca g1 H1 (.ok (0 + dstF [] a) S) _ _
          rw [Nat.zero_add]
          exact h1
        | ex a S => exact fun h1 => h1
        | bad => exact fun h1 => h1
      refine ⟨fun i m H' => m = ds.length - i ∧ i ≤ ds.length ∧ P i H', ⟨ds.length, by simp, Nat.zero_le _, start⟩, ?_⟩
      rintro i m H' ⟨rfl, hi, g', S', seen, Sf, n, x', s', o', hD', hSf, hl, h'⟩
      by_cases hlt : i < ds.length
      · refine .inr ⟨wk.go i g' H' S' hlt x'.w s', P (i + 1), fun H2 p2 => ⟨ds.length - (i + 1), by omega, rfl, hlt, p2⟩, fun x H2 y => ?_⟩
        obtain ⟨g2, x2, s2, r2⟩ := wk.yld i g' H' S' ds[i] x H2 (List.getElem?_eq_getElem hlt) x'.w s' y
        have x12 := x'.trans x2
        refine ⟨wipeD v vs, g2, S', ds[i], s2, e0.mono x12.le, r2, ?_⟩
        rw [List.drop_eq_getElem_cons hlt] at h'
        unfold stL at h'
        cases qt : t ds[i] (wipeD v vs) S' with
        | none => rw [qt] at h'; exact h'.elim
        | some p =>
          obtain ⟨v1, S1'⟩ := p
          rw [qt] at h'
          refine fun g3 H3 x3 s3 σ3 e3 off => ⟨(wipe_off off hsl).trans (wipe_wipe vs), v1, S1', g3, s3, e3, ?_⟩
          dsimp only at h'
          rw [R.bind_assoc] at h'
          refine (Fin.noEx (Fin.seqB h' (x12.trans x3))).imp (fun d g4 H4 x4 ⟨S4, s4, x4', x14, h4⟩ yv ry => ?_) fun _ _ _ _ z => z
          have xD : Ext g' H' g4 H4 := (x2.trans x3).trans x4
          have oD4 := xD.out o' (by rw [hD']; exact fun z => nomatch z)
          have hD4 := xD.rest D _ hD' o'
          cases d with
          | str z =>
            cases ry
            have h4 : Fin ca g1 H1 (((stL t me (wipeD v vs) (ds.drop (i + 1)) S4).bind fun zs S3 => .ok (z :: zs) S3).bind fun zs S4 => .ok (n + dstF seen zs) S4) QO (fun _ _ _ => False) := h4
            refine ⟨z, Sf, n, rfl, hD4, by have : i < 1000 := Nat.lt_of_lt_of_le hlt hz; have : scanBound = 4096 := (by rfl); omega, g4, S4, z :: seen, _, _, x14.upd hD _, s4.updOut oD4, oD4, upd_same, fun j => ?_, ?_, ?_⟩
            · rw [hSf j]
              by_cases e1 : j ∈ seen <;> by_cases e2 : j = z <;> simp [e1, e2]
            · split <;> omega
            · rw [R.bind_assoc] at h4
              revert h4
              cases stL t me (wipeD v vs) (ds.drop (i + 1)) S4 with
              | ok a S =>
                intro h4
                have ea : (if Sf z = true then n else n + 1) + dstF (z :: seen) a = n + dstF seen (z :: a) := by
                  have ed : dstF seen (z :: a) = (if z ∈ seen then 0 else 1) + dstF (z :: seen) a := rfl
                  rw [hSf z, ed]
                  by_cases e1 : z ∈ seen
                  · rw [if_pos e1, if_pos (decide_eq_true e1), Nat.zero_add]
                  · rw [if_neg e1, if_neg (by rw [decide_eq_false e1]; exact Bool.false_ne_true)]; omega
                show Fin ca g1 H1 (.ok ((if Sf z = true then n else n + 1) + dstF (z :: seen) a) S) _ _
                rw [ea]
                exact h4
              | ex a S => exact fun h => h
              | bad => exact fun h => h
          | _ => exact h4.elim
      · have ei : i = ds.length := by omega
        subst ei
        rw [List.drop_length] at h'
        have h' : Fin ca g1 H1 (.ok (n + 0) S') QO _ := h'
        rw [Nat.add_zero] at h'
        refine .inl ⟨wk.stop g' H' S' x'.w s', D, Sf, n, rfl, hD', by omega, ?_⟩
        rcases h' g' H' x' s' with ⟨S2, s2, x2, h2⟩ | ⟨d, od, u, e1, nf, S2, s2, x2, h2⟩
        · exact .inl (h2 g' H' x2 s2 _ (.int _))
        · exact .inr ⟨d, od, u, e1, nf, h2 g' _ x2 s2 _ (.int _)⟩
    · exact h.elim
end
end M3
/-! M3U: str of data; defs that are run where no text is being made. -/
namespace M3
open PySem L2
variable {ca : CAK}
/-! ### data as it is read -/
def pdFlat : D → Option PyData
  | .non => some .none
  | .bl b => some (.bool b)
  | .int i => if i.natAbs.log2 < 1920 then some (.int i) else none
  | .str z => some (.str z)
  | _ => none
def pdAll (f : D → Option PyData) : List D → Option (List PyData)
  | [] => some []
  | d :: r => match f d, pdAll f r with
    | some x, some xs => some (x :: xs)
    | _, _ => none
/-- lists and tuples, no dicts -/
def pdN (S : S3) : Nat → D → Option PyData
  | 0, _ => none
  | n + 1, d => match pdFlat d with
    | some x => some x
    | none => match d with
      | .tup xs => (pdAll (pdN S n) xs).map .tuple
      | d => match lstOf S d with
        | some xs => (pdAll (pdN S n) xs).map .list
        | none => none
def pdKv : List (Key × D) → Option (List (PyData × PyData))
  | [] => some []
  | (k, d) :: r => match keyP k, pdFlat d, pdKv r with
    | some a, some b, some c => some ((a, b) :: c)
    | _, _, _ => none
/-- a dict of flat values, or no dict at all -/
def pdOf (S : S3) (d : D) : Option PyData := match dicOf S d with
  | some ks => (pdKv ks).map .dict
  | none => pdN S 6 d
/-- no longer than this is the text of a dict with symbolic numbers -/
def lenKv : List (Key × D) → Option Nat
  | [] => some 0
  | (k, d) :: r => match keyP k, pdFlatY (fun _ => 0) d, lenKv r with
    | some a, some b, some n => some (a.shown.length + 2 + (b.shown.length + 10) + n)
    | _, _, _ => none
def strF : OL := fun ds S => match ds with
  | [.str z] => some (.str z, S)
  | [d] => match pdFlat d with
    | some _ => none
    | none => match pdOf S d with
      | some p => if p.shown.length ≤ lim then some (.str p.shown, S) else none
      | none => match dicOf S d with
        | some ks => match lenKv ks with
          | some n => if n + 2 * ks.length + 3 ≤ lim then some (.txt ks, S) else none
          | none => none
        | none => none
  | _ => none
theorem flatY_of {y : Nat → Int} {d : D} {p : PyData} (h : pdFlat d = some p) : pdFlatY y d = some p := by
  cases d <;> first | exact h | cases h
theorem pdKv_Y {y : Nat → Int} : ∀ {ks : List (Key × D)} {ps : List (PyData × PyData)}, pdKv ks = some ps → pdKvY y ks = some ps
  | [], _, h => h
  | (k, d) :: r, ps, h => by
    unfold pdKv at h
    split at h
    · rename_i a b c e1 e2 e3
      cases h
      unfold pdKvY
      rw [e1, flatY_of e2, pdKv_Y e3]
    · cases h
theorem flatY_len {y : Nat → Int} (hy : ∀ k, 0 ≤ y k ∧ y k < 10 ^ 10) {d : D} {b : PyData} (h : pdFlatY (fun _ => 0) d = some b) : ∃ c, pdFlatY y d = some c ∧ c.shown.length ≤ b.shown.length + 10 := by
  cases d with
  | sym k =>
    cases h
    refine ⟨_, rfl, ?_⟩
    have z := PyProof.Rows.toString_length_le (hy k).1 (by decide : 0 < 10) (hy k).2
    simp only [PyData.shown]
    exact Nat.le_trans z (Nat.le_add_left _ _)
  | non => exact ⟨b, h, Nat.le_add_right _ _⟩
  | bl x => exact ⟨b, h, Nat.le_add_right _ _⟩
  | int i => exact ⟨b, h, Nat.le_add_right _ _⟩
  | str z => exact ⟨b, h, Nat.le_add_right _ _⟩
  | _ => cases h
theorem lenKv_ok {y : Nat → Int} (hy : ∀ k, 0 ≤ y k ∧ y k < 10 ^ 10) : ∀ {ks : List (Key × D)} {n : Nat}, lenKv ks = some n → ∃ ps, pdKvY y ks = some ps ∧ ((PyData.shownKv ps).map (·.length)).sum ≤ n ∧ (PyData.shownKv ps).length = ks.length
  | [], n, h => by
    cases h
    exact ⟨[], rfl, by simp [PyData.shownKv], by simp [PyData.shownKv]⟩
  | (k, d) :: r, n, h => by
    unfold lenKv at h
    split at h
    · rename_i a b c e1 e2 e3
      cases h
      obtain ⟨ps, h1, h2, h3⟩ := lenKv_ok hy e3
      obtain ⟨b', k1, k2⟩ := flatY_len hy e2
      refine ⟨(a, b') :: ps, by unfold pdKvY; rw [e1, k1, h1], ?_, by simp only [PyData.shownKv, List.length_cons, h3]⟩
      simp only [PyData.shownKv, List.map_cons, List.sum_cons]
      have e : (a.shown ++ (": " : Str) ++ b'.shown).length = a.shown.length + 2 + b'.shown.length := by
        rw [Str.length_append, Str.length_append]; rfl
      rw [e]
      omega
    · cases h
section
variable {X : Cx} {pins : List (Addr × Obj)} {σ : L2.St} {H : Hp} {s : Shared} {g : Wld} {S : S3}
theorem flat_reads {v : V} {u : Value} {d : D} {p : PyData} (r : Rep ca g v d) (ru : RelV v u) (h : pdFlat d = some p) : Reads s.heap u p [] ∧ p.showable = true ∧ p.hasDict = false ∧ p.depth = 0 := by
  cases d with
  | non => cases h; cases r; cases (show u = .none from ru); exact ⟨.none, by simp [PyData.showable], by simp [PyData.hasDict], by simp [PyData.depth]⟩
  | bl b => cases h; cases r; cases (show u = .bool b from ru); exact ⟨.bool b, by simp [PyData.showable], by simp [PyData.hasDict], by simp [PyData.depth]⟩
  | int i =>
    have h : (if i.natAbs.log2 < 1920 then some (PyData.int i) else none) = some p := h
    split at h
    · rename_i hz
      cases h; cases r
      obtain ⟨t, rfl⟩ := (show ∃ t, u = .int i t from ru)
      exact ⟨.int i t, by simp [PyData.showable, hz], by simp [PyData.hasDict], by simp [PyData.depth]⟩
    · cases h
  | str z => cases h; cases r; obtain ⟨t, rfl⟩ := (show ∃ t, u = .str z t from ru); exact ⟨.str z t, by simp [PyData.showable], by simp [PyData.hasDict], by simp [PyData.depth]⟩
  | _ => cases h
theorem flatY_reads {v : V} {u : Value} {d : D} {p : PyData} (r : Rep ca g v d) (ru : RelV v u) (h : pdFlatY ca.sy d = some p) : Reads s.heap u p [] ∧ p.showable = true ∧ p.hasDict = false ∧ p.depth = 0 := by
  cases d with
  | sym k =>
    cases h; cases r
    obtain ⟨t, rfl⟩ := (show ∃ t, u = .int (ca.sy k) t from ru)
    have hz : (ca.sy k).natAbs.log2 < 1920 := by
      have z := ca.syB k
      have z1 : (ca.sy k).natAbs < 2 ^ 1920 := Nat.lt_of_lt_of_le (m := 10 ^ 10) (by omega) (by decide +kernel)
      by_cases h0 : (ca.sy k).natAbs = 0
      · rw [h0]; decide
      · exact (Nat.log2_lt h0).mpr z1
    exact ⟨.int _ t, by simp [PyData.showable, hz], by simp [PyData.hasDict], by simp [PyData.depth]⟩
  | non => exact flat_reads (s := s) r ru (d := .non) h
  | bl b => exact flat_reads (s := s) r ru (d := .bl b) h
  | int i => exact flat_reads (s := s) r ru (d := .int i) h
  | str z => exact flat_reads (s := s) r ru (d := .str z) h
  | _ => cases h
theorem all_reads {f : D → Option PyData} {n : Nat} (hf : ∀ v u d p, Rep ca g v d → RelV v u → f d = some p → ∃ as, Reads s.heap u p as ∧ p.showable = true ∧ p.hasDict = false ∧ p.depth ≤ n) : ∀ {ds : List D} {vs : List V} {us : List Value} {ps : List PyData}, RepL ca g vs ds → Vals vs us → pdAll f ds = some ps →
    ∃ as, ReadsAll s.heap us ps as ∧ PyData.showableAll ps = true ∧ PyData.hasDictAll ps = false ∧ PyData.depthAll ps ≤ n
  | [], _, _, ps, .nil, .nil, h => by
    unfold pdAll at h
    cases h
    exact ⟨_, .nil, by simp [PyData.showableAll], by simp [PyData.hasDictAll], by simp [PyData.depthAll]⟩
  | d :: ds, _, [], ps, .cons r t, rv, h => nomatch rv
  | d :: ds, _, u :: us, ps, .cons r t, .cons ru tu, h => by
    unfold pdAll at h
    split at h
    · rename_i x xs e1 e2
      cases h
      obtain ⟨as, h1, h2, h3, h4⟩ := hf _ _ _ _ r ru e1
      obtain ⟨bs, k1, k2, k3, k4⟩ := all_reads hf t tu e2
      exact ⟨_, .cons h1 k1, by simp [PyData.showableAll, h2, k2], by simp [PyData.hasDictAll, h3, k3], by simp only [PyData.depthAll]; omega⟩
    · cases h
theorem pdN_reads (I : Inv X pins σ H s) (sm : Sim ca g S H) : ∀ (n : Nat) (v : V) (u : Value) (d : D) (p : PyData), Rep ca g v d → RelV v u → pdN S n d = some p → ∃ as, Reads s.heap u p as ∧ p.showable = true ∧ p.hasDict = false ∧ p.depth ≤ n
  | 0, v, u, d, p, r, ru, h => by unfold pdN at h; cases h
  | n + 1, v, u, d, p, r, ru, h => by
    unfold pdN at h
    split at h
    · rename_i x e
      cases h
      obtain ⟨h1, h2, h3, h4⟩ := flat_reads (s := s) r ru e
      exact ⟨_, h1, h2, h3, by omega⟩
    · split at h
      · obtain ⟨ps, e, e2⟩ := Option.map_eq_some_iff.mp h
        subst e2
        obtain ⟨a, vs, rfl, ha, ra⟩ := sm.tup r
        cases (show u = Value.ref a from ru)
        obtain ⟨_, its, rv, o, ho, hc, k, hd⟩ := I.hok a _ ha
        obtain ⟨as, h1, h2, h3, h4⟩ := all_reads (s := s) (fun v u d p => pdN_reads I sm n v u d p) ra rv e
        exact ⟨_, .tuple ho hc hd (by simpa using h1), by simp [PyData.showable, h2], by simp [PyData.hasDict, h3], by simp only [PyData.depth]; omega⟩
      · split at h
        · rename_i xs ex
          obtain ⟨ps, e, e2⟩ := Option.map_eq_some_iff.mp h
          subst e2
          obtain ⟨a, vs, rfl, ha, ra⟩ := sm.lst r ex
          cases (show u = Value.ref a from ru)
          obtain ⟨its, rv, ⟨o, k, ho, hc, hdn, hd⟩, _⟩ := I.list (.inl ha)
          obtain ⟨as, h1, h2, h3, h4⟩ := all_reads (s := s) (fun v u d p => pdN_reads I sm n v u d p) ra rv e
          exact ⟨_, .list ho hc hd (by simpa using h1), by simp [PyData.showable, h2], by simp [PyData.hasDict, h3], by simp only [PyData.depth]; omega⟩
        · cases h
theorem key_reads {k : Key} {u : Value} {p : PyData} (ru : keyIs k u = true) (h : keyP k = some p) : Reads s.heap u p [] ∧ p.showable = true ∧ p.hasDict = false ∧ p.depth = 0 := by
  rcases keyIs_shape ru with ⟨i, t, rfl, rfl⟩ | ⟨x, t, rfl, rfl⟩
  · have h : (if i.natAbs.log2 < 1920 then some (PyData.int i) else none) = some p := h
    split at h
    · rename_i hz
      cases h
      exact ⟨.int i t, by simp [PyData.showable, hz], by simp [PyData.hasDict], by simp [PyData.depth]⟩
    · cases h
  · cases h
    exact ⟨.str x t, by simp [PyData.showable], by simp [PyData.hasDict], by simp [PyData.depth]⟩
theorem kv_reads {P : Program} {w : World} : ∀ {ks : List (Key × D)} {kvs : List (Key × V)} {rs : List (Key × Value)} {es : List DictEntry} {ps : List (PyData × PyData)}, RepK ca g kvs ks → KV kvs rs → PySem.Pairs (mixKind P w) es rs → pdKvY ca.sy ks = some ps →
    ReadsAll s.heap (es.map (·.key)) (ps.map (·.1)) [] ∧ ReadsAll s.heap (es.map (·.val)) (ps.map (·.2)) [] ∧ PyData.showableKv ps = true ∧ PyData.depthKv ps = 0 := by
  intro ks
  induction ks with
  | nil =>
    intro kvs rs es ps rk kv pr h
    cases rk
    cases kv
    cases pr
    unfold pdKvY at h
    cases h
    exact ⟨.nil, .nil, by simp [PyData.showableKv], by simp [PyData.depthKv]⟩
  | cons kd ks ih =>
    intro kvs rs es ps rk kv pr h
    obtain ⟨k, d⟩ := kd
    cases rk with
    | cons r t =>
      cases kv with
      | cons e te =>
        cases pr with
        | cons hk hv pt =>
          unfold pdKvY at h
          split at h
          · rename_i a b c e1 e2 e3
            cases h
            obtain ⟨h1, h2, h3, h4⟩ := ih t te pt e3
            obtain ⟨ek, ev⟩ := e
            dsimp only at ek ev
            subst ek
            obtain ⟨k1, k2, k3, k4⟩ := key_reads (s := s) hk e1
            obtain ⟨f1, f2, f3, f4⟩ := flatY_reads (s := s) r ev e2
            exact ⟨.cons (as := []) (bs := []) k1 h1, .cons (as := []) (bs := []) (by dsimp only; rw [hv]; exact f1) h2, by simp [PyData.showableKv, k2, f2, h3], by simp only [PyData.depthKv]; omega⟩
          · cases h
theorem call_strF (hg : X.A.guards = some []) (hu : X.A.units + 64 < cLine) : CallR X (.type "str") (rdOL ca strF) := by
  intro pins s σ H xs us Q I r ⟨g, S, ds, sm, rl, h⟩
  unfold strF at h
  split at h
  · obtain ⟨v, rfl, rd⟩ := rl.one
    cases rd
    obtain ⟨u, eu, ru⟩ := L2.Vals.one r
    subst eu
    obtain ⟨t, rfl⟩ := (show ∃ t, u = .str _ t from ru)
    exact PySem.P.str_of_str ⟨.str _, H, I, ⟨t, rfl⟩, h.now sm _ (.str _)⟩
  · rename_i d _
    obtain ⟨v, rfl, rd⟩ := rl.one
    split at h
    · exact h.elim
    rename_i hfl
    split at h
    · rename_i p hp
      split at h
      · rename_i hz
        obtain ⟨u, eu, ru⟩ := L2.Vals.one r
        subst eu
        have fin : ∀ h' t tk, (∀ b o, s.heap.get? b = some o → h'.get? b = some o) → EP X pins σ Q (.str p.shown t) { s with heap := h', toks := tk } := fun h' t tk kp => ⟨.str p.shown, H, I.kept kp, ⟨t, rfl⟩, h.now sm _ (.str _)⟩
        unfold pdOf at hp
        split at hp
        · rename_i ks hk
          obtain ⟨ps, e, e2⟩ := Option.map_eq_some_iff.mp hp
          subst e2
          obtain ⟨a, kvs, rfl, ha, rk⟩ := sm.dic rd hk
          cases (show u = Value.ref a from ru)
          obtain ⟨_, hs, rs, kv, o, es, ep, ho, hx, hdt, _, pr, _⟩ := dk_rd I.hok ha
          obtain ⟨h1, h2, h3, h4⟩ := kv_reads (s := s) rk kv pr (pdKv_Y e)
          have rd' : Reads s.heap (.ref a) (.dict ps) (a :: [] ++ []) := .dict ho hx.1 hdt h1 h2
          refine PySem.str_of_reads rd' (by simp [PyData.showable, h3]) (fun _ hm => ?_) hg (by simp only [PyData.depth]; omega) (fun _ _ q => q) fin (Nat.le_trans hz lim_le)
          have : sysModules = a := by simpa using hm
          rw [this] at hs
          simp at hs
        · obtain ⟨as, h1, h2, h3, h4⟩ := pdN_reads I sm 6 v u d p rd ru hp
          have ⟨a, ea⟩ : ∃ a, u = .ref a := by
            cases rd with
            | non => cases hfl
            | bl b => cases hfl
            | str z => cases hfl
            | int i =>
              unfold pdN at hp
              rw [hfl] at hp
              cases hp
            | sym k =>
              unfold pdN at hp
              rw [hfl] at hp
              cases hp
            | txt e =>
              unfold pdN at hp
              rw [hfl] at hp
              cases hp
            | _ => exact ⟨_, ru⟩
          subst ea
          exact PySem.str_of_reads h1 h2 (PyData.noDict_hsm h3) hg (by omega) (fun _ _ q => q) fin (Nat.le_trans hz lim_le)
      · exact h.elim
    · split at h
      · rename_i ks hk
        split at h
        · rename_i n hn
          split at h
          · rename_i hz
            obtain ⟨u, eu, ru⟩ := L2.Vals.one r
            subst eu
            obtain ⟨ps, e, h5, h6⟩ := lenKv_ok ca.syB hn
            have hl : (PyData.dict ps).shown.length ≤ lim := by
              simp only [PyData.shown]
              exact Nat.le_trans (dictText_len_le _) (by rw [h6]; omega)
            have fin : ∀ h' t tk, (∀ b o, s.heap.get? b = some o → h'.get? b = some o) → EP X pins σ Q (.str (PyData.dict ps).shown t) { s with heap := h', toks := tk } := fun h' t tk kp => ⟨.str _, H, I.kept kp, ⟨t, rfl⟩, h.now sm _ (.txt e)⟩
            obtain ⟨a, kvs, rfl, ha, rk⟩ := sm.dic rd hk
            cases (show u = Value.ref a from ru)
            obtain ⟨_, hs, rs, kv, o, es, ep, ho, hx, hdt, _, pr, _⟩ := dk_rd I.hok ha
            obtain ⟨h1, h2, h3, h4⟩ := kv_reads (s := s) rk kv pr e
            have rd' : Reads s.heap (.ref a) (.dict ps) (a :: [] ++ []) := .dict ho hx.1 hdt h1 h2
            refine PySem.str_of_reads rd' (by simp [PyData.showable, h3]) (fun _ hm => ?_) hg (by simp only [PyData.depth]; omega) (fun _ _ q => q) fin (Nat.le_trans hl lim_le)
            have : sysModules = a := by simpa using hm
            rw [this] at hs
            simp at hs
          · exact h.elim
        · exact h.elim
      · exact h.elim
  · exact h.elim
end
end M3
/-! M3V: defs that are run where no text is being made; the law's end. -/
namespace M3N
open PySem PyProof.Rows L2
/-- a def's promise where no text is being made -/
structure FnG (P : Program) (w : World) (K : PySem.W.Frag) (mg : Str → Option Value) (base : Heap) (CX : CXT) (k : Nat) (f : Addr) (fd : FuncData) (ps : List Str) (sp : Sp) : Prop where
  len : ∀ vs H Q E, sp vs H Q E → vs.length = ps.length
  run : ∀ (A : Around) (outer : List Env) (s : Shared) (H : Hp) (args : Args) (us : List Value) (vs : List V) (Q : VK) (E : XK), Room k A → A.guards = some [] → Env0 P w K mg base A outer s H → BindsTo s fd args (ps.zip us) → Vals vs us → sp vs H Q E →
    codeAny (model P w) A (.call (.ref f) args) (CR CX outer P w H s Q E) s
section
variable {P : Program} {w : World} {K : PySem.W.Frag} {mg : Str → Option Value} {base : Heap} {x qual : Str} {params : Arguments} {body : List Stmt} {scope : Scope} {dvs : List V} {kws : List (Str × V)} {f : Addr} {fd : FuncData}
theorem fn_ofG {CX : CXT} {N ps : List Str} {k : Nat} {sp : Sp} (F : FunD K x qual params body scope dvs kws f fd) (S : FnScope N ps scope) (len : ∀ vs H Q E, sp vs H Q E → vs.length = ps.length)
    (hbody : ∀ (cdv : Value) (A : Around) (outer : List Env) (s : Shared) (H : Hp) (vs : List V) (Q : VK) (E : XK), Room k (A.deeper (envOfC qual scope s.heap.objs.size f cdv)) → (A.deeper (envOfC qual scope s.heap.objs.size f cdv)).guards = some [] → sp vs H Q E →
      ∃ t, PSs (cxOf CX P w K mg base N qual scope f cdv A outer s H E) body t ∧ t { nx := fun _ H' => Q .non H', rt := Q } (L2.start N vs) H) : FnG P w K mg base CX (k + 1) f fd ps sp := by
  obtain ⟨oc, od, dV, kV, doc, pm, an, cdv, ct, osl, rfl, lk, hcd, _, _⟩ := F.ex
  refine ⟨len, fun A outer s H args us vs Q E hr hg e0 hb r hsp => ?_⟩
  have old : ∀ b o, base.get? b = some o → s.heap.get? b = some o := fun b o e => (e0.bs b o e).1
  have KX : K.In s.heap := e0.mod.kin.keeps old
  have lim : s.heap.NoLimit := e0.mod.nolimit.keeps old
  refine codeAny_call_function hr.depth (KX _ _ lk) rfl S.co S.gen rfl (PySem.W.codeRec_of KX hcd) (hb _ _ _ _ ?_)
  refine wpAny_newFunctionEnv_cells S.kind (fun ⟨n, v⟩ hy => (S.par n (List.of_mem_zip hy).1).imp id fun q => ⟨q, PySem.W.cellsFrom_some _ _ _ (.inl q)⟩) fun env he s1 x => ?_
  subst he
  refine ⟨lim.keeps x.toInCall.keep, codeAny_func ?_⟩
  obtain ⟨t, ht, hq⟩ := hbody cdv A outer s H vs Q E (hr.deeper _) hg hsp
  refine wpAny_mono (ht.run [] s1 (L2.start N vs) H _ (inv_start S hr.hd e0 (len _ _ _ _ hsp) r x) hq) (fun fl s' hs => ?_) fun e s' hs => hs
  cases fl with
  | ret u => obtain ⟨v, σ', H', J, rv, q⟩ := hs; exact ⟨v, H', J.os, J.bare, J.base, J.hok, rv, q⟩
  | next => obtain ⟨σ', H', J, q⟩ := hs; exact ⟨V.non, H', J.os, J.bare, J.base, J.hok, rfl, q⟩
  | brk => obtain ⟨_, _, _, q⟩ := hs; exact False.elim q
  | cont => obtain ⟨_, _, _, q⟩ := hs; exact False.elim q
end
section
variable {X : Cx} {CX : CXT} {k : Nat} {f : Addr} {fd : FuncData} {ps : List Str} {sp : Sp} {E : L2.St → XK} {x : Str} {p pos : Pos} {e : Expr} {es : List Expr} {t : TA}
theorem pe_callG (F : FnG X.prog X.w X.K X.mg X.base CX k f fd ps sp) (hr : Room k X.A) (hgd : X.A.guards = some []) (hg : Gl X x) (hm : X.mg x = some (.ref f)) (hk : PySem.W.keepIn X.K (.ref f) = true) (hb : Binds X.K fd ps []) (hx : ∀ σ, PassesAt CX X σ (E σ))
    (ha : PA X (e :: es) t) (hdb : (x == ("__debug__" : Str)) = false := by decide) (he : starEach (e :: es) X.env = (false, eval e X.env) :: starEach es X.env := by rfl) (hpl : (backTo pos (starEach es X.env)).any (·.1) = false := by rfl) :
    PE X (.Call (.Name x p) (e :: es) [] pos) (tCallS sp E t) := by
  refine ⟨fun pins s σ H Q I h => wpAny_Call_Name_kw (ld_glob I hg hm (PySem.W.callWith_K (h₀ := X.base) I.ok.mod.kin hk (thn (ha.run pos pins s σ H _ I h) fun us s1 ⟨vs, H1, I1, r, q⟩ => ⟨I1.kIn, ?_⟩) he hpl) hdb)⟩
  have b := hb s1 us I1.kIn (by rw [List.append_nil, ← r.length]; exact F.len _ _ _ _ q)
  rw [List.append_nil] at b
  refine wpAny_call (codeAny_mono (F.run X.A X.stack s1 H1 ⟨us, []⟩ us vs Q (E σ) hr hgd I1.env0 b r q) fun r s' hq => ?_)
  cases r with
  | error e => exact hx σ pins H1 s1 e s' I1 hq
  | ok fl => cases fl with
    | ret u => exact I1.after hq
    | _ => exact False.elim hq
end
end M3N
namespace M3
open PySem L2
variable {ca : CAK}
structure COG (ca : CAK) (X : Cx) (W : WX) (k : Nat) : Prop extends COT ca X W k where
  gd : X.A.guards = some []
section
variable {P : Program} {w : World} {K : PySem.W.Frag} {mg : Str → Option Value} {base : Heap}
theorem fn_okG {x qual : Str} {params : Arguments} {body : List Stmt} {scope : Scope} {dvs : List V} {kws : List (Str × V)} {f : Addr} {fd : FuncData} {N ps : List Str} {k n : Nat} {b : SC} (hK : K = ca.K) (F : FunD K x qual params body scope dvs kws f fd) (S : FnScope N ps scope) (hn : N.length = n)
    (hb : ∀ (cdv : Value) (A : Around) (outer : List Env) (s : Shared) (H : Hp) (E : XK), COG ca (cxOf (L2N.CX P w) P w K mg base N qual scope f cdv A outer s H E) (WD E) k → PSs (cxOf (L2N.CX P w) P w K mg base N qual scope f cdv A outer s H E) body (rdS ca (WD E) b)) :
    M3N.FnG P w K mg base (L2N.CX P w) (k + 1) f fd ps (spM ca (bodyM ps.length n b)) := by
  refine M3N.fn_ofG F S (fun vs H Q E ⟨ds, S3, g, s, r, h⟩ => ?_) fun cdv A outer s H vs Q E hr hg ⟨ds, S3, g, sm, r, h⟩ => ⟨_, hb cdv A outer s H E ⟨.of hK S hr, hg⟩, bodyM_fin hn sm r h⟩
  rw [r.len]
  unfold bodyM at h
  split at h
  · assumption
  · exact h.elim
/-- a def of the module, where no text is being made -/
structure CalG (ca : CAK) (P : Program) (w : World) (K : PySem.W.Frag) (mg : Str → Option Value) (base : Heap) (k : Nat) (x : Str) (m : Fn) : Prop where
  ex : ∃ (f : Addr) (fd : FuncData) (ps : List Str), M3N.FnG P w K mg base (L2N.CX P w) k f fd ps (spM ca m) ∧ mg x = some (.ref f) ∧ PySem.W.keepIn K (.ref f) = true ∧ Binds K fd ps []
end
section
variable {X : Cx} {W : WX} {e : Expr} {es : List Expr} {ms : CA} {m : Fn} {k j : Nat} {x : Str} {p pos : Pos}
theorem sd_callG (C : CO ca X W k) (gd : X.A.guards = some []) (F : CalG ca X.prog X.w X.K X.mg X.base j x m) (hj : j ≤ k) (ha : PA X (e :: es) (rdA ca W ms))
    (hg : Gl X x := by rfl) (hdb : (x == ("__debug__" : Str)) = false := by decide) (he : starEach (e :: es) X.env = (false, eval e X.env) :: starEach es X.env := by rfl) (hpl : (backTo pos (starEach es X.env)).any (·.1) = false := by rfl)
    (hw : ∀ whole, isTrue (.Call (.Name x p) (e :: es) [] pos) X.env whole = (do let v ← whole; standAt (Expr.Call (.Name x p) (e :: es) [] pos).pos; holding [v] (truthy v)) := by intro _; rfl) :
    SD ca X W (.Call (.Name x p) (e :: es) [] pos) (callM ms m []) := by
  obtain ⟨f, fd, ps, F, hm, hk, hb⟩ := F.ex
  refine .of (PE_imp (M3N.pe_callG F (C.rm.mono hj) gd hg hm hk hb (L2N.passAt C.tk) ha hdb he hpl) ?_) hw
  rintro σ H Q ⟨v, S, g, s, e, h⟩
  refine ⟨v, S, g, s, e, (Fin.seq h).imp (fun xs g1 H1 x1 ⟨S1, s1, h1⟩ vs rv => ?_) fun _ _ _ _ z => z⟩
  rw [List.append_nil] at h1
  exact sp_of s1 rv h1
end
end M3

/-! ### the law's end -/
namespace M3
open PySem L2
/-- the store ahead of all -/
def S0 : S3 := ⟨fun _ => none, 0, []⟩
theorem scr_rep {ca : CAK} {g : Wld} : ∀ ns : List Int, RepL ca g (ns.map V.int) (ns.map D.int) := RepL.ints
/-- from a heap in which nothing but the script may be tracked -/
theorem law_runG {ca : CAK} {P : Program} {w : World} {K : PySem.W.Frag} {mg mb : Str → Option Value} {k : Nat} {fa a : Addr} {fd : FuncData} {x : Str} {m : Fn} {s₁ : Shared} {vs : List Value} {ns : List Int} {H : Hp} {g : Wld}
    (hK : K = ca.K) (KX : K.In s₁.heap) (hns : s₁.heap.Ns mainGlobals mg) (hb : s₁.heap.Ns builtinsNs mb) (hbb : ∀ x : Str, x ≠ "__name__" → mb x = bootBuiltins x) (hlim : s₁.heap.NoLimit) (hg : s₁.gens = #[])
    (ha : s₁.heap.get? a = some { cls := .type "list", data := .seq vs.toArray }) (hr : Room k callerA)
    (F : ∀ base : Heap, K.In base → base.Ns mainGlobals mg → M3N.FnG P w K mg base (L2N.CX P w) k fa fd [x] (spM ca m)) (hbind : ∀ (s : Shared) (u : Value), BindsTo s fd ⟨[u], []⟩ [(x, u)])
    (hm : ∃ S', m [.scr (ns.map .int)] S0 = .ok (.bl true) S') (sm : Sim ca g S0 H) (rp : Rep ca g (.ref a) (.scr (ns.map .int)))
    (hOk : HOk P w H s₁.heap) (hA : ∀ b, H b ≠ none → b = a ∧ ∃ o xs, H b = some (.frz o (.lst xs))) (hKa : H a ≠ none → K.lookup a = none) :
    codeAny (model P w) callerA (.call (.ref fa) ⟨[.ref a], []⟩) (fun r s' => r = .ok (.ret (.bool true)) ∧ OldK s₁.heap s'.heap ∧ s'.os = s₁.os ∧ PyProof.Rows.AllBare s'.gens) s₁ := by
  have free : ∀ {b : Addr} {o : Obj}, s₁.heap.get? b = some o → H b = none → (hidT s₁.heap H).get? b = some o := fun e n => hidT_get e n
  have off : ∀ {b : Addr}, b ≠ a → H b = none := fun {b} n => by
    cases q : H b with
    | none => rfl
    | some u => exact absurd (hA b (by rw [q]; exact fun z => nomatch z)).1 n
  have dct : ∀ {b : Addr} {o : Obj} {es : Array DictEntry} {ep : Nat}, s₁.heap.get? b = some o → o.data = .dict es ep → H b = none := fun {b o es ep} e d => off fun z => by
    subst z
    rw [ha] at e
    cases e
    cases (show Data.seq vs.toArray _ = Data.dict es ep from d)
  have nsB : ∀ {b : Addr} {m : Str → Option Value}, s₁.heap.Ns b m → (hidT s₁.heap H).Ns b m := fun ⟨o, es, ep, e, d, r⟩ => ⟨o, es, ep, free e (dct e d), d, r⟩
  have KB : K.In (hidT s₁.heap H) := fun b o e => free (KX b o e) (by
    by_cases hb' : b = a
    · cases q : H b with
      | none => rfl
      | some u => rw [hb'] at e q; rw [hKa (by rw [q]; exact fun z => nomatch z)] at e; cases e
    · exact off hb')
  obtain ⟨mc, l1, l2⟩ := hlim
  have e0 : Env0 P w K mg (hidT s₁.heap H) callerA [] s₁ H := ⟨rfl, ⟨KB, nsB hns, ⟨mb, nsB hb, hbb⟩, ⟨mc, nsB l1, l2⟩⟩, fun b o e => of_hidT e, Nat.le_of_eq (hidT_size _ _), trivial, fun b z => (by cases (show b ∈ ([] : List Addr) from z)), hOk, PyProof.Rows.AllBare.of_eq hg⟩
  obtain ⟨S', hm⟩ := hm
  have sp : spM ca m [.ref a] H (fun v _ => v = .bl true) fun _ _ _ => False := ⟨_, S0, g, sm, .cons rp .nil, by rw [hm]; exact fun g' H' _ _ x r => by cases r; rfl⟩
  refine codeAny_mono ((F _ KB (nsB hns)).run callerA [] s₁ H ⟨[.ref a], []⟩ [.ref a] [.ref a] _ _ hr rfl e0 (hbind s₁ (.ref a)) (.cons rfl .nil) sp) fun r s' h => ?_
  cases r with
  | error e =>
    obtain ⟨_, _, _, _, _, _, _, _, _, _, _, _, _, _, _, z⟩ := (show L2N.CX P w [] H s₁ (fun _ _ _ => False) e s' from h)
  | ok fl => cases fl with
    | ret u =>
      obtain ⟨v, H', os, bare, un, hok', r', q⟩ := h
      have q' : v = .bl true := q
      subst q'
      cases (show u = Value.bool true from r')
      refine ⟨rfl, OldK.of_keep fun b o e => ?_, os, bare⟩
      cases q : H b with
      | none => exact un.keep b o e q (fun z => by cases (show b ∈ ([] : List Addr) from z)) (fun z => by cases (show b ∈ ([] : List Addr) from z))
      | some u =>
        obtain ⟨_, ob, xs, z⟩ := hA b (by rw [q]; exact fun z => nomatch z)
        have e1 := (hOk b _ z).1
        have e2 := (hok' b _ (un.frzs b ob _ z)).1
        rw [e] at e1
        cases e1
        exact e2
    | _ => exact False.elim h
/-- the head's last goal, by the law's machine -/
theorem walk_ofG {l : PySem.W.OpenLaw} {n k : Nat} {q : Program} {loose : List Str} {XP : (Str → Option Value) → Heap → Prop} {YP : World → Heap → Prop} {d : DefRec} {x : Str} {m : Fn}
    (hn : l.most = some n) (hn2 : n ≤ sizeLine) (hdf : d.params.defaults = []) (hr : Room k callerA)
    (hm : ∀ ns : List Int, ns.length ≤ n → ∃ S', m [.scr (ns.map .int)] S0 = .ok (.bl true) S')
    (F : ∀ (w : World) (mg : Str → Option Value) (fa : Addr) (h : Heap), YP w h → h.Ns mainGlobals mg → mg d.name = some (.ref fa) →
      ∃ (ca : CAK) (fd : FuncData), ca.K.In h ∧ (∀ (s : Shared) (u : Value), BindsTo s fd ⟨[u], []⟩ [(x, u)]) ∧ ∀ base : Heap, ca.K.In base → base.Ns mainGlobals mg → M3N.FnG l.prog w ca.K mg base (L2N.CX l.prog w) k fa fd [x] (spM ca m)) :
    PySem.W.WalkO q loose XP YP l.row.toRowW d [] (fun f vs => PySem.call f vs) := by
  refine Att.attach_call hn hdf fun w s₀ s₁ mg mb fa o pm cd doc a vs ns G Y ho hd hcd hmg hobj hints hlen hg => ?_
  obtain ⟨ca, fd, KX, hb, hF⟩ := F w mg fa _ Y G.T.g hmg
  have rv := vals_ints hints
  have hl : ns.length ≤ sizeLine := Nat.le_trans hlen hn2
  have lenV := hints.length
  cases hk : ca.K.lookup a with
  | some o =>
    have e := KX a o hk
    rw [hobj] at e
    cases e
    refine law_runG (H := fun _ => none) (g := ⟨[], fun _ => none⟩) rfl KX G.T.g G.T.b G.T.builtins G.T.nolimit hg hobj hr hF hb (hm ns hlen) ⟨rfl, List.nodup_nil, fun b u z => (nomatch z), fun n o z => (nomatch z), fun n b z => by simp at z, fun n z => (nomatch z)⟩ (.scrK ⟨_, vs.toArray, _, hk, rfl, rfl, rfl, by rw [List.size_toArray, lenV]; exact hl, by simpa using rv⟩ (RepL.ints ns)) (fun b u z => (nomatch z)) (fun b z => absurd rfl z) (fun z => absurd rfl z)
  | none =>
    have at_ : ∀ b, (if b = a then some (HO.frz { cls := .type "list", data := .seq vs.toArray } (.lst (ns.map V.int))) else none) ≠ none → b = a := fun b z => by
      by_cases hb' : b = a
      · exact hb'
      · exact absurd (if_neg hb') z
    refine law_runG (H := fun b => if b = a then some (.frz { cls := .type "list", data := .seq vs.toArray } (.lst (ns.map V.int))) else none) (g := ⟨[], fun b => if b = a then some (.lst (ns.map V.int)) else none⟩) rfl KX G.T.g G.T.b G.T.builtins G.T.nolimit hg hobj hr hF hb (hm ns hlen)
      ⟨rfl, List.nodup_nil, fun b u z => ?_, fun n o z => (nomatch z), fun n b z => by simp at z, fun n z => (nomatch z)⟩ (.scrF (if_pos rfl) (RepL.ints ns)) (fun b u z => ?_) (fun b z => ⟨at_ b z, _, _, if_pos (at_ b z)⟩) (fun _ => hk)
    · by_cases hb' : b = a
      · subst hb'
        have z' := (if_pos rfl).symm.trans z
        cases z'
        exact .inr ⟨_, if_pos rfl⟩
      · have z' := (if_neg hb').symm.trans z
        cases z'
    · by_cases hb' : b = a
      · have z' := (if_pos hb').symm.trans z
        cases z'
        subst hb'
        exact ⟨hobj, by rw [List.length_map]; exact hl, vs, _, rv, hobj⟩
      · have z' := (if_neg hb').symm.trans z
        cases z'
end M3
/-! M3W: is True. -/
namespace M3
open PySem L2
variable {ca : CAK}
section
variable {X : Cx}
def isF2 : O2 := fun x y S => match x, y with
  | .bl a, .bl b => some (.bl (a == b), S)
  | x, y => isF x y S
def isNotF2 : O2 := fun x y S => match x, y with
  | .bl a, .bl b => some (.bl (!(a == b)), S)
  | x, y => isNotF x y S
theorem op_isF2 : OpR X (compareOp .Is) (rdO2 ca isF2) := by
  intro pins s σ H x y v u Q I rx ry ⟨g, S, d, e, sm, rd, re, h⟩
  unfold isF2 at h
  split at h
  · cases rd; cases re
    cases (show v = Value.bool _ from rx)
    cases (show u = Value.bool _ from ry)
    refine wpAny_is_plain rfl (fin_bl I (h.now sm _ (.bl _)) ?_)
    rename_i a b
    cases a <;> cases b <;> rfl
  · exact op_isF pins s σ H x y v u Q I rx ry ⟨g, S, d, e, sm, rd, re, h⟩
theorem op_isNotF2 : OpR X (compareOp .IsNot) (rdO2 ca isNotF2) := by
  intro pins s σ H x y v u Q I rx ry ⟨g, S, d, e, sm, rd, re, h⟩
  unfold isNotF2 at h
  split at h
  · cases rd; cases re
    cases (show v = Value.bool _ from rx)
    cases (show u = Value.bool _ from ry)
    refine wpAny_isNot_plain rfl (fin_bl I (h.now sm _ (.bl _)) ?_)
    rename_i a b
    cases a <;> cases b <;> rfl
  · exact op_isNotF pins s σ H x y v u Q I rx ry ⟨g, S, d, e, sm, rd, re, h⟩
end
end M3
/-! M3X: how defs bind their arguments. -/
namespace M3
open PySem L2
variable {ca : CAK}
section
variable {K : PySem.W.Frag} {x qual : Str} {params : Arguments} {body : List Stmt} {scope : Scope} {kws : List (Str × V)} {f : Addr} {fd : FuncData} {ps : List Str}
theorem dfl0 (h : Binds K fd ps []) : Dfl ca K fd ps [] := ⟨[], [], h, .nil, fun _ => .nil⟩
theorem dflK {dds : List D} (h : ∃ ds, Vals (kws.map (·.2)) ds ∧ Binds K fd ps ds) (r : ∀ g : Wld, RepL ca g (kws.map (·.2)) dds) : Dfl ca K fd ps dds := by
  obtain ⟨ds, h1, h2⟩ := h
  exact ⟨_, ds, h2, h1, r⟩
/-- every keyword-only parameter is given, by its name -/
theorem kbn_of {n : Nat} {ks : List Str} (F : FunD K x qual params body scope [] kws f fd)
    (h : ∀ (kV doc pm : Value) (an : Option Addr) (cdv ct : Value) (us ws : List Value), us.length = n → ws.length = ks.length → bindArgs (PySem.W.fnOf x qual params body scope .none kV doc pm an cdv ct) ⟨us, ks.zip ws⟩ = pure (ps.zip (us ++ ws))) : KBn K fd ps n ks cat2 cat2 := by
  obtain ⟨oc, od, dV, kV, doc, pm, an, cdv, ct, osl, rfl, lk, hcd, hD, _⟩ := F.ex
  rcases hD with ⟨_, rfl⟩ | ⟨e, _⟩
  · exact ⟨fun s us ws _ l1 l2 => .of_eq (h kV doc pm an cdv ct us ws l1 l2), fun r1 r2 => r1.append r2⟩
  · exact absurd rfl e
end
end M3
/-! M3Y: a def that is handed one whole number, run once for all numbers. -/
namespace M3
open PySem L2
variable {ca : CAK}
abbrev CAK.at_ (ca : CAK) (n : Int) (h : 0 ≤ n ∧ n < 10 ^ 10) : CAK := ⟨ca.f, ca.K, fun _ => n, fun _ => h⟩
def symFn (m : Fn) : Fn := fun ds S => match ds with
  | [.int n] => if 0 ≤ n ∧ n < 10 ^ 10 then (match m [.sym 0] S0 with
    | .ok (.bl b) _ => .ok (.bl b) S
    | _ => .bad) else .bad
  | _ => .bad
theorem frz_some {H : Hp} {a : Addr} {u : HO} (h : FrzAs H a u) : H a ≠ none := by
  cases u with
  | lst xs => rcases h with h | ⟨o, h⟩ <;> (rw [h]; exact fun z => nomatch z)
  | dK ks => rcases h with h | ⟨o, h⟩ <;> (rw [h]; exact fun z => nomatch z)
  | tup xs => rw [show H a = _ from h]; exact fun z => nomatch z
  | ins C dx fs => rw [show H a = _ from h]; exact fun z => nomatch z
  | _ => exact h.elim
theorem Sim.grow {g : Wld} {S : S3} {H H' : Hp} (s : Sim ca g S H) (k : ∀ a o, H a = some o → H' a = some o) : Sim ca g S H' := by
  have eq : ∀ a, H a ≠ none → H' a = H a := fun a n => by
    cases e : H a with
    | none => exact absurd e n
    | some o => exact k a o e
  refine ⟨s.len, s.inj, fun a u e => (s.frz a u e).of_eq (eq a (frz_some (s.frz a u e))), fun n ob e => ?_, fun n a e => ?_, s.lkd⟩
  · obtain ⟨a, u, h1, h2, h3, h4⟩ := s.cel n ob e
    exact ⟨a, u, h1, h2, h3, h4.of_eq (eq a (s.old n a h1))⟩
  · rw [eq a (s.old n a e)]; exact s.old n a e
theorem Ext.grow {g : Wld} {H H' : Hp} (k : ∀ a o, H a = some o → H' a = some o) : Ext g H g H' where
  le := .refl g
  fz := fun a o u e => k a _ e
  old := fun a n => by
    cases e : H a with
    | none => exact absurd e n
    | some o => rw [k a o e]; exact fun z => nomatch z
  nph := fun _ _ e => .inl e
  nfr := fun _ _ e => .inl e
  rest := fun a o e _ => k a o e
theorem sim0 {H : Hp} : Sim ca ⟨[], fun _ => none⟩ S0 H := ⟨rfl, List.nodup_nil, fun _ _ z => (nomatch z), fun _ _ z => (nomatch z), fun n a z => by simp at z, fun _ z => (nomatch z)⟩
theorem sp_sym {m : Fn} {vs : List V} {H : Hp} {Q : VK} {E : XK} (h : spM ca (symFn m) vs H Q E) : ∃ n hn, spM (ca.at_ n hn) m vs H Q E := by
  obtain ⟨ds, S, g, s, r, h⟩ := h
  unfold symFn at h
  split at h
  · rename_i n
    split at h
    · rename_i hn
      obtain ⟨v, rfl, rv⟩ := r.one
      cases rv
      refine ⟨n, hn, [.sym 0], S0, ⟨[], fun _ => none⟩, sim0, .cons (.sym (ca := ca.at_ n hn) 0) .nil, ?_⟩
      split at h
      · rename_i b S' e
        rw [e]
        intro g' H' x' s' x rx
        cases rx
        have k : ∀ a o, H a = some o → H' a = some o := fun a o q => x'.rest a o q ⟨fun n z => by simp at z, rfl⟩
        exact h g H' (.grow k) (s.grow k) _ (.bl b)
      · exact h.elim
    · exact h.elim
  · exact h.elim
section
variable {P : Program} {w : World} {K : PySem.W.Frag} {mg : Str → Option Value} {base : Heap} {k : Nat} {f : Addr} {fd : FuncData} {ps : List Str} {m : Fn}
theorem fnOk_sym (F : ∀ n hn, FnOk P w K mg base (L2N.CX P w) k f fd ps (spM (ca.at_ n hn) m)) : FnOk P w K mg base (L2N.CX P w) k f fd ps (spM ca (symFn m)) :=
  ⟨fun vs H Q E q => by
    obtain ⟨n, hn, z⟩ := sp_sym q
    exact (F n hn).len _ _ _ _ z, fun A outer s H args us vs Q E hr he hb hv hs => by
    obtain ⟨n, hn, z⟩ := sp_sym hs
    exact (F n hn).run A outer s H args us vs Q E hr he hb hv z⟩
theorem fnG_sym (F : ∀ n hn, M3N.FnG P w K mg base (L2N.CX P w) k f fd ps (spM (ca.at_ n hn) m)) : M3N.FnG P w K mg base (L2N.CX P w) k f fd ps (spM ca (symFn m)) :=
  ⟨fun vs H Q E q => by
    obtain ⟨n, hn, z⟩ := sp_sym q
    exact (F n hn).len _ _ _ _ z, fun A outer s H args us vs Q E hr hg he hb hv hs => by
    obtain ⟨n, hn, z⟩ := sp_sym hs
    exact (F n hn).run A outer s H args us vs Q E hr hg he hb hv z⟩
end
end M3
/-! M3Z: own errors raised and caught, isinstance of what is caught; list.index, list.count; text times number. -/
namespace M3
open PySem L2
variable {ca : CAK}
/-! ### raise -/
/-- an error class of the program, over ValueError, without an own __init__ -/
structure XC (ca : CAK) (K : PySem.W.Frag) (mg : Str → Option Value) (c : Nat) (x : Str) : Prop where
  q : PySem.W.excIn K (ca c) He.veBase "ValueError.__new__" = true
  gC : mg x = some (.ref (ca c))
  kC : PySem.W.keepIn K (.ref (ca c)) = true
  b : PySem.W.subIn K (.ref (ca c)) (.type "BaseException") = some true
  t : PySem.W.typeIn K (.ref (ca c)) = some (.type "type")
section
variable {X : Cx} {W : WX} {k c : Nat} {x m n : Str} {j i : Nat} {p p2 pos pos' np : Pos}
theorem ss_raiseO (C : CO ca X W k) (F : XC ca X.K X.mg c x) (hg : Gl X x := by rfl) (hdb : (x == ("__debug__" : Str)) = false := by decide) :
    PS X (.Raise (some (.Call (.Name x p) [.Constant (.str m) j p2] [] pos)) none pos') (rdS ca W (raiseM c)) :=
  PS_imp (L2N.ps_raise C.calm C.tk (L2N.pmk_own PySem.F.excBase_ValueError F.q F.gC F.kC (raises_own F.b F.t) hg hdb)) fun D σ H ⟨v, S, g, s, e, h⟩ => h g H σ (.refl _ _) s e _ _ ⟨rfl, rfl⟩
/-! ### try .. except x as n, the caught error without fields -/
def tryAs (i : Nat) (yes no : List Nat) (b : SC) (su : Nat → SC) : SC := fun v S => match b v S with
  | .ex e v1 S1 => if yes.contains e.c then (if i < v1.length ∧ e.fs = [] then (match su e.c (v1.set i none) S1 with
      | .nx v2 S2 => .nx (v2.set i none) S2
      | .bk v2 S2 => .bk (v2.set i none) S2
      | .ct v2 S2 => .ct (v2.set i none) S2
      | .rt d S2 => .rt d S2
      | _ => .bad) else .bad)
    else if no.contains e.c then .ex e v1 S1 else .bad
  | r => r
variable (ca)
/-- a suite's reading: the error stands in slot i, the machine doesn't see it -/
def rdU (i : Nat) (a : Addr) (m : SC) : TS := fun D σ H => σ[i]? = some (some (.ref a)) ∧ rdS ca WF m D σ H
/-- an expression's, arguments' reading there -/
def rdEU (i : Nat) (a : Addr) (m : CE) : TE := fun σ H Q => σ[i]? = some (some (.ref a)) ∧ rdE ca WF m σ H Q
def rdAU (i : Nat) (a : Addr) (m : CA) : TA := fun σ H Q => σ[i]? = some (some (.ref a)) ∧ rdA ca WF m σ H Q
variable {ca}
theorem EnvR.hide {g : Wld} {v : Ev} {σ : St} (e : EnvR ca g v σ) (i : Nat) (x : Option V) : EnvR ca g (v.set i none) (σ.set i x) := by
  refine ⟨by rw [List.length_set, List.length_set, e.len], fun j d q => ?_⟩
  by_cases hj : i = j
  · subst hj
    by_cases hi : i < v.length
    · rw [List.getElem?_set_self hi] at q; cases q
    · rw [List.getElem?_eq_none (by rw [List.length_set]; omega)] at q; cases q
  · rw [List.getElem?_set_ne hj] at q
    rw [List.getElem?_set_ne hj]
    exact e.at_ j d q
theorem ss_tryAs {cv : Value} {yes no : List Nat} {body suite : List Stmt} {b₀ : Stmt} {b : SC} {su : Nat → SC} (C : COT ca X W k) (hi : X.N[i]? = some n) (hln : X.env.kindOf n = some .local) (hc : Names X x cv)
    (hyes : ∀ q, yes.contains q = true → PySem.W.exmOne X.K (.ref (ca q)) cv = some true) (hno : ∀ q, no.contains q = true → PySem.W.exmOne X.K (.ref (ca q)) cv = some false)
    (hb : ∀ (W' : WX) (pn : List (Addr × Obj)) (xe : Value → Shared → Prop), COT ca (X.tr pn xe) W' k → PSs (X.tr pn xe) body (rdS ca W' b))
    (hsu : ∀ (a : Addr) (oe : Obj) (q : Nat) (pn : List (Addr × Obj)), yes.contains q = true → L2N.Zn (.ref (ca q)) none oe → (∃ vs, oe.data = .fields vs) → PSs (X.suite a ((a, oe) :: pn)) (b₀ :: suite) (rdU ca i a (su q))) :
    PS X (.Try body [.ExceptHandler (some (.Name x np)) (some n) (b₀ :: suite) pos'] [] [] pos) (rdS ca W (tryAs i yes no b su)) := by
  refine PS_imp (L2N.ps_try_as (ts := fun a cls d D σ H => ∃ q, yes.contains q = true ∧ cls = .ref (ca q) ∧ d = none ∧ rdU ca i a (su q) D σ H) C.stk C.fr C.nd hi hln hc C.tk (fun W' pn xe tk ow => hb W' pn xe (C.tr tk ow))
    (fun a oe cls d pn hz hf => ⟨fun pins s σ H D I ⟨q, hq, hcls, hd, h⟩ => by
      subst hcls hd
      exact (hsu a oe q pn hq hz hf).run pins s σ H D I h⟩)) ?_
  rintro D σ H ⟨v, S, g, s, e, h⟩
  refine ⟨v, S, g, s, e, ?_⟩
  unfold tryAs at h
  revert h
  cases b v S with
  | nx v1 S1 => exact fun h => h
  | rt d S1 => exact fun h => h
  | bk v1 S1 => exact fun h => h
  | ct v1 S1 => exact fun h => h
  | bad => exact fun h => h
  | ex ec v1 S1 =>
    intro h g1 H1 σ1 x1 s1 e1 cls od rx
    obtain ⟨c0, fs0⟩ := ec
    obtain ⟨rfl, rx2⟩ := rx
    by_cases hy : yes.contains c0 = true
    · refine ⟨true, hyes _ hy, fun _ a ha => ?_, fun z => nomatch z⟩
      dsimp only at h
      rw [if_pos hy] at h
      by_cases hf : i < v1.length ∧ fs0 = []
      · rw [if_pos hf] at h
        obtain ⟨hil, rfl⟩ := hf
        refine ⟨c0, hy, rfl, rx2, List.getElem?_set_self (by rw [← e1.len]; exact hil), v1.set i none, S1, g1, s1, e1.hide i _, ?_⟩
        revert h
        cases su c0 (v1.set i none) S1 with
        | nx v2 S2 => exact fun h g2 H2 σ2 x2 s2 e2 => h g2 H2 _ (x1.trans x2) s2 (e2.unset i)
        | bk v2 S2 => exact fun h g2 H2 σ2 x2 s2 e2 => h g2 H2 _ (x1.trans x2) s2 (e2.unset i)
        | ct v2 S2 => exact fun h g2 H2 σ2 x2 s2 e2 => h g2 H2 _ (x1.trans x2) s2 (e2.unset i)
        | rt d S2 => exact fun h g2 H2 x2 s2 => h g2 H2 (x1.trans x2) s2
        | ex _ _ _ => exact fun h => h.elim
        | bad => exact fun h => h.elim
      · rw [if_neg hf] at h
        exact h.elim
    · dsimp only at h
      rw [if_neg hy] at h
      by_cases hn : no.contains c0 = true
      · rw [if_pos hn] at h
        refine ⟨false, hno _ hn, (fun z => nomatch z), fun _ => ?_⟩
        exact h g1 H1 σ1 x1 s1 e1 _ _ ⟨rfl, rx2⟩
      · rw [if_neg hn] at h
        exact h.elim
/-! ### the suite -/
/-- what a suite's context has -/
structure COS (ca : CAK) (X : Cx) : Prop where
  hK : X.K = ca.K
  nd : X.N.Nodup
  hu64 : X.A.units + 64 < cLine
theorem COS.hu (c : COS ca X) : X.A.units + 1 < cLine := by have := c.hu64; omega
theorem COS.of (C : CO ca X W k) (a : Addr) (pn : List (Addr × Obj)) : COS ca (X.suite a pn) := ⟨C.hK, C.nd, C.hu64⟩
/-- isinstance(n, y): n the error -/
theorem pe_isE {a C D : Addr} {oe : Obj} {pn : List (Addr × Obj)} {y : Str} {b : Bool} {p3 : Pos} (F : ExcC X.K D) (hz : L2N.Zn (.ref D) none oe) (hf : ∃ vs, oe.data = .fields vs) (hi : X.N[i]? = some n) (hv : Vis X.env.scope n) (hd : (n == ("__debug__" : Str)) = false) (hcd : (n == ("__classdict__" : Str)) = false)
    (hg : Gl X "isinstance") (hm : X.mg "isinstance" = none) (hy : Gl X y) (hym : X.mg y = some (.ref C)) (hyd : (y == ("__debug__" : Str)) = false) (hk : PySem.W.kitOne X.K (.ref D) (.ref C) = some b)
    (hpl : (backTo pos (starEach [(.Name y p3 : Expr)] X.env)).any (·.1) = false) :
    PE (X.suite a ((a, oe) :: pn)) (.Call (.Name "isinstance" p) [.Name n p2, .Name y p3] [] pos) (fun σ H Q => σ[i]? = some (some (.ref a)) ∧ Q (.bl b) H) := by
  have h1 : PA (X.suite a ((a, oe) :: pn)) [.Name n p2, .Name y p3] (tCons (fun σ H Q => ∃ x, σ[i]? = some (some x) ∧ Q x H) (tCons (tC (.ref C)) tNil)) := pa_cons (pe_var hi hv hd hcd) (pa_cons (pe_glob hy hym rfl hyd) pa_nil)
  refine PE_imp (pe_callB (call_isE (pn := pn) F hz.zc hf) hg hm (by decide +kernel) h1 (by decide) (by decide) (by rfl) hpl) ?_
  rintro σ H Q ⟨h, q⟩
  exact ⟨.ref a, h, .ref C, .ref C, b, rfl, fun u r => r, hk, q⟩
variable {e e2 : Expr} {es : List Expr} {a : Addr} {me : CE} {ms : CA} {st : Stmt} {rest : List Stmt} {s1 s2 : SC}
theorem sdu_of (h : SD ca X WF e me) : PE X e (rdEU ca i a me) := PE_imp h.pe fun σ H Q q => q.2
theorem sdu_isE {C D : Addr} {oe : Obj} {pn : List (Addr × Obj)} {y : Str} {b : Bool} {p3 : Pos} (F : ExcC X.K D) (hz : L2N.Zn (.ref D) none oe) (hf : ∃ vs, oe.data = .fields vs) (hm : X.mg "isinstance" = none) (hym : X.mg y = some (.ref C)) (hk : PySem.W.kitOne X.K (.ref D) (.ref C) = some b) (hi : X.N[i]? = some n := by rfl)
    (hv : Vis X.env.scope n := by first | exact Or.inl rfl | exact Or.inr (Or.inl rfl) | exact Or.inr (Or.inr rfl)) (hd : (n == ("__debug__" : Str)) = false := by decide) (hcd : (n == ("__classdict__" : Str)) = false := by decide)
    (hg : Gl X "isinstance" := by rfl) (hy : Gl X y := by rfl) (hyd : (y == ("__debug__" : Str)) = false := by decide)
    (hpl : (backTo pos (starEach [(.Name y p3 : Expr)] X.env)).any (·.1) = false := by rfl) :
    PE (X.suite a ((a, oe) :: pn)) (.Call (.Name "isinstance" p) [.Name n p2, .Name y p3] [] pos) (rdEU ca i a (xc (.bl b))) := PE_imp (pe_isE F hz hf hi hv hd hcd hg hm hy hym hyd hk hpl) fun σ H Q ⟨h, v, S, g, s, e, q⟩ => ⟨h, q g H (.refl _ _) s _ (.bl b)⟩
theorem pau_nil : PA X [] (rdAU ca i a aNil) := PA_imp sda_nil fun σ H Q q => q.2
theorem pau_cons (ha : PE X e (rdEU ca i a me)) (hr : PA X es (rdAU ca i a ms)) (hs : starEach (e :: es) X.env = (false, eval e X.env) :: starEach es X.env := by rfl) : PA X (e :: es) (rdAU ca i a (aCons me ms)) := PA_imp (pa_cons ha hr hs) <| by
  rintro σ H Q ⟨hσ, v, S, g, s, e, h⟩
  refine ⟨hσ, v, S, g, s, e, (Fin.seq h).imp (fun d g1 H1 x1 ⟨S1, s1, h1⟩ xv rv => ?_) fun _ _ _ _ z => z⟩
  refine ⟨hσ, v, S1, g1, s1, e.mono x1.le, (Fin.seq h1).imp (fun ds g2 H2 x2 ⟨S2, s2, h2⟩ xs rs => ?_) fun _ _ _ _ z => z⟩
  exact h2 g2 H2 (.refl _ _) s2 _ (.cons (rv.mono x2.le) rs)
theorem sdu_lst (h : PA X es (rdAU ca i a ms)) : PE X (.List es pos) (rdEU ca i a (lstM ms)) := PE_imp (pe_lst h) <| by
  rintro σ H Q ⟨hσ, v, S, g, s, e, h⟩
  refine ⟨hσ, v, S, g, s, e, (Fin.seq h).imp (fun d g1 H1 x1 ⟨S1, s1, h1⟩ xs rs => ?_) fun _ _ _ _ z => z⟩
  split at h1
  · rename_i hz
    exact ⟨by rw [rs.len]; exact Nat.le_trans hz lim_le, fun p hp => h1 (g1.tree p (.lst xs)) _ (s1.extTree hp) (s1.tree hp True.intro) _ (.lst upd_same (rs.mono (s1.leTree hp)))⟩
  · exact h1.elim
theorem stu_asgN {j : Nat} {x : Str} {p' : Pos} (h : PE X e (rdEU ca i a me)) (hN : X.N.Nodup) (hi : X.N[j]? = some x := by rfl) (hx : Loc X.env.scope x := by first | exact Or.inl rfl | exact Or.inr rfl) (hs : swapsWith e (some (.Name x p')) pos.line X.env = pure false := by rfl) (hf : X.fn x = true ∨ X.env.scope.names.lookup x = some .local := by first | exact .inl rfl | exact .inr rfl) :
    PS X (.Assign [.Name x p'] e pos) (rdU ca i a (asgS me (asgN j))) := PS_imp (ps_set hN hi hx h hs hf) fun D σ H ⟨hσ, v, S, g, s, e, h⟩ =>
  ⟨hσ, v, S, g, s, e, (FinS.ofE h e).imp (fun d g1 H1 x1 ⟨S1, s1, h1⟩ x r => h1.now s1 ((e.mono x1.le).set j r)) fun _ _ _ _ z => z⟩
theorem stu_ret (h : PE X e (rdEU ca i a me)) : PS X (.Return (some e) pos) (rdU ca i a (retM me)) := PS_imp (ps_ret h) fun D σ H ⟨hσ, v, S, g, s, e, h⟩ => by
  exact ⟨hσ, v, S, g, s, e, (FinS.ofE h e).imp (fun d g1 H1 x1 ⟨S1, s1, h1⟩ x r => h1 g1 H1 (.refl _ _) s1 x r) fun _ _ _ _ z => z⟩
theorem ssu_of (h : PSs X rest (rdS ca WF s1)) : PSs X rest (rdU ca i a s1) := PSs_imp h fun D σ H q => q.2
theorem ssu_cons (h1 : PS X st (rdU ca i a s1)) (h2 : PSs X rest (rdS ca WF s2)) : PSs X (st :: rest) (rdU ca i a (seqM s1 s2)) := PSs_imp (pss_cons h1 h2) fun D σ H ⟨hσ, v, S, g, s, e, h⟩ => ⟨hσ, v, S, g, s, e, h.seq⟩
theorem ssu_one (h1 : PS X st (rdU ca i a s1)) : PSs X [st] (rdU ca i a s1) := pss_one h1
end
/-! ### list.index, list.count of flat data -/
def flats (x : V) : List D → Option (List V)
  | [] => some []
  | d :: r => match flatD d, flats x r with
    | some y, some ys => if scal y x = true then some (y :: ys) else none
    | _, _ => none
def lixF : O2 := fun d y S => match lstOf S d, flatD y with
  | some xs, some x => match flats x xs with
    | some ys => (ys.findIdx? fun z => decide (z = x)).map fun k => (.int (k : Nat), S)
    | none => none
  | _, _ => none
def lcnF : O2 := fun d y S => match lstOf S d, flatD y with
  | some xs, some x => match flats x xs with
    | some ys => some (.int (ys.countP fun z => decide (z = x) : Nat), S)
    | none => none
  | _, _ => none
theorem flats_rep {g : Wld} {x : V} : ∀ {ds : List D} {vs ys : List V}, RepL ca g vs ds → flats x ds = some ys → vs = ys ∧ vs.all flatV = true ∧ ∀ y ∈ vs, scal y x = true
  | [], _, _, .nil, h => by cases h; exact ⟨rfl, rfl, fun _ h => by cases h⟩
  | d :: r, _, _, .cons rv rt, h => by
    unfold flats at h
    split at h
    · rename_i y ys e1 e2
      split at h
      · rename_i hs
        cases h
        obtain ⟨rfl, f1⟩ := flatD_rep rv e1
        obtain ⟨rfl, f2, f3⟩ := flats_rep rt e2
        refine ⟨rfl, by rw [List.all_cons, f1, f2]; rfl, fun z hz => ?_⟩
        rcases List.mem_cons.mp hz with e | hz
        · rw [e]; exact hs
        · exact f3 z hz
      · cases h
    · cases h
/-- count of flat values -/
def rCntF (K : PySem.W.Frag) : V → List V → Hp → VK → Prop := fun x xs H Q => ∃ (a : Addr) (ys : List V) (y : V), x = V.ref a ∧ xs = [y] ∧ SqL K H a ys ∧ flatV y = true ∧ ys.all flatV = true ∧ Q (.int (ys.countP fun z => eqV z y : Nat)) H
theorem count_eqU {y : V} : ∀ {ys : List V} {us : List Value}, Vals ys us → ys.all flatV = true → us.countP (eqU y) = ys.countP fun z => eqV z y
  | _, _, .nil, _ => rfl
  | z :: ys, u :: us, .cons r t, f => by
    rw [List.all_cons, Bool.and_eq_true] at f
    rw [List.countP_cons, List.countP_cons, count_eqU t f.2, eqU_of r f.1]
section
variable {X : Cx} {W : WX} {k : Nat} {a b : Expr} {ma mb : CE} {apos cpos : Pos}
theorem mt_lcountF : MtR X "list.count" (rCntF X.K) := by
  intro pins s σ H x xs v us Q I rx rxs h
  obtain ⟨p, ys, y, rfl, rfl, hs, fy, fys, q⟩ := h
  cases rx
  obtain ⟨u, rfl, ru⟩ := rxs.one
  obtain ⟨its, rv, ⟨⟨cls, dd, data, sl⟩, n, ho, hc, hdn, hd⟩, hlen⟩ := I.list hs
  simp only at hc hd
  subst hc hd
  refine call_meets PySem.F.slot_list_count ⟨_, ho, rfl⟩ PySem.F.entry_list_count (PySem.F.args_list_count_2 _ _)
    (SeqAt.list_countAt p its.toArray n dd sl u (eqU y)) ⟨ho, fun u' hu' => mem_eqAt ru fy rv fys u' (by simpa using hu'), ?_⟩
  have ec : its.toArray.toList.countP (eqU y) = ys.countP fun z => eqV z y := count_eqU rv fys
  refine ⟨.int (ys.countP fun z => eqV z y : Nat), H, I.tok _, ⟨s.toks, ?_⟩, q⟩
  show Value.int ((its.toArray.toList.countP (eqU y) : Nat) : Int) s.toks = Value.int ((ys.countP fun z => eqV z y : Nat) : Int) s.toks
  rw [ec]
theorem findIdx_spec {α : Type} {p : α → Bool} : ∀ {l : List α} {k : Nat}, l.findIdx? p = some k → ∃ z, l[k]? = some z ∧ p z = true ∧ ∀ (m : Nat) (z' : α), m < k → l[m]? = some z' → p z' = false := by
  intro l k h
  obtain ⟨hk, h1, h2⟩ := List.findIdx?_eq_some_iff_getElem.mp h
  refine ⟨l[k], List.getElem?_eq_getElem hk, h1, fun m z' hm hz => ?_⟩
  have hml : m < l.length := by omega
  rw [List.getElem?_eq_getElem hml] at hz
  cases hz
  have := h2 m hm
  simpa using this
def lixM (ma mb : CE) : CE := fun v S => (ma v S).bind fun d S1 => match lstOf S1 d with
  | none => .bad
  | some _ => (mb v S1).bind fun y S2 => lift (lixF d y S2)
def lcnM (ma mb : CE) : CE := fun v S => (ma v S).bind fun d S1 => match lstOf S1 d with
  | none => .bad
  | some _ => (mb v S1).bind fun y S2 => lift (lcnF d y S2)
theorem Sim.sqL {g : Wld} {S : S3} {H : Hp} {K : PySem.W.Frag} {v : V} {d : D} (s : Sim ca g S H) (r : Rep ca g v d) {ds : List D} (h : lstOf S d = some ds) : ∃ a vs, v = .ref a ∧ SqL K H a vs ∧ RepL ca g vs ds := by
  obtain ⟨a, vs, e, hr, rl⟩ := s.lst r h
  exact ⟨a, vs, e, .inl hr, rl⟩
theorem rd_lm1 {ff : O2} {r : V → List V → Hp → VK → Prop} (hr : ∀ {g : Wld} {S : S3} {H : Hp} {x y : V} {d e : D} {Q : VK}, Sim ca g S H → Rep ca g x d → Rep ca g y e → FinO ca g H (ff d e S) (fun r g' H' => ∀ z, Rep ca g' z r → Q z H') → r x [y] H Q) :
    ∀ σ H Q, rdE ca W (fun v S => (ma v S).bind fun d S1 => match lstOf S1 d with
      | none => .bad
      | some _ => (mb v S1).bind fun y S2 => lift (ff d y S2)) σ H Q → tBM X.K "list" r (rdE ca W ma) (tCons (rdE ca W mb) tNil) σ H Q := by
  rintro σ H Q ⟨v, S, g, s, e, h⟩
  refine ⟨v, S, g, s, e, (Fin.seq h).imp (fun d g1 H1 x1 ⟨S1, s1, h1⟩ xv rv => ?_) fun _ _ _ _ z => z⟩
  split at h1
  · exact h1.elim
  · rename_i ds hd
    obtain ⟨a, vs, rfl, hs, _⟩ := s1.sqL (K := X.K) rv hd
    refine ⟨.inl ⟨rfl, vs, hs⟩, v, S1, g1, s1, e.mono x1.le, (Fin.seq h1).imp (fun d2 g2 H2 x2 ⟨S2, s2, h2⟩ yv ry => ?_) fun _ _ _ _ z => z⟩
    exact hr s2 (rv.mono x2.le) ry (FinO.of h2)
theorem eqV_flats {g : Wld} {x y : V} {f : flatV x = true} (fy : flatV y = true) (h : scal y x = true) : eqV y x = decide (y = x) := eqV_scal fy f h
theorem sd_lindex (hK : X.K = ca.K) (ha : SD ca X W a ma) (hb : SD ca X W b mb) (hw : ∀ whole, isTrue (.Call (.Attribute a "index" apos) [b] [] cpos) X.env whole = (do let v ← whole; standAt (Expr.Call (.Attribute a "index" apos) [b] [] cpos).pos; holding [v] (truthy v)) := by intro _; rfl)
    (hbase : attributeBase a "index" X.env (eval a X.env) = eval a X.env := by rfl)
    (hfew : ((backTo cpos (starEach [b] X.env)).all (fun x => !x.1) && (backToKw cpos (keywordEach [] X.env)).all (fun x => x.1.isSome) && decide ([b].length + ([] : List Keyword).length + (if ([] : List Keyword).isEmpty then 0 else 1) < 30)) = true := by rfl)
    (hline : (apos.endLine == cpos.line) = true := by rfl) (hs : starEach [b] X.env = (false, eval b X.env) :: starEach [] X.env := by rfl) (hplain : (backTo cpos (starEach [] X.env)).any (·.1) = false := by rfl) :
    SD ca X W (.Call (.Attribute a "index" apos) [b] [] cpos) (lixM ma mb) :=
  .of (PE_imp (pe_bm PySem.F.plainAttrs_list PySem.F.slot_list_index PySem.F.type_list_index mt_index ha.pe (pa_cons hb.pe pa_nil hs) hbase hfew hline hs hplain) (rd_lm1 fun {g S H x y d e Q} s rx ry h => by
    unfold lixF at h
    split at h
    · rename_i xs z hl hz
      split at h
      · rename_i ys hf
        obtain ⟨a, vs, rfl, hs, rl⟩ := s.sqL (K := X.K) rx hl
        obtain ⟨rfl, fz⟩ := flatD_rep ry hz
        obtain ⟨rfl, fa, fs⟩ := flats_rep rl hf
        cases hk : vs.findIdx? fun z => decide (z = y) with
        | none => rw [hk] at h; exact h.elim
        | some k =>
          rw [hk] at h
          obtain ⟨z, h1, h2, h3⟩ := findIdx_spec hk
          have at_ : ∀ (m : Nat) (w : V), vs[m]? = some w → eqV w y = decide (w = y) := fun m w hw => eqV_scal (List.all_eq_true.mp fa w (List.mem_of_getElem? hw)) fz (fs w (List.mem_of_getElem? hw))
          exact ⟨a, vs, y, k, z, rfl, rfl, hs, fz, fa, h1, by rw [at_ k z h1]; exact h2, fun m w hm hw => by rw [at_ m w hw]; exact h3 m w hm hw, h.now s _ (.int _)⟩
      · exact h.elim
    · exact h.elim)) hw
theorem sd_lcount (hK : X.K = ca.K) (ha : SD ca X W a ma) (hb : SD ca X W b mb) (hw : ∀ whole, isTrue (.Call (.Attribute a "count" apos) [b] [] cpos) X.env whole = (do let v ← whole; standAt (Expr.Call (.Attribute a "count" apos) [b] [] cpos).pos; holding [v] (truthy v)) := by intro _; rfl)
    (hbase : attributeBase a "count" X.env (eval a X.env) = eval a X.env := by rfl)
    (hfew : ((backTo cpos (starEach [b] X.env)).all (fun x => !x.1) && (backToKw cpos (keywordEach [] X.env)).all (fun x => x.1.isSome) && decide ([b].length + ([] : List Keyword).length + (if ([] : List Keyword).isEmpty then 0 else 1) < 30)) = true := by rfl)
    (hline : (apos.endLine == cpos.line) = true := by rfl) (hs : starEach [b] X.env = (false, eval b X.env) :: starEach [] X.env := by rfl) (hplain : (backTo cpos (starEach [] X.env)).any (·.1) = false := by rfl) :
    SD ca X W (.Call (.Attribute a "count" apos) [b] [] cpos) (lcnM ma mb) :=
  .of (PE_imp (pe_bm PySem.F.plainAttrs_list PySem.F.slot_list_count PySem.F.type_list_count mt_lcountF ha.pe (pa_cons hb.pe pa_nil hs) hbase hfew hline hs hplain) (rd_lm1 fun {g S H x y d e Q} s rx ry h => by
    unfold lcnF at h
    split at h
    · rename_i xs z hl hz
      split at h
      · rename_i ys hf
        obtain ⟨a, vs, rfl, hs, rl⟩ := s.sqL (K := X.K) rx hl
        obtain ⟨rfl, fz⟩ := flatD_rep ry hz
        obtain ⟨rfl, fa, fs⟩ := flats_rep rl hf
        refine ⟨a, vs, y, rfl, rfl, hs, fz, fa, ?_⟩
        have e : (vs.countP fun z => eqV z y) = vs.countP fun z => decide (z = y) := List.countP_congr fun w hw => by rw [eqV_scal (List.all_eq_true.mp fa w hw) fz (fs w hw)]
        rw [e]
        exact h.now s _ (.int _)
      · exact h.elim
    · exact h.elim)) hw
/-! ### text times number -/
def repS (x : Str) (n : Nat) : Str := ⟨(List.replicate n x.cps).foldl (· ++ ·) #[]⟩
def mulG : O2 := fun x y S => match x, y with
  | .str z, .int n => if 2 ≤ n ∧ n ≤ 100 ∧ 0 < z.length ∧ z.length ≤ 100 then some (.str (repS z n.toNat), S) else none
  | x, y => mulF x y S
theorem op_mulG : OpR X (binaryOp .Mult) (rdO2 ca mulG) := by
  intro pins s σ H x y v u Q I rx ry ⟨g, S, d, e, sm, rd, re, h⟩
  unfold mulG at h
  split at h
  · rename_i z n
    split at h
    · rename_i hc
      obtain ⟨h1, h2, h3, h4⟩ := hc
      cases rd; cases re
      obtain ⟨t, rfl⟩ := rx
      obtain ⟨t', rfl⟩ := ry
      have q := h.now sm _ (.str _)
      obtain ⟨m, rfl⟩ := Int.eq_ofNat_of_zero_le (show 0 ≤ n by omega)
      have n1 : ((m : Int) == 1) = false := beq_eq_false_iff_ne.mpr (by omega)
      have n2 : (z.length == 0) = false := beq_eq_false_iff_ne.mpr (by omega)
      have htl : Builtin.Str.tooLong (z.length * ((m : Int)).toNat) = false := by
        have e : ((m : Int)).toNat = m := by omega
        rw [e]
        have hz : z.length * m ≤ 100 * 100 := Nat.mul_le_mul h4 (by omega)
        have := sizeLine_eq
        unfold Builtin.Str.tooLong
        exact decide_eq_false (by omega)
      refine PySem.P.mul_str ?_ (fun _ _ => ?_) (fun _ _ => ?_) ?_
      · rw [Bool.or_eq_false_iff]
        exact ⟨decide_eq_false (by omega), decide_eq_false (by omega)⟩
      · have : ((2 : Int) ^ 63 - 1) / (m : Int) ≥ 1000 := by
          refine (Int.le_ediv_iff_mul_le (by omega)).mpr ?_
          have : (2 : Int) ^ 63 - 1 = 9223372036854775807 := by decide
          omega
        omega
      · exact htl
      · rw [if_neg (by omega), if_neg (by rw [n1, n2]; decide)]
        exact ⟨PySem.fits_reps htl, .str (repS z m), H, I.tok _, ⟨_, rfl⟩, q⟩
    · exact h.elim
  · exact op_mulF pins s σ H x y v u Q I rx ry ⟨g, S, _, _, sm, rd, re, h⟩
end
theorem ac_nil {P : Nat → Prop} : ∀ q, ([] : List Nat).contains q = true → P q := fun q h => by simp at h
theorem ac_cons {P : Nat → Prop} {n : Nat} {l : List Nat} (h : P n) (t : ∀ q, l.contains q = true → P q) : ∀ q, (n :: l).contains q = true → P q := fun q hq => by
  rw [List.contains_cons, Bool.or_eq_true] at hq
  rcases hq with e | e
  · rw [beq_iff_eq.mp e]; exact h
  · exact t q e
end M3
/-! ### what the head says of errors -/
namespace He2
open PySem PySem.Spec PyProof.Rows L2
inductive Fb where
  | exc (x : Str)
  | kit (x y : Str) (b : Bool)
def Fb.ok (K : PySem.W.Frag) : Fb → Bool
  | .exc x => decide (PySem.W.findIn K (.ref (He.ga K x)) "__getattribute__" = some (some (.builtin "BaseException.__getattribute__"))) && (decide (PySem.W.findIn K (.ref (He.ga K x)) "__getattr__" = some none) && (decide (PySem.W.subIn K (.ref (He.ga K x)) (.type "BaseException") = some true) && (PySem.W.hasDictIn K (He.ga K x) &&
      (decide (PySem.W.findIn K (.ref (He.ga K x)) "__class__" = some (some (.builtin "object.__class__"))) && (decide (PySem.W.specialIn K (.builtin "object.__class__") "__get__" = some (some (.builtin "getset_descriptor.__get__"))) && (decide (PySem.W.takesIn K (.builtin "object.__class__") = some true) && decide (PySem.W.mroIn K (He.ga K x) (.type "object") = some true)))))))
  | .kit x y b => decide (PySem.W.kitOne K (.ref (He.ga K x)) (.ref (He.ga K y)) = some b)
theorem exc_ok {K : PySem.W.Frag} {x : Str} (h : (Fb.exc x).ok K = true) : ExcC K (He.ga K x) := by
  obtain ⟨h1, h⟩ := He.ba h
  obtain ⟨h2, h⟩ := He.ba h
  obtain ⟨h3, h⟩ := He.ba h
  obtain ⟨h4, h⟩ := He.ba h
  obtain ⟨h5, h⟩ := He.ba h
  obtain ⟨h6, h⟩ := He.ba h
  obtain ⟨h7, h8⟩ := He.ba h
  exact ⟨of_decide_eq_true h1, of_decide_eq_true h2, of_decide_eq_true h3, h4, of_decide_eq_true h5, of_decide_eq_true h6, of_decide_eq_true h7, of_decide_eq_true h8⟩
theorem kit_ok {K : PySem.W.Frag} {x y : Str} {b : Bool} (h : (Fb.kit x y b).ok K = true) : PySem.W.kitOne K (.ref (He.ga K x)) (.ref (He.ga K y)) = some b := of_decide_eq_true h
abbrev AlQ : Type := He.AlD × Bool
def obsQ (fa : List He.Fa) (fn : List He.DefD) (fb : List Fb) (K : PySem.W.Frag) : AlQ := (He.obsD fa fn K, fb.all fun f => f.ok K)
def valQ (fn : List He.DefD) : AlQ := (He.valD fn, true)
structure SaysQ (fa : List He.Fa) (fn : List He.DefD) (fb : List Fb) (K : PySem.W.Frag) : Prop where
  d : He.SaysD fa fn K
  b : (fb.all fun f => f.ok K) = true
theorem SaysQ.fact2 {fa : List He.Fa} {fn : List He.DefD} {fb : List Fb} {K : PySem.W.Frag} (c : SaysQ fa fn fb K) (i : Nat) {f : Fb} (h : fb[i]? = some f := by rfl) : f.ok K = true := List.all_eq_true.mp c.b f (List.mem_of_getElem? h)
def obsQG (n : Nat) (fa : List He.Fa) (fn : List He.DefD) (fb : List Fb) (g : Addr → Option Obj) : AlQ := obsQ fa fn fb (He.frG g (He.asD g n))
def hookQ (n : Nat) (fa : List He.Fa) (fn : List He.DefD) (fb : List Fb) : PySem.W.Hook where
  α := AlQ
  obs := fun s => obsQG n fa fn fb s.heap.get?
  val := fun _ => valQ fn
  says := fun _ h => ∃ K : PySem.W.Frag, K.In h ∧ SaysQ fa fn fb K
  of := fun _ _ e => ⟨_, He.frG_in, ⟨congrArg (fun z : AlQ => z.1) e, congrArg (fun z : AlQ => z.2) e⟩⟩
  keeps := fun _ _ _ ⟨K, hK, c⟩ k => ⟨K, PySem.W.Frag.In.keeps hK k, c⟩
theorem obsQG_eq {n : Nat} {fa : List He.Fa} {fn : List He.DefD} {fb : List Fb} {g : Addr → Option Obj} {s : Shared} (h : ∀ a, g a = s.heap.get? a) : obsQG n fa fn fb g = (hookQ n fa fn fb).obs s := by
  have e : g = s.heap.get? := funext h
  rw [e] <;> rfl
end He2
namespace M3
open PySem L2
theorem xc_of {ca : CAK} {K : PySem.W.Frag} {mg : Str → Option Value} {c : Nat} {x : Str} (h : (He.Fa.exc x).ok K = true) (g : mg x = some (.ref (He.ga K x))) (e : ca c = He.ga K x := by rfl) : XC ca K mg c x := by
  obtain ⟨h1, h2, h3, h4⟩ := He.exc_ok h
  exact ⟨by rw [e]; exact h1, by rw [e]; exact g, by rw [e]; exact h2, by rw [e]; exact h3, by rw [e]; exact h4⟩
end M3
/-! M4A: the machine run by simp: each part applied to slots and a store. -/
namespace M3
open PySem L2
/-- a mark that keeps simp out of what follows -/
inductive Tg {α : Type} (k : α) : Type where
  | mk
def bd {α β : Type} (r : R α) (k : α → S3 → R β) (_ : Tg k) : R β := r.bind k
def bs {α : Type} (r : R α) (v : Ev) (k : α → S3 → SR) (_ : Tg k) : SR := r.bindS v k
section
variable {α β : Type} {a b c ma mb mc m mk mx mo mv : CE} {ms : CA} {v : Ev} {S : S3} {f f' : O2} {i j : Nat} {d x : D}
@[simp] theorem bd_ok (x : α) (S : S3) (k : α → S3 → R β) (t : Tg k) : bd (R.ok x S) k t = k x S := rfl
@[simp] theorem bd_ex (x : Exn) (S : S3) (k : α → S3 → R β) (t : Tg k) : bd (R.ex x S) k t = .ex x S := rfl
@[simp] theorem bd_bad (k : α → S3 → R β) (t : Tg k) : bd (R.bad : R α) k t = .bad := rfl
@[simp] theorem bs_ok (x : α) (S : S3) (v : Ev) (k : α → S3 → SR) (t : Tg k) : bs (R.ok x S) v k t = k x S := rfl
@[simp] theorem bs_ex (x : Exn) (S : S3) (v : Ev) (k : α → S3 → SR) (t : Tg k) : bs (R.ex x S) v k t = .ex x v S := rfl
@[simp] theorem bs_bad (v : Ev) (k : α → S3 → SR) (t : Tg k) : bs (R.bad : R α) v k t = .bad := rfl
@[simp] theorem sq_nx (v : Ev) (S : S3) (f : SC) : (SR.nx v S).seq f = f v S := rfl
@[simp] theorem sq_rt (d : D) (S : S3) (f : SC) : (SR.rt d S).seq f = .rt d S := rfl
@[simp] theorem sq_ex (e : Exn) (v : Ev) (S : S3) (f : SC) : (SR.ex e v S).seq f = .ex e v S := rfl
@[simp] theorem sq_bk (v : Ev) (S : S3) (f : SC) : (SR.bk v S).seq f = .bk v S := rfl
@[simp] theorem sq_ct (v : Ev) (S : S3) (f : SC) : (SR.ct v S).seq f = .ct v S := rfl
@[simp] theorem sq_bad (f : SC) : SR.bad.seq f = .bad := rfl
@[simp] theorem lift_s (x : α) (S : S3) : lift (some (x, S)) = .ok x S := rfl
@[simp] theorem lift_n : lift (none : Option (α × S3)) = .bad := rfl
@[simp] theorem xv_ap : xv i v S = (match v[i]? with | some (some d) => R.ok d S | _ => .bad) := rfl
@[simp] theorem xc_ap : xc d v S = .ok d S := rfl
@[simp] theorem b1_ap {f : O1} : b1 ma f v S = bd (ma v S) (fun x S1 => lift (f x S1)) .mk := rfl
@[simp] theorem b2_ap : b2 ma mb f v S = bd (ma v S) (fun x S1 => bd (mb v S1) (fun y S2 => lift (f x y S2)) .mk) .mk := rfl
@[simp] theorem ch2_ap : ch2 ma mb mc f f' v S = bd (ma v S) (fun x S1 => bd (mb v S1) (fun y S2 => bd (lift (f x y S2)) (fun z S3 => match z with
  | .bl true => bd (mc v S3) (fun w S4 => lift (f' y w S4)) .mk
  | .bl false => .ok (.bl false) S3
  | _ => .bad) .mk) .mk) .mk := rfl
@[simp] theorem notM_ap : notM ma v S = bd (ma v S) (fun x S1 => match x with
  | .bl b => .ok (.bl (!b)) S1
  | _ => .bad) .mk := rfl
@[simp] theorem andM_ap : andM ma mb v S = bd (ma v S) (fun x S1 => match x with
  | .bl true => mb v S1
  | .bl false => .ok (.bl false) S1
  | _ => .bad) .mk := rfl
@[simp] theorem orM_ap : orM ma mb v S = bd (ma v S) (fun x S1 => match x with
  | .bl true => .ok (.bl true) S1
  | .bl false => mb v S1
  | _ => .bad) .mk := rfl
@[simp] theorem ifM_ap : ifM mc ma mb v S = bd (mc v S) (fun x S1 => match x with
  | .bl true => ma v S1
  | .bl false => mb v S1
  | _ => .bad) .mk := rfl
@[simp] theorem aNil_ap : aNil v S = .ok [] S := rfl
@[simp] theorem aCons_ap {r : CA} : aCons m r v S = bd (m v S) (fun x S1 => bd (r v S1) (fun xs S2 => .ok (x :: xs) S2) .mk) .mk := rfl
@[simp] theorem cb_ap {f : OL} : cb ms f v S = bd (ms v S) (fun xs S1 => lift (f xs S1)) .mk := rfl
@[simp] theorem tupM_ap : tupM ms v S = bd (ms v S) (fun xs S1 => if xs.length ≤ lim then .ok (.tup xs) S1 else .bad) .mk := rfl
@[simp] theorem lstM_ap : lstM ms v S = bd (ms v S) (fun xs S1 => if xs.length ≤ lim then .ok (.lst xs) S1 else .bad) .mk := rfl
@[simp] theorem lstMC_ap : lstMC ms v S = bd (ms v S) (fun xs S1 => if xs.length ≤ lim then .ok (.cell S1.nx) (S1.new (.lst xs)) else .bad) .mk := rfl
@[simp] theorem dicM_ap : dicM v S = .ok (.dic []) S := rfl
@[simp] theorem dicMC_ap : dicMC v S = .ok (.cell S.nx) (S.new (.dic [])) := rfl
@[simp] theorem seqM_ap {f r : SC} : seqM f r v S = (f v S).seq r := rfl
@[simp] theorem nxM_ap : nxM v S = .nx v S := rfl
@[simp] theorem bkM_ap : bkM v S = .bk v S := rfl
@[simp] theorem ctM_ap : ctM v S = .ct v S := rfl
@[simp] theorem exprM_ap : exprM m v S = bs (m v S) v (fun _ S1 => .nx v S1) .mk := rfl
@[simp] theorem retM_ap : retM m v S = bs (m v S) v (fun d S1 => .rt d S1) .mk := rfl
@[simp] theorem retN_ap : retN v S = .rt .non S := rfl
@[simp] theorem ifS_ap {p q : SC} : ifS mc p q v S = bs (mc v S) v (fun x S1 => match x with
  | .bl true => p v S1
  | .bl false => q v S1
  | _ => .bad) .mk := rfl
@[simp] theorem asgS_ap {t : GT} : asgS m t v S = bs (m v S) v (fun d S1 => match t d v S1 with
  | some (v', S') => .nx v' S'
  | none => .bad) .mk := rfl
@[simp] theorem asgN_ap : asgN i d v S = some (v.set i (some d), S) := rfl
@[simp] theorem asgNil_ap {ds : List D} : asgNil ds v S = (match ds with | [] => some (v, S) | _ => none) := rfl
@[simp] theorem asgCons_ap {t : GT} {r : GTs} {ds : List D} : asgCons t r (d :: ds) v S = (match t d v S with | some (v', S') => r ds v' S' | none => none) := rfl
@[simp] theorem asgT_ap {n : Nat} {r : GTs} {ds : List D} : asgT n r (.tup ds) v S = if ds.length = n then r ds v S else none := rfl
@[simp] theorem endM_nx : endM (.nx v S) = .ok .non S := rfl
@[simp] theorem endM_rt : endM (.rt d S) = .ok d S := rfl
@[simp] theorem endM_ex {e : Exn} : endM (.ex e v S) = .ex e S := rfl
@[simp] theorem endM_bad : endM .bad = .bad := rfl
@[simp] theorem bodyM_ap {np n : Nat} {b : SC} {ds : List D} : bodyM np n b ds S = if ds.length = np then endM (b (ds.map some ++ List.replicate (n - ds.length) none) S) else .bad := rfl
@[simp] theorem callM_ap {m : Fn} {dds : List D} : callM ms m dds v S = bd (ms v S) (fun xs S1 => m (xs ++ dds) S1) .mk := rfl
@[simp] theorem methM_ap {cl : Nat} {mn : Str} {m : Fn} {dds : List D} : methM cl mn mo ms m dds v S = bd (mo v S) (fun o S1 => match insOf S1 o with
  | some (c', fs) => if c' = cl ∧ getA fs mn = none then bd (ms v S1) (fun xs S2 => m (o :: (xs ++ dds)) S2) .mk else .bad
  | none => .bad) .mk := rfl
@[simp] theorem makeM_ap {cl : Nat} {m : Fn} {dds : List D} : makeM cl ms m dds v S = bd (ms v S) (fun xs S1 => bd (m (.cell S1.nx :: (xs ++ dds)) (S1.new (.ins cl []))) (fun r S2 => match r with
  | .non => .ok (.cell S1.nx) S2
  | _ => .bad) .mk) .mk := rfl
@[simp] theorem forM_ap {src : CS} {t : GT} {b : SC} : forM src t b v S = bs (src v S) v (fun p S1 => unl p.2 (forL t b p.1 v S1)) .mk := rfl
@[simp] theorem anyS_ap : anyS m v S = bd (m v S) (anyK) .mk := rfl
@[simp] theorem unl_n {r : SR} : unl none r = r := rfl
@[simp] theorem rng1_ap : rng1S ms v S = bd (ms v S) (fun xs S1 => match xs with
  | [.int j] => if fit62 j then .ok (intsD 0 1 j.toNat, none) S1 else .bad
  | _ => .bad) .mk := rfl
@[simp] theorem slM_ap {l h : Ev → S3 → R (Option Int)} : slM m l h v S = bd (m v S) (fun x S1 => bd (l v S1) (fun lo S2 => bd (h v S2) (fun hi S3 => lift (slB x lo hi S3)) .mk) .mk) .mk := rfl
@[simp] theorem oNo_ap : oNo v S = .ok none S := rfl
@[simp] theorem oSo_ap : oSo m v S = bd (m v S) (fun x S1 => match x with
  | .int i => .ok (some i) S1
  | _ => .bad) .mk := rfl
/-! ### arithmetic -/
@[simp] theorem add_ii {p q : Int} : addF (.int p) (.int q) S = some (.int (p + q), S) := rfl
@[simp] theorem sub_ii {p q : Int} : subF (.int p) (.int q) S = some (.int (p - q), S) := rfl
@[simp] theorem mul_ii {p q : Int} : mulF (.int p) (.int q) S = if small64 p || small64 q then some (.int (p * q), S) else none := rfl
@[simp] theorem fdiv_ii {p q : Int} : fdivF (.int p) (.int q) S = if 0 < q ∧ q < 1073741824 then some (.int (p / q), S) else none := rfl
@[simp] theorem mod_ii {p q : Int} : modF (.int p) (.int q) S = if 0 < q then some (.int (p % q), S) else none := rfl
@[simp] theorem pow_ii {p q : Int} : powF (.int p) (.int q) S = if 0 ≤ q ∧ q ≤ 1000000 ∧ p.natAbs < 2 ^ 64 then some (.int (p ^ q.toNat), S) else none := rfl
@[simp] theorem cmp_ii {r : Int → Int → Bool} {p q : Int} : cmpF r (.int p) (.int q) S = some (.bl (r p q), S) := rfl
@[simp] theorem iadd_ii {p q : Int} : iaddF (.int p) (.int q) S = some (.int (p + q), S) := rfl
@[simp] theorem isub_ii {p q : Int} : isubF (.int p) (.int q) S = some (.int (p - q), S) := rfl
end
end M3
/-! M4B: stores, tables, comprehensions, loops: what the machine computes. -/
namespace M3
open PySem L2
section
variable {S S' : S3} {n m : Nat} {o : Ob}
@[simp] theorem set_cs : (S.set n o).cs m = if m = n then some o else S.cs m := condN _ _ _ _
@[simp] theorem set_nx : (S.set n o).nx = S.nx := rfl
@[simp] theorem set_lk : (S.set n o).lk = S.lk := rfl
@[simp] theorem new_cs : (S.new o).cs m = if m = S.nx then some o else S.cs m := condN _ _ _ _
@[simp] theorem new_nx : (S.new o).nx = S.nx + 1 := rfl
@[simp] theorem new_lk : (S.new o).lk = S.lk := rfl
@[simp] theorem kill_cs : (S.kill n).cs m = if m = n then none else S.cs m := condN _ _ _ _
@[simp] theorem kill_nx : (S.kill n).nx = S.nx := rfl
@[simp] theorem kill_lk : (S.kill n).lk = S.lk := rfl
@[simp] theorem lock_cs : (S.lock n).cs = S.cs := rfl
@[simp] theorem lock_nx : (S.lock n).nx = S.nx := rfl
@[simp] theorem set_set {o' : Ob} : (S.set n o).set n o' = S.set n o' := by
  unfold S3.set
  congr 1
  funext k
  show cond (Nat.beq k n) (some o') (cond (Nat.beq k n) (some o) (S.cs k)) = cond (Nat.beq k n) (some o') (S.cs k)
  cases Nat.beq k n <;> rfl
@[simp] theorem new_set {o' : Ob} : (S.new o).set S.nx o' = S.new o' := by
  unfold S3.set S3.new
  congr 1
  funext k
  show cond (Nat.beq k S.nx) (some o') (cond (Nat.beq k S.nx) (some o) (S.cs k)) = cond (Nat.beq k S.nx) (some o') (S.cs k)
  cases Nat.beq k S.nx <;> rfl
@[simp] theorem new_new_set {o' p : Ob} : ((S.new o).new p).set S.nx o' = (S.new o').new p := by
  unfold S3.set S3.new
  congr 1
  funext k
  show cond (Nat.beq k S.nx) (some o') (cond (Nat.beq k (Nat.succ S.nx)) (some p) (cond (Nat.beq k S.nx) (some o) (S.cs k))) = cond (Nat.beq k (Nat.succ S.nx)) (some p) (cond (Nat.beq k S.nx) (some o') (S.cs k))
  cases h1 : Nat.beq k S.nx with
  | false => cases Nat.beq k (Nat.succ S.nx) <;> rfl
  | true =>
    have e : k = S.nx := Nat.beq_eq.mp h1
    have h2 : Nat.beq k (Nat.succ S.nx) = false := Bool.eq_false_iff.mpr fun z => by
      have := Nat.beq_eq.mp z
      omega
    rw [h2]
    rfl
theorem lock_unlock (h : n ∉ S.lk) : (S.lock n).unlock n = S := by
  unfold S3.lock S3.unlock
  have : ((n :: S.lk).filter fun m => decide (m ≠ n)) = S.lk := by
    rw [List.filter_cons]
    simp
    intro a ha
    exact fun e => h (e ▸ ha)
  cases S
  simp at this ⊢
  intro a ha e
  exact h (e ▸ ha)
/-! what stands behind a datum -/
variable {ks : List (Key × D)} {xs : List D} {fs : List (Str × D)} {c : Nat}
@[simp] theorem dicOf_dic : dicOf S (.dic ks) = some ks := rfl
@[simp] theorem dicOf_lst : dicOf S (.lst xs) = none := rfl
@[simp] theorem dicOf_tup : dicOf S (.tup xs) = none := rfl
@[simp] theorem dicOf_scr : dicOf S (.scr xs) = none := rfl
@[simp] theorem dicOf_str {z : Str} : dicOf S (.str z) = none := rfl
@[simp] theorem dicOf_int {i : Int} : dicOf S (.int i) = none := rfl
@[simp] theorem dicOf_cell : dicOf S (.cell n) = (match S.cs n with | some (.dic ks) => some ks | _ => none) := rfl
@[simp] theorem lstOf_lst : lstOf S (.lst xs) = some xs := rfl
@[simp] theorem lstOf_dic : lstOf S (.dic ks) = none := rfl
@[simp] theorem lstOf_tup : lstOf S (.tup xs) = none := rfl
@[simp] theorem lstOf_cell : lstOf S (.cell n) = (match S.cs n with | some (.lst ks) => some ks | _ => none) := rfl
@[simp] theorem insOf_cell : insOf S (.cell n) = (match S.cs n with | some (.ins c fs) => some (c, fs) | _ => none) := rfl
@[simp] theorem cellOf_cell : cellOf (.cell n) = some n := rfl
@[simp] theorem seqOf_lst : seqOf S (.lst xs) = some xs := rfl
@[simp] theorem seqOf_tup : seqOf S (.tup xs) = some xs := rfl
@[simp] theorem seqOf_scr : seqOf S (.scr xs) = some xs := rfl
@[simp] theorem seqOf_cell : seqOf S (.cell n) = lstOf S (.cell n) := rfl
@[simp] theorem keyOf_int {i : Int} : keyOf (.int i) = some (.inl i) := rfl
@[simp] theorem keyOf_str {z : Str} : keyOf (.str z) = some (.inr z) := rfl
@[simp] theorem keyD_int {i : Int} : keyD (.inl i) = .int i := rfl
@[simp] theorem keyD_str {z : Str} : keyD (.inr z) = .str z := rfl
@[simp] theorem flatD_non : flatD .non = some .non := rfl
@[simp] theorem flatD_bl {b : Bool} : flatD (.bl b) = some (.bl b) := rfl
@[simp] theorem flatD_int {i : Int} : flatD (.int i) = some (.int i) := rfl
@[simp] theorem flatD_str {z : Str} : flatD (.str z) = some (.str z) := rfl
@[simp] theorem fldF_cell {cs : List Nat} {f : Str} : fldF cs f (.cell n) S = (match S.cs n with | some (.ins c fs) => (if cs.contains c then (getA fs f).map fun x => (x, S) else none) | _ => none) := by
  unfold fldF
  rw [insOf_cell]
  cases S.cs n with
  | none => rfl
  | some o => cases o <;> rfl
@[simp] theorem setF_cell {cs : List Nat} {f : Str} {y : D} : setF cs f (.cell n) y S = (match S.cs n with
  | some (.ins c fs) => if cs.contains c && decide (fs.length < 1000) then some (S.set n (.ins c (putA fs f y))) else none
  | _ => none) := rfl
@[simp] theorem fldS_ap {cs : List Nat} {f : Str} {mo mv : CE} {v : Ev} : fldS cs f mo mv v S = bs (mv v S) v (fun y S1 => bs (mo v S1) v (fun o S2 => match setF cs f o y S2 with
  | some S3 => .nx v S3
  | none => .bad) .mk) .mk := rfl
@[simp] theorem fldAug_ap {cs : List Nat} {f : Str} {op : O2} {mo mv : CE} {v : Ev} : fldAug cs f op mo mv v S = bs (mo v S) v (fun o S1 => match insOf S1 o with
  | some (c, fs) => if cs.contains c then (match getA fs f with
    | some x => bs (mv v S1) v (fun y S2 => match op x y S2 with
      | some (z, S3) => (match setF [c] f o z S3 with
        | some S4 => .nx v S4
        | none => .bad)
      | none => .bad) .mk
    | none => .bad)
    else .bad
  | none => .bad) .mk := rfl
@[simp] theorem augM_ap {i : Nat} {op : O2} {me : CE} {v : Ev} : augM i op me v S = (match v[i]? with
  | some (some x) => bs (me v S) v (fun y S1 => match op x y S1 with
    | some (z, S2) => .nx (v.set i (some z)) S2
    | none => .bad) .mk
  | _ => .bad) := rfl
@[simp] theorem parM_ap {i j : Nat} {ms : CA} {v : Ev} : parM i j ms v S = bs (ms v S) v (fun ds S1 => match ds with
  | [x, y] => .nx ((v.set i (some x)).set j (some y)) S1
  | _ => .bad) .mk := rfl
@[simp] theorem raiseM_ap {c : Nat} {v : Ev} : raiseM c v S = .ex ⟨c, []⟩ v S := rfl
@[simp] theorem nvS_ap {v : Ev} : nvS v S = .bad := rfl
@[simp] theorem tryAs_ap {i : Nat} {yes no : List Nat} {b : SC} {su : Nat → SC} {v : Ev} : tryAs i yes no b su v S = (match b v S with
  | .ex e v1 S1 => if yes.contains e.c then (if i < v1.length ∧ e.fs = [] then (match su e.c (v1.set i none) S1 with
      | .nx v2 S2 => .nx (v2.set i none) S2
      | .bk v2 S2 => .bk (v2.set i none) S2
      | .ct v2 S2 => .ct (v2.set i none) S2
      | .rt d S2 => .rt d S2
      | _ => .bad) else .bad)
    else if no.contains e.c then .ex e v1 S1 else .bad
  | r => r) := rfl
/-! dicts, lists by place -/
theorem idx_dic {x i : D} (h : dicOf S x = some ks) : idxO x i S = ((keyOf i).bind fun k => getA ks k).map fun d => (d, S) := by
  unfold idxO idxB
  rw [h]
@[simp] theorem idx_dicT {i : D} : idxO (.dic ks) i S = ((keyOf i).bind fun k => getA ks k).map fun d => (d, S) := rfl
@[simp] theorem idx_tup {j : Int} : idxO (.tup xs) (.int j) S = (atI xs j).map fun d => (d, S) := rfl
@[simp] theorem idx_lst {j : Int} : idxO (.lst xs) (.int j) S = (atI xs j).map fun d => (d, S) := rfl
@[simp] theorem idx_scr {j : Int} : idxO (.scr xs) (.int j) S = (atI xs j).map fun d => (d, S) := rfl
theorem idx_cellD {i : D} (h : S.cs n = some (.dic ks)) : idxO (.cell n) i S = ((keyOf i).bind fun k => getA ks k).map fun d => (d, S) := idx_dic (by simp [h])
theorem idx_cellL {j : Int} (h : S.cs n = some (.lst xs)) : idxO (.cell n) (.int j) S = (atI xs j).map fun d => (d, S) := by
  unfold idxO idxB
  simp [h]
theorem in_dic {x y : D} (h : dicOf S y = some ks) : inO x y S = (keyOf x).map fun k => (.bl (getA ks k).isSome, S) := by
  unfold inO inB
  rw [h]
  cases keyOf x <;> rfl
theorem notIn_dic {x y : D} (h : dicOf S y = some ks) : notInO x y S = (keyOf x).map fun k => (.bl (!(getA ks k).isSome), S) := by
  unfold notInO inB
  rw [h]
  cases keyOf x <;> rfl
@[simp] theorem in_dicT {x : D} : inO x (.dic ks) S = (keyOf x).map fun k => (.bl (getA ks k).isSome, S) := in_dic rfl
@[simp] theorem notIn_dicT {x : D} : notInO x (.dic ks) S = (keyOf x).map fun k => (.bl (!(getA ks k).isSome), S) := notIn_dic rfl
theorem in_cellD {x : D} (h : S.cs n = some (.dic ks)) : inO x (.cell n) S = (keyOf x).map fun k => (.bl (getA ks k).isSome, S) := in_dic (by simp [h])
theorem notIn_cellD {x : D} (h : S.cs n = some (.dic ks)) : notInO x (.cell n) S = (keyOf x).map fun k => (.bl (!(getA ks k).isSome), S) := notIn_dic (by simp [h])
@[simp] theorem idx_cell {i : D} : idxO (.cell n) i S = (match S.cs n with
    | some (.dic ks) => ((keyOf i).bind fun k => getA ks k).map fun d => (d, S)
    | some (.lst xs) => (match i with
      | .int j => (atI xs j).map fun d => (d, S)
      | _ => none)
    | _ => none) := by
  cases h : S.cs n with
  | none => unfold idxO idxB; simp [h]
  | some o => cases o with
    | dic ks => exact idx_cellD h
    | lst xs => cases i <;> (unfold idxO idxB; simp [h]) <;> rfl
    | ins c fs => unfold idxO idxB; simp [h]
theorem in_cell {x : D} : inO x (.cell n) S = (match S.cs n with
    | some (.dic ks) => (keyOf x).map fun k => (.bl (getA ks k).isSome, S)
    | some (.lst xs) => ((flatD x).bind fun v => memD v xs).map fun b => (.bl b, S)
    | _ => none) := by
  cases h : S.cs n with
  | none => unfold inO inB; simp [h] <;> cases flatD x <;> rfl
  | some o => cases o with
    | dic ks => exact in_cellD h
    | lst xs => unfold inO inB; simp [h] <;> cases flatD x <;> rfl
    | ins c fs => unfold inO inB; simp [h] <;> cases flatD x <;> rfl
/-- in a list of texts -/
theorem memD_strs {z : Str} : ∀ zs : List Str, memD (V.str z) (zs.map D.str) = some (decide (z ∈ zs))
  | [] => rfl
  | y :: r => by
    show (match flatD (D.str y), memD (V.str z) (r.map D.str) with
      | some y, some b => if scal y (V.str z) = true then some (decide (y = V.str z) || b) else none
      | _, _ => none) = _
    rw [memD_strs r]
    have e : decide (V.str y = V.str z) = decide (y = z) := by
      by_cases h : y = z
      · rw [h]; simp
      · have : ¬ V.str y = V.str z := fun e => h (by cases e; rfl)
        simp [h, this]
    simp [scal, e, List.mem_cons, eq_comm]
theorem in_strs {z : Str} {zs : List Str} : inO (.str z) (.lst (zs.map .str)) S = some (.bl (decide (z ∈ zs)), S) := by
  unfold inO inB
  simp [memD_strs]
theorem notIn_strs {z : Str} {zs : List Str} : notInO (.str z) (.lst (zs.map .str)) S = some (.bl (!decide (z ∈ zs)), S) := by
  unfold notInO inB
  simp [memD_strs]
theorem atI_k {α : Type} (xs : List α) (k : Nat) : atI xs (k : Int) = xs[k]? := by
  unfold atI ixN
  by_cases h : k < xs.length
  · simp [h]
  · have : xs[k]? = none := List.getElem?_eq_none (by omega)
    simp [h, this]
@[simp] theorem at0 {α : Type} {x : α} {r : List α} : atI (x :: r) 0 = some x := (atI_k _ 0).trans rfl
@[simp] theorem at1 {α : Type} {x y : α} {r : List α} : atI (x :: y :: r) 1 = some y := (atI_k _ 1).trans rfl
@[simp] theorem at2 {α : Type} {x y z : α} {r : List α} : atI (x :: y :: z :: r) 2 = some z := (atI_k _ 2).trans rfl
@[simp] theorem at3 {α : Type} {x y z u : α} {r : List α} : atI (x :: y :: z :: u :: r) 3 = some u := (atI_k _ 3).trans rfl
@[simp] theorem lim_1 : (1 ≤ lim) = True := by decide
@[simp] theorem lim_2 : (2 ≤ lim) = True := by decide
@[simp] theorem lim_3 : (3 ≤ lim) = True := by decide
@[simp] theorem lim_4 : (4 ≤ lim) = True := by decide
@[simp] theorem lim_5 : (5 ≤ lim) = True := by decide
@[simp] theorem lim_6 : (6 ≤ lim) = True := by decide
@[simp] theorem lim_7 : (7 ≤ lim) = True := by decide
@[simp] theorem lim_8 : (8 ≤ lim) = True := by decide
@[simp] theorem lim_9 : (9 ≤ lim) = True := by decide
@[simp] theorem lim_10 : (10 ≤ lim) = True := by decide
@[simp] theorem lim_11 : (11 ≤ lim) = True := by decide
@[simp] theorem lim_12 : (12 ≤ lim) = True := by decide
@[simp] theorem lim_13 : (13 ≤ lim) = True := by decide
@[simp] theorem lim_14 : (14 ≤ lim) = True := by decide
@[simp] theorem lim_15 : (15 ≤ lim) = True := by decide
@[simp] theorem lim_16 : (16 ≤ lim) = True := by decide
@[simp] theorem lim_17 : (17 ≤ lim) = True := by decide
@[simp] theorem lim_18 : (18 ≤ lim) = True := by decide
@[simp] theorem lim_19 : (19 ≤ lim) = True := by decide
@[simp] theorem lim_20 : (20 ≤ lim) = True := by decide
@[simp] theorem liml_0 : (0 < lim) = True := by decide
@[simp] theorem liml_1 : (1 < lim) = True := by decide
@[simp] theorem liml_2 : (2 < lim) = True := by decide
@[simp] theorem liml_3 : (3 < lim) = True := by decide
@[simp] theorem liml_4 : (4 < lim) = True := by decide
@[simp] theorem liml_5 : (5 < lim) = True := by decide
@[simp] theorem liml_6 : (6 < lim) = True := by decide
@[simp] theorem liml_7 : (7 < lim) = True := by decide
@[simp] theorem liml_8 : (8 < lim) = True := by decide
@[simp] theorem liml_9 : (9 < lim) = True := by decide
@[simp] theorem liml_10 : (10 < lim) = True := by decide
@[simp] theorem liml_11 : (11 < lim) = True := by decide
@[simp] theorem liml_12 : (12 < lim) = True := by decide
@[simp] theorem liml_13 : (13 < lim) = True := by decide
@[simp] theorem liml_14 : (14 < lim) = True := by decide
@[simp] theorem liml_15 : (15 < lim) = True := by decide
@[simp] theorem liml_16 : (16 < lim) = True := by decide
@[simp] theorem liml_17 : (17 < lim) = True := by decide
@[simp] theorem liml_18 : (18 < lim) = True := by decide
@[simp] theorem liml_19 : (19 < lim) = True := by decide
@[simp] theorem liml_20 : (20 < lim) = True := by decide
/-! equality -/
@[simp] theorem eq_ss {a b : Str} : eqO (.str a) (.str b) S = some (.bl (decide (a = b)), S) := by
  unfold eqO
  have e : decide (V.str a = V.str b) = decide (a = b) := by
    by_cases h : a = b
    · rw [h]; simp
    · have : ¬ V.str a = V.str b := fun e => h (by cases e; rfl)
      simp [h, this]
  simp [eqF, symEq, scal, e]
@[simp] theorem ne_ss {a b : Str} : neO (.str a) (.str b) S = some (.bl (!decide (a = b)), S) := by
  unfold neO
  have e : decide (V.str a = V.str b) = decide (a = b) := by
    by_cases h : a = b
    · rw [h]; simp
    · have : ¬ V.str a = V.str b := fun e => h (by cases e; rfl)
      simp [h, this]
  simp [eqF, symEq, scal, e]
@[simp] theorem eq_ii {a b : Int} : eqO (.int a) (.int b) S = some (.bl (decide (a = b)), S) := by
  unfold eqO
  have e : decide (V.int a = V.int b) = decide (a = b) := by
    by_cases h : a = b
    · rw [h]; simp
    · have : ¬ V.int a = V.int b := fun e => h (by cases e; rfl)
      simp [h, this]
  simp [eqF, symEq, scal, e]
@[simp] theorem ne_ii {a b : Int} : neO (.int a) (.int b) S = some (.bl (!decide (a = b)), S) := by
  unfold neO
  have e : decide (V.int a = V.int b) = decide (a = b) := by
    by_cases h : a = b
    · rw [h]; simp
    · have : ¬ V.int a = V.int b := fun e => h (by cases e; rfl)
      simp [h, this]
  simp [eqF, symEq, scal, e]
@[simp] theorem eq_ns {b : Str} : eqO .non (.str b) S = some (.bl false, S) := by unfold eqO; simp [eqF, symEq, scal]
@[simp] theorem eq_sn {b : Str} : eqO (.str b) .non S = some (.bl false, S) := by unfold eqO; simp [eqF, symEq, scal]
@[simp] theorem isN_n : isF2 .non .non S = some (.bl true, S) := rfl
@[simp] theorem isN_s {b : Str} : isF2 (.str b) .non S = some (.bl false, S) := rfl
@[simp] theorem isN_i {b : Int} : isF2 (.int b) .non S = some (.bl false, S) := rfl
@[simp] theorem isNotN_n : isNotF2 .non .non S = some (.bl false, S) := rfl
@[simp] theorem isNotN_s {b : Str} : isNotF2 (.str b) .non S = some (.bl true, S) := rfl
@[simp] theorem isNotN_i {b : Int} : isNotF2 (.int b) .non S = some (.bl true, S) := rfl
@[simp] theorem isNotN_d : isNotF2 (.dic ks) .non S = some (.bl true, S) := rfl
theorem eqF_dd {n : Nat} {a b : List (Key × D)} : eqF S (n + 1) (.dic a) (.dic b) = (eqk (eqF S n) a b).map fun r => a.length == b.length && r := rfl
theorem eqF_ll {n : Nat} {a b : List D} : eqF S (n + 1) (.lst a) (.lst b) = if a.length = b.length then eqs (eqF S n) a b else some false := rfl
theorem eqF_tt {n : Nat} {a b : List D} : eqF S (n + 1) (.tup a) (.tup b) = (eqs (eqF S n) a b).map fun r => r && a.length == b.length := rfl
/-- a list against the empty one -/
theorem eq_nil : eqO (.lst xs) (.lst []) S = some (.bl xs.isEmpty, S) := by
  unfold eqO
  rw [eqF_ll]
  cases xs <;> rfl
theorem ne_nil : neO (.lst xs) (.lst []) S = some (.bl (!xs.isEmpty), S) := by
  unfold neO
  rw [eqF_ll]
  cases xs <;> rfl
theorem eqk_nil {f : D → D → Option Bool} : ∀ ks : List (Key × D), eqk f ks [] = some ks.isEmpty
  | [] => rfl
  | (k, v) :: r => by
    show (eqk f r []).map (fun _ => false) = _
    rw [eqk_nil r]
    rfl
theorem eq_dnil : eqO (.dic ks) (.dic []) S = some (.bl ks.isEmpty, S) := by
  unfold eqO
  rw [eqF_dd, eqk_nil]
  cases ks <;> rfl
theorem ne_dnil : neO (.dic ks) (.dic []) S = some (.bl (!ks.isEmpty), S) := by
  unfold neO
  rw [eqF_dd, eqk_nil]
  cases ks <;> rfl
end
/-! ### comprehensions without a trace -/
section
variable {t : GT} {c el k : CE} {v : Ev}
/-- what a comprehension's turn makes of an item, the store as it was -/
def TurnL (t : GT) (c el : CE) (v : Ev) (S : S3) (d : D) (r : Option D) : Prop := ∃ v1, t d v S = some (v1, S) ∧ match r with
  | none => c v1 S = .ok (.bl false) S
  | some y => c v1 S = .ok (.bl true) S ∧ el v1 S = .ok y S
theorem lcL_pure {S : S3} {f : D → Option D} : ∀ ds : List D, (∀ d ∈ ds, TurnL t c el v S d (f d)) → lcL t c el v ds S = .ok (ds.filterMap f) S
  | [], _ => rfl
  | d :: ds, h => by
    obtain ⟨v1, h1, h2⟩ := h d List.mem_cons_self
    have ih := lcL_pure ds fun x hx => h x (List.mem_cons_of_mem _ hx)
    unfold lcL
    rw [h1, List.filterMap_cons]
    cases e : f d with
    | none =>
      rw [e] at h2
      simp only [h2, noEx, R.bind]
      exact ih
    | some y =>
      rw [e] at h2
      simp only [h2.1, h2.2, noEx, R.bind, ih]
def TurnD (t : GT) (c k el : CE) (v : Ev) (S : S3) (d : D) (r : Option (Key × D)) : Prop := ∃ v1, t d v S = some (v1, S) ∧ match r with
  | none => c v1 S = .ok (.bl false) S
  | some y => c v1 S = .ok (.bl true) S ∧ k v1 S = .ok (keyD y.1) S ∧ el v1 S = .ok y.2 S
def putO (acc : List (Key × D)) (r : Option (Key × D)) : List (Key × D) := match r with
  | none => acc
  | some y => putA acc y.1 y.2
theorem keyOf_keyD (x : Key) : keyOf (keyD x) = some x := by cases x <;> rfl
theorem dcL_pure {S : S3} {f : D → Option (Key × D)} : ∀ (ds : List D) (acc : List (Key × D)), (∀ d ∈ ds, TurnD t c k el v S d (f d)) → dcL t c k el v acc ds S = .ok ((ds.map f).foldl putO acc) S
  | [], _, _ => rfl
  | d :: ds, acc, h => by
    obtain ⟨v1, h1, h2⟩ := h d List.mem_cons_self
    have ih := fun a => dcL_pure (f := f) ds a fun x hx => h x (List.mem_cons_of_mem _ hx)
    unfold dcL
    rw [h1, List.map_cons, List.foldl_cons]
    cases e : f d with
    | none =>
      rw [e] at h2
      simp only [h2, noEx, R.bind]
      exact ih _
    | some y =>
      rw [e] at h2
      simp only [h2.1, h2.2.1, h2.2.2, noEx, R.bind, keyOf_keyD]
      exact ih _
/-- what is walked: the items, and at which store -/
inductive Walks (src : CS) (v : Ev) (S : S3) (ds : List D) : Prop where
  | free : src v S = .ok (ds, none) S → Walks src v S ds
  | held (n : Nat) : n ∉ S.lk → src v S = .ok (ds, some n) (S.lock n) → Walks src v S ds
theorem lkS_walks {src : CS} {S : S3} {n : Nat} {ds : List D} (h : src v S = lkS (.cell n) S ds) : Walks src v S ds := by
  unfold lkS at h
  simp at h
  split at h
  · exact .free h
  · rename_i hn
    exact .held n hn h
variable {vs : List Nat} {src : CS} {S : S3} {ds : List D} {fin : List D → S3 → R D} {finD : List (Key × D) → S3 → R D}
theorem lc_pure {f : D → Option D} (hs : Walks src v S ds) (hl : ds.length ≤ lim) (h : ∀ S' : S3, S'.cs = S.cs → S'.nx = S.nx → (S.lk ⊆ S'.lk) → ∀ d ∈ ds, TurnL t c el (wipeD v vs) S' d (f d)) :
    lcM' vs src t c el fin v S = fin (ds.filterMap f) S := by
  unfold lcM'
  cases hs with
  | free h1 =>
    rw [h1]
    simp only [R.bind, hl, if_true]
    rw [lcL_pure ds (h S rfl rfl fun _ h => h)]
    rfl
  | held n hn h1 =>
    rw [h1]
    simp only [R.bind, hl, if_true]
    rw [lcL_pure ds (h (S.lock n) rfl rfl fun _ h => List.mem_cons_of_mem _ h)]
    simp only [noEx, unlR]
    rw [if_pos (show n ∈ (S.lock n).lk from List.mem_cons_self), lock_unlock hn]
theorem dc_pure {f : D → Option (Key × D)} (hs : Walks src v S ds) (hl : ds.length ≤ lim) (h : ∀ S' : S3, S'.cs = S.cs → S'.nx = S.nx → (S.lk ⊆ S'.lk) → ∀ d ∈ ds, TurnD t c k el (wipeD v vs) S' d (f d)) :
    dcM vs src t c k el finD v S = finD ((ds.map f).foldl putO []) S := by
  unfold dcM
  cases hs with
  | free h1 =>
    rw [h1]
    simp only [R.bind, hl, if_true]
    rw [dcL_pure ds [] (h S rfl rfl fun _ h => h)]
    rfl
  | held n hn h1 =>
    rw [h1]
    simp only [R.bind, hl, if_true]
    rw [dcL_pure ds [] (h (S.lock n) rfl rfl fun _ h => List.mem_cons_of_mem _ h)]
    simp only [noEx, unlR]
    rw [if_pos (show n ∈ (S.lock n).lk from List.mem_cons_self), lock_unlock hn]
@[simp] theorem finT_ap {xs : List D} : finT xs S = .ok (.lst xs) S := rfl
@[simp] theorem finC_ap {xs : List D} : finC xs S = .ok (.cell S.nx) (S.new (.lst xs)) := rfl
@[simp] theorem finDT_ap {xs : List (Key × D)} : finDT xs S = .ok (.dic xs) S := rfl
@[simp] theorem finDC_ap {xs : List (Key × D)} : finDC xs S = .ok (.cell S.nx) (S.new (.dic xs)) := rfl
theorem walks_lst {m : CE} {xs : List D} (h : m v S = .ok (.lst xs) S) : Walks (anyS m) v S xs := .free (by simp [anyS, h, R.bind, anyK])
theorem walks_tup {m : CE} {xs : List D} (h : m v S = .ok (.tup xs) S) : Walks (anyS m) v S xs := .free (by simp [anyS, h, R.bind, anyK])
theorem walks_dicT {m : CE} {ks : List (Key × D)} (h : m v S = .ok (.dic ks) S) : Walks (anyS m) v S (ks.map fun kd => keyD kd.1) := .free (by simp [anyS, h, R.bind, anyK, lkS, cellOf])
theorem walks_dicC {m : CE} {n : Nat} {ks : List (Key × D)} (h : m v S = .ok (.cell n) S) (hc : S.cs n = some (.dic ks)) : Walks (anyS m) v S (ks.map fun kd => keyD kd.1) := lkS_walks (n := n) (by simp [anyS, h, R.bind, anyK, hc])
theorem walks_lstC {m : CE} {n : Nat} {ks : List D} (h : m v S = .ok (.cell n) S) (hc : S.cs n = some (.lst ks)) : Walks (anyS m) v S ks := lkS_walks (n := n) (by simp [anyS, h, R.bind, anyK, hc])
theorem walks_valC {m : CE} {n : Nat} {ks : List (Key × D)} (h : m v S = .ok (.cell n) S) (hc : S.cs n = some (.dic ks)) : Walks (valS m) v S (ks.map fun kd => kd.2) := lkS_walks (n := n) (by simp [valS, h, R.bind, hc])
theorem walks_valT {m : CE} {ks : List (Key × D)} (h : m v S = .ok (.dic ks) S) : Walks (valS m) v S (ks.map fun kd => kd.2) := .free (by simp [valS, h, R.bind, lkS, cellOf])
end
/-! ### all, any -/
theorem boolsOf_map : ∀ bs : List Bool, boolsOf (bs.map .bl) = some bs
  | [] => rfl
  | b :: r => by
    show (boolsOf (r.map .bl)).map (b :: ·) = _
    rw [boolsOf_map r]
    rfl
theorem all_bs {S : S3} {bs : List Bool} : allF [.lst (bs.map .bl)] S = some (.bl (bs.all id), S) := by
  unfold allF
  simp [boolsOf_map]
theorem any_bs {S : S3} {bs : List Bool} : anyF [.lst (bs.map .bl)] S = some (.bl (bs.any id), S) := by
  unfold anyF
  simp [boolsOf_map]
end M3
/-! M4C: methods, built-ins applied. -/
namespace M3
open PySem L2
section
variable {S S' : S3} {n m : Nat} {v : Ev} {ks : List (Key × D)} {xs : List D} {ma mb mk mx mo : CE} {ms mks : CA}
@[simp] theorem get1_ap : get1M ma mk v S = bd (ma v S) (fun d S1 => match dicOf S1 d with
  | none => .bad
  | some _ => bd (mk v S1) (fun k S2 => match dicOf S2 d, keyOf k with
    | some ks, some kk => .ok ((getA ks kk).getD .non) S2
    | _, _ => .bad) .mk) .mk := rfl
@[simp] theorem get2_ap : get2M ma mk mx v S = bd (ma v S) (fun d S1 => match dicOf S1 d with
  | none => .bad
  | some _ => bd (mk v S1) (fun k S2 => bd (mx v S2) (fun x S3 => match dicOf S3 d, keyOf k with
    | some ks, some kk => .ok ((getA ks kk).getD x) S3
    | _, _ => .bad) .mk) .mk) .mk := rfl
@[simp] theorem pop1_ap : pop1M ma mk v S = bd (ma v S) (fun d S1 => match dicOf S1 d with
  | none => .bad
  | some _ => bd (mk v S1) (fun k S2 => match cellOf d, keyOf k with
    | some n, some kk => (match S2.cs n with
      | some (.dic ks) => (match getA ks kk with
        | some x => if n ∈ S2.lk then .bad else .ok x (S2.set n (.dic (dropA ks kk)))
        | none => .bad)
      | _ => .bad)
    | _, _ => .bad) .mk) .mk := rfl
@[simp] theorem lmM_ap {f : List D → List D → Option (D × List D)} : lmM f ma ms v S = bd (ma v S) (fun d S1 => match lstOf S1 d with
  | none => .bad
  | some _ => bd (ms v S1) (fun xs S2 => match cellOf d with
    | some n => (match S2.cs n with
      | some (.lst ys) => if n ∈ S2.lk then .bad else (match f ys xs with
        | some (r, zs) => .ok r (S2.set n (.lst zs))
        | none => .bad)
      | _ => .bad)
    | none => .bad) .mk) .mk := rfl
@[simp] theorem appF_ap {ys : List D} {x : D} : appF ys [x] = if ys.length < lim then some (.non, ys ++ [x]) else none := rfl
@[simp] theorem clrD_ap : clrD ma v S = bd (ma v S) (fun d S1 => match cellOf d with
  | some n => (match S1.cs n with
    | some (.dic _) => if n ∈ S1.lk then .bad else .ok .non (S1.set n (.dic []))
    | _ => .bad)
  | none => .bad) .mk := rfl
@[simp] theorem clrL_ap : clrL ma v S = bd (ma v S) (fun d S1 => match cellOf d with
  | some n => (match S1.cs n with
    | some (.lst _) => if n ∈ S1.lk then .bad else .ok .non (S1.set n (.lst []))
    | _ => .bad)
  | none => .bad) .mk := rfl
@[simp] theorem extM_ap : extM ma mb v S = bd (ma v S) (fun d S1 => match lstOf S1 d with
  | none => .bad
  | some _ => bd (mb v S1) (fun y S2 => match cellOf d, lstOf S2 y with
    | some n, some zs => (match S2.cs n with
      | some (.lst ys) => if n ∈ S2.lk then .bad else if ys.length + zs.length ≤ lim then .ok .non (S2.set n (.lst (ys ++ zs))) else .bad
      | _ => .bad)
    | _, _ => .bad) .mk) .mk := rfl
@[simp] theorem frzM_ap : frzM ma v S = bd (ma v S) (fun d S1 => match cellOf d with
  | some n => if n ∈ S1.lk then .bad else (match S1.cs n with
    | some (.lst xs) => .ok (.lst xs) (S1.kill n)
    | some (.dic ks) => .ok (.dic ks) (S1.kill n)
    | some (.ins c fs) => .ok (.ins c fs) (S1.kill n)
    | none => .bad)
  | none => .ok d S1) .mk := rfl
@[simp] theorem methKM_ap {c k l : Nat} {mn : Str} {mf : Fn} : methKM c mn k l mo ms mks mf v S = bd (mo v S) (fun o S1 => match insOf S1 o with
  | some (c', fs) => if c' = c ∧ getA fs mn = none then bd (ms v S1) (fun xs S2 => bd (mks v S2) (fun zs S3 => if xs.length + 1 = k ∧ zs.length = l then mf (o :: (xs ++ zs)) S3 else .bad) .mk) .mk else .bad
  | none => .bad) .mk := rfl
@[simp] theorem pNil_ap : pNil v S = .ok [] S := rfl
@[simp] theorem pCons_ap {r : CP} : pCons mk mx r v S = bd (mk v S) (fun k S1 => bd (mx v S1) (fun x S2 => match keyOf k with
  | some kk => bd (r v S2) (fun ps S3 => .ok ((kk, x) :: ps) S3) .mk
  | none => .bad) .mk) .mk := rfl
@[simp] theorem dspM'_ap {p : CP} {fin : List (Key × D) → S3 → R D} : dspM' p fin v S = bd (p v S) (fun ps S1 => if ps.length ≤ 15 then fin (mergeA [] ps) S1 else .bad) .mk := rfl
@[simp] theorem yesT_ap : yesT v S = .ok (.bl true) S := rfl
@[simp] theorem rng2_ap : rng2S ms v S = bd (ms v S) (fun xs S1 => match xs with
  | [.int i, .int j] => if fit62 i && fit62 j then .ok (intsD i 1 (j - i).toNat, none) S1 else .bad
  | _ => .bad) .mk := rfl
@[simp] theorem lix_ap : lixM ma mb v S = bd (ma v S) (fun d S1 => match lstOf S1 d with
  | none => .bad
  | some _ => bd (mb v S1) (fun y S2 => lift (lixF d y S2)) .mk) .mk := rfl
@[simp] theorem lcn_ap : lcnM ma mb v S = bd (ma v S) (fun d S1 => match lstOf S1 d with
  | none => .bad
  | some _ => bd (mb v S1) (fun y S2 => lift (lcnF d y S2)) .mk) .mk := rfl
@[simp] theorem asgSub_ap {d : D} : asgSub mo mx d v S = (match mo v S with
  | .ok o S1 => (match mx v S1 with
    | .ok i S2 => (putM o i d S2).map fun S3 => (v, S3)
    | _ => none)
  | _ => none) := rfl
@[simp] theorem asgFld_ap {cs : List Nat} {f : Str} {d : D} : asgFld cs f mo d v S = (match mo v S with
  | .ok o S1 => (setF cs f o d S1).map fun S2 => (v, S2)
  | _ => none) := rfl
/-! built-ins -/
@[simp] theorem len_dic : lenF [.dic ks] S = some (.int ks.length, S) := rfl
@[simp] theorem len_lst : lenF [.lst xs] S = some (.int xs.length, S) := rfl
@[simp] theorem len_tup : lenF [.tup xs] S = some (.int xs.length, S) := rfl
@[simp] theorem len_scr : lenF [.scr xs] S = some (.int xs.length, S) := rfl
theorem len_cellD (h : S.cs n = some (.dic ks)) : lenF [.cell n] S = some (.int ks.length, S) := by
  unfold lenF lenB
  simp [h]
theorem len_cellL (h : S.cs n = some (.lst xs)) : lenF [.cell n] S = some (.int xs.length, S) := by
  unfold lenF lenB
  simp [h]
@[simp] theorem list_lst : listF [.lst xs] S = some (.lst xs, S) := rfl
@[simp] theorem list_dic : listF [.dic ks] S = some (.lst (ks.map fun kd => keyD kd.1), S) := rfl
theorem list_cellD (h : S.cs n = some (.dic ks)) : listF [.cell n] S = some (.lst (ks.map fun kd => keyD kd.1), S) := by
  unfold listF itemsOf
  simp [h]
@[simp] theorem dict_dic : dictF [.dic ks] S = some (.dic ks, S) := rfl
@[simp] theorem dictC_dic : dictC [.dic ks] S = some (.cell S.nx, S.new (.dic ks)) := rfl
theorem isi_int_int {i : Int} : isiF "int" (.int i) S = some (.bl true, S) := rfl
theorem isi_bool_int {i : Int} : isiF "bool" (.int i) S = some (.bl false, S) := rfl
theorem isi_str_str {z : Str} : isiF "str" (.str z) S = some (.bl true, S) := rfl
theorem isi_str_non : isiF "str" .non S = some (.bl false, S) := rfl
theorem isi_dict_dic : isiF "dict" (.dic ks) S = some (.bl true, S) := rfl
theorem isi_list_lst : isiF "list" (.lst xs) S = some (.bl true, S) := rfl
theorem isi_tuple_tup : isiF "tuple" (.tup xs) S = some (.bl true, S) := rfl
theorem isi_int_str {z : Str} : isiF "int" (.str z) S = some (.bl false, S) := rfl
theorem isi_int_tup : isiF "int" (.tup xs) S = some (.bl false, S) := rfl
theorem isi_tuple_int {i : Int} : isiF "tuple" (.int i) S = some (.bl false, S) := rfl
end
end M3
/-! The machines of the defs, printed by gen.py. -/
namespace KK
open PySem L2 M3

def N_is_whole : List Str := ["thing"]
def b_is_whole : SC := (retM (andM (b1 (xv 0) (isiF "int")) (notM (b1 (xv 0) (isiF "bool")))))
def m_is_whole : Fn := bodyM 1 1 b_is_whole
def N_is_name : List Str := ["thing", "sign"]
def b_is_name : SC := (retM (andM (b1 (xv 0) (isiF "str")) (andM (ch2 (xc (.int 1)) (cb (aCons (xv 0) aNil) lenF) (xc (.int 8)) leF leF) (cb (aCons (lcM' [1] (anyS (xv 0)) (asgN 1) yesT (b2 (xv 1) (xc (.str "abcdefghijklmnopqrstuvwxyz")) inO) finT) aNil) allF))))
def m_is_name : Fn := bodyM 1 2 b_is_name
def N_are_unlike_names : List Str := ["thing", "one"]
def b_are_unlike_names : SC := (seqM (ifS (orM (notM (b1 (xv 0) (isiF "list"))) (notM (cb (aCons (lcM' [1] (anyS (xv 0)) (asgN 1) yesT (callM (aCons (xv 1) aNil) m_is_name []) finT) aNil) allF))) (retM (xc (.bl false))) nxM)
 (retM (b2 (lenSt [1] (anyS (xv 0)) (asgN 1) (xv 1)) (cb (aCons (xv 0) aNil) lenF) eqO)))
def m_are_unlike_names : Fn := bodyM 1 2 b_are_unlike_names
def N_is_kind : List Str := ["thing", "fields", "fixed", "field"]
def b_is_kind : SC := (seqM (ifS (orM (notM (b1 (xv 0) (isiF "tuple"))) (b2 (cb (aCons (xv 0) aNil) lenF) (xc (.int 2)) neO)) (retM (xc (.bl false))) nxM)
 (seqM (asgS (xv 0) (asgT 2 (asgCons (asgN 1) (asgCons (asgN 2) asgNil))))
 (seqM (ifS (orM (notM (callM (aCons (xv 1) aNil) m_are_unlike_names [])) (notM (callM (aCons (xv 2) aNil) m_are_unlike_names []))) (retM (xc (.bl false))) nxM)
 (retM (andM (ch2 (xc (.int 1)) (cb (aCons (xv 1) aNil) lenF) (xc (.int 5)) leF leF) (andM (b2 (xc (.str "id")) (xv 1) notInO) (cb (aCons (lcM' [3] (anyS (xv 2)) (asgN 3) yesT (b2 (xv 3) (xv 1) inO) finT) aNil) allF)))))))
def m_is_kind : Fn := bodyM 1 4 b_is_kind
def N_Thing_init : List Str := ["self", "number", "kind", "numbers", "key"]
def b_Thing_init : SC := (seqM (fldS [14] "number" (xv 0) (xv 1))
 (seqM (fldS [14] "sort_of" (xv 0) (xv 2))
 (seqM (fldS [14] "numbers" (xv 0) (cb (aCons (xv 3) aNil) dictF))
 (seqM (fldS [14] "key" (xv 0) (xv 4))
 (fldS [14] "times" (xv 0) (xc (.int 1)))))))
def m_Thing_init : Fn := bodyM 5 5 b_Thing_init
def N_Land_init : List Str := ["self", "kinds", "kind"]
def b_Land_init : SC := (seqM (ifS (orM (notM (b1 (xv 1) (isiF "dict"))) (notM (ch2 (xc (.int 1)) (cb (aCons (xv 1) aNil) lenF) (xc (.int 5)) leF leF))) (raiseM 1) nxM)
 (seqM (ifS (notM (cb (aCons (lcM' [2] (anyS (xv 1)) (asgN 2) yesT (andM (callM (aCons (xv 2) aNil) m_is_name []) (callM (aCons (b2 (xv 1) (xv 2) idxO) aNil) m_is_kind [])) finT) aNil) allF)) (raiseM 1) nxM)
 (seqM (fldS [15] "kinds_there" (xv 0) (dcM [2] (anyS (xv 1)) (asgN 2) yesT (xv 2) (tupM (aCons (cb (aCons (b2 (b2 (xv 1) (xv 2) idxO) (xc (.int 0)) idxO) aNil) listF) (aCons (cb (aCons (b2 (b2 (xv 1) (xv 2) idxO) (xc (.int 1)) idxO) aNil) listF) aNil))) finDT))
 (seqM (fldS [15] "things" (xv 0) dicMC)
 (seqM (fldS [15] "made_so_far" (xv 0) (xc (.int 0)))
 (seqM (fldS [15] "deeds_done" (xv 0) (xc (.int 0)))
 (seqM (fldS [15] "failing" (xv 0) dicM)
 (fldS [15] "asked" (xv 0) (xc (.int 0))))))))))
def m_Land_init : Fn := bodyM 2 3 b_Land_init
def N_Land_check_kind : List Str := ["self", "kind"]
def b_Land_check_kind : SC := (ifS (orM (notM (b1 (xv 1) (isiF "str"))) (b2 (xv 1) (b1 (xv 0) (fldF [15] "kinds_there")) notInO)) (raiseM 2) nxM)
def m_Land_check_kind : Fn := bodyM 2 2 b_Land_check_kind
def N_Land_thing_of : List Str := ["self", "thing"]
def b_Land_thing_of : SC := (seqM (ifS (orM (notM (callM (aCons (xv 1) aNil) m_is_whole [])) (b2 (xv 1) (b1 (xv 0) (fldF [15] "things")) notInO)) (raiseM 6) nxM)
 (retM (b2 (b1 (xv 0) (fldF [15] "things")) (xv 1) idxO)))
def m_Land_thing_of : Fn := bodyM 2 2 b_Land_thing_of
def N_Land_next_word : List Str := ["self", "word"]
def b_Land_next_word : SC := (seqM (asgS (get1M (b1 (xv 0) (fldF [15] "failing")) (b1 (xv 0) (fldF [15] "asked"))) (asgN 1))
 (seqM (fldAug [15] "asked" iaddF (xv 0) (xc (.int 1)))
 (seqM (ifS (b2 (xv 1) (xc (.str "no")) eqO) (raiseM 10) nxM)
 (retM (xv 1)))))
def m_Land_next_word : Fn := bodyM 1 2 b_Land_next_word
def N_Land_ended : List Str := ["self", "word"]
def b_Land_ended : SC := (ifS (b2 (xv 1) (xc (.str "half")) eqO) (raiseM 10) nxM)
def m_Land_ended : Fn := bodyM 2 2 b_Land_ended
def N_Land_make : List Str := ["self", "kind", "fields", "key", "every", "word", "there", "field", "thing"]
def b_Land_make : SC := (seqM (exprM (methM 15 "check_kind" (xv 0) (aCons (xv 1) aNil) m_Land_check_kind []))
 (seqM (asgS (b2 (b2 (b1 (xv 0) (fldF [15] "kinds_there")) (xv 1) idxO) (xc (.int 0)) idxO) (asgN 4))
 (seqM (ifS (orM (notM (b1 (xv 2) (isiF "dict"))) (b2 (cb (aCons (xv 2) aNil) lenF) (cb (aCons (xv 4) aNil) lenF) neO)) (raiseM 3) nxM)
 (seqM (ifS (notM (cb (aCons (lcM' [7] (anyS (xv 4)) (asgN 7) yesT (andM (b2 (xv 7) (xv 2) inO) (callM (aCons (b2 (xv 2) (xv 7) idxO) aNil) m_is_whole [])) finT) aNil) allF)) (raiseM 3) nxM)
 (seqM (ifS (andM (b2 (xv 3) (xc .non) isNotF2) (notM (b1 (xv 3) (isiF "str")))) (raiseM 4) nxM)
 (seqM (asgS (methM 15 "next_word" (xv 0) aNil m_Land_next_word []) (asgN 5))
 (seqM (asgS (lcM' [8] (valS (b1 (xv 0) (fldF [15] "things"))) (asgN 8) (andM (b2 (xv 3) (xc .non) isNotF2) (b2 (b1 (xv 8) (fldF [14] "key")) (xv 3) eqO)) (xv 8) finT) (asgN 6))
 (seqM (ifS (b2 (xv 6) (lstM aNil) eqO) (seqM (asgS (lstM (aCons (makeM 14 (aCons (b1 (xv 0) (fldF [15] "made_so_far")) (aCons (xv 1) (aCons (xv 2) (aCons (xv 3) aNil)))) m_Thing_init []) aNil)) (asgN 6))
 (seqM (asgS (b2 (xv 6) (xc (.int 0)) idxO) (asgSub (b1 (xv 0) (fldF [15] "things")) (b1 (xv 0) (fldF [15] "made_so_far"))))
 (seqM (fldAug [15] "made_so_far" iaddF (xv 0) (xc (.int 1)))
 (fldAug [15] "deeds_done" iaddF (xv 0) (xc (.int 1)))))) nxM)
 (seqM (exprM (methM 15 "ended" (xv 0) (aCons (xv 5) aNil) m_Land_ended []))
 (retM (b1 (b2 (xv 6) (xc (.int 0)) idxO) (fldF [14] "number"))))))))))))
def m_Land_make : Fn := bodyM 4 9 b_Land_make
def N_Land_change : List Str := ["self", "thing", "fields", "there", "every", "fixed", "word", "field"]
def b_Land_change : SC := (seqM (asgS (methM 15 "thing_of" (xv 0) (aCons (xv 1) aNil) m_Land_thing_of []) (asgN 3))
 (seqM (asgS (b2 (b1 (xv 0) (fldF [15] "kinds_there")) (b1 (xv 3) (fldF [14] "sort_of")) idxO) (asgT 2 (asgCons (asgN 4) (asgCons (asgN 5) asgNil))))
 (seqM (ifS (orM (notM (b1 (xv 2) (isiF "dict"))) (b2 (xv 2) dicM eqO)) (raiseM 3) nxM)
 (seqM (ifS (notM (cb (aCons (lcM' [7] (anyS (xv 2)) (asgN 7) yesT (andM (b2 (xv 7) (xv 4) inO) (andM (b2 (xv 7) (xv 5) notInO) (callM (aCons (b2 (xv 2) (xv 7) idxO) aNil) m_is_whole []))) finT) aNil) allF)) (raiseM 3) nxM)
 (seqM (asgS (methM 15 "next_word" (xv 0) aNil m_Land_next_word []) (asgN 6))
 (seqM (fldS [14] "numbers" (xv 3) (dcM [7] (anyS (b1 (xv 3) (fldF [14] "numbers"))) (asgN 7) yesT (xv 7) (get2M (xv 2) (xv 7) (b2 (b1 (xv 3) (fldF [14] "numbers")) (xv 7) idxO)) finDT))
 (seqM (fldAug [14] "times" iaddF (xv 3) (xc (.int 1)))
 (seqM (fldAug [15] "deeds_done" iaddF (xv 0) (xc (.int 1)))
 (exprM (methM 15 "ended" (xv 0) (aCons (xv 6) aNil) m_Land_ended []))))))))))
def m_Land_change : Fn := bodyM 3 8 b_Land_change
def N_Land_take : List Str := ["self", "thing", "word"]
def b_Land_take : SC := (seqM (exprM (methM 15 "thing_of" (xv 0) (aCons (xv 1) aNil) m_Land_thing_of []))
 (seqM (asgS (methM 15 "next_word" (xv 0) aNil m_Land_next_word []) (asgN 2))
 (seqM (exprM (pop1M (b1 (xv 0) (fldF [15] "things")) (xv 1)))
 (seqM (fldAug [15] "deeds_done" iaddF (xv 0) (xc (.int 1)))
 (exprM (methM 15 "ended" (xv 0) (aCons (xv 2) aNil) m_Land_ended []))))))
def m_Land_take : Fn := bodyM 2 3 b_Land_take
def N_Land_fails : List Str := ["self", "counts", "count", "word"]
def b_Land_fails : SC := (seqM (ifS (orM (notM (b1 (xv 1) (isiF "dict"))) (notM (cb (aCons (lcM' [2] (anyS (xv 1)) (asgN 2) yesT (andM (callM (aCons (xv 2) aNil) m_is_whole []) (b2 (xv 2) (xc (.int 0)) geF)) finT) aNil) allF))) (raiseM 5) nxM)
 (seqM (ifS (notM (cb (aCons (lcM' [3] (valS (xv 1)) (asgN 3) yesT (andM (b1 (xv 3) (isiF "str")) (b2 (xv 3) (tupM (aCons (xc (.str "no")) (aCons (xc (.str "half")) aNil))) inO)) finT) aNil) allF)) (raiseM 5) nxM)
 (seqM (fldS [15] "failing" (xv 0) (cb (aCons (xv 1) aNil) dictF))
 (fldS [15] "asked" (xv 0) (xc (.int 0))))))
def m_Land_fails : Fn := bodyM 2 4 b_Land_fails
def N_Land_ids : List Str := ["self"]
def b_Land_ids : SC := (retM (cb (aCons (cb (aCons (b1 (xv 0) (fldF [15] "things")) aNil) listF) aNil) sortC))
def m_Land_ids : Fn := bodyM 1 1 b_Land_ids
def N_Land_kind : List Str := ["self", "thing"]
def b_Land_kind : SC := (retM (b1 (methM 15 "thing_of" (xv 0) (aCons (xv 1) aNil) m_Land_thing_of []) (fldF [14] "sort_of")))
def m_Land_kind : Fn := bodyM 2 2 b_Land_kind
def N_Land_fields : List Str := ["self", "thing", "there", "field"]
def b_Land_fields : SC := (seqM (asgS (methM 15 "thing_of" (xv 0) (aCons (xv 1) aNil) m_Land_thing_of []) (asgN 2))
 (retM (dcM [3] (anyS (b2 (b2 (b1 (xv 0) (fldF [15] "kinds_there")) (b1 (xv 2) (fldF [14] "sort_of")) idxO) (xc (.int 0)) idxO)) (asgN 3) yesT (xv 3) (b2 (b1 (xv 2) (fldF [14] "numbers")) (xv 3) idxO) finDC)))
def m_Land_fields : Fn := bodyM 2 4 b_Land_fields
def N_Land_touched : List Str := ["self", "thing"]
def b_Land_touched : SC := (retM (b1 (methM 15 "thing_of" (xv 0) (aCons (xv 1) aNil) m_Land_thing_of []) (fldF [14] "times")))
def m_Land_touched : Fn := bodyM 2 2 b_Land_touched
def N_Land_made_by : List Str := ["self", "key", "thing"]
def b_Land_made_by : SC := (seqM (ifS (notM (b1 (xv 1) (isiF "str"))) (raiseM 4) nxM)
 (seqM (forM (valS (b1 (xv 0) (fldF [15] "things"))) (asgN 2) (ifS (b2 (b1 (xv 2) (fldF [14] "key")) (xv 1) eqO) (retM (b1 (xv 2) (fldF [14] "number"))) nxM))
 (retM (xc .non))))
def m_Land_made_by : Fn := bodyM 2 3 b_Land_made_by
def N__law_cell_at : List Str := ["_law_script", "_law_k"]
def b__law_cell_at : SC := (seqM (ifS (b2 (xv 1) (cb (aCons (xv 0) aNil) lenF) ltF) (retM (b2 (xv 0) (xv 1) idxO)) nxM)
 (retM (xc (.int 0))))
def m__law_cell_at : Fn := bodyM 2 2 b__law_cell_at
def N__law_draw : List Str := ["_law_cell", "_law_k", "_law_most", "_law_primes"]
def b__law_draw : SC := (seqM (asgS (tupM (aCons (xc (.int 1000003)) (aCons (xc (.int 1000033)) (aCons (xc (.int 1000037)) (aCons (xc (.int 1000039)) (aCons (xc (.int 1000081)) (aCons (xc (.int 1000099)) (aCons (xc (.int 1000117)) (aCons (xc (.int 1000121)) (aCons (xc (.int 1000133)) (aCons (xc (.int 1000151)) (aCons (xc (.int 1000159)) (aCons (xc (.int 1000171)) (aCons (xc (.int 1000183)) (aCons (xc (.int 1000187)) (aCons (xc (.int 1000193)) (aCons (xc (.int 1000199)) aNil))))))))))))))))) (asgN 3))
 (retM (b2 (b2 (b2 (b2 (xv 0) (xc (.int 48271)) mulG) (b2 (xv 1) (xc (.int 69621)) mulG) addF) (b2 (xv 3) (b2 (xv 1) (xc (.int 16)) modF) idxO) modF) (xv 2) modF)))
def m__law_draw : Fn := bodyM 3 4 b__law_draw
def N__law_number : List Str := ["_law_cell", "_law_k", "_law_limit", "_law_rest", "_law_turn", "_law_small"]
def b__law_number : SC := (seqM (asgS (b2 (xv 0) (b2 (xc (.int 10)) (xc (.int 18)) powF) subF) (asgN 3))
 (seqM (forM (rng1S (aCons (b2 (xv 1) (xc (.int 24)) modF) aNil)) (asgN 4) (asgS (b2 (xv 3) (xc (.int 1009)) fdivF) (asgN 3)))
 (seqM (ifS (b2 (xv 3) (xc (.int 0)) gtF) (retM (b2 (b2 (xv 3) (xc (.int 1009)) modF) (xv 2) modF)) nxM)
 (seqM (asgS (b2 (xv 0) (xc (.int 1000003)) modF) (asgN 5))
 (retM (b2 (callM (aCons (b2 (b2 (xv 5) (b2 (xc (.int 977)) (xv 1) mulG) addF) (b2 (b2 (xv 5) (b2 (xc (.int 31)) (xv 1) mulG) addF) (xc (.int 5)) addF) mulG) (aCons (b2 (b2 (xv 1) (xc (.int 9)) modF) (xc (.int 1)) addF) (aCons (xc (.int 999983)) aNil))) m__law_draw []) (xv 2) modF))))))
def m__law_number : Fn := bodyM 3 6 b__law_number
def N__law_next : List Str := ["_law_state", "_law_limit", "_law_at", "_law_cell"]
def b__law_next : SC := (seqM (asgS (b2 (b2 (xv 0) (xc (.int 2)) idxO) (xc (.int 1)) addF) (asgSub (xv 0) (xc (.int 2))))
 (seqM (asgS (b2 (b2 (xv 0) (xc (.int 2)) idxO) (xc (.int 12)) fdivF) (asgN 2))
 (seqM (asgS (b2 (callM (aCons (b2 (xv 0) (xc (.int 0)) idxO) (aCons (b2 (b2 (xv 0) (xc (.int 1)) idxO) (xv 2) addF) aNil)) m__law_cell_at []) (b2 (xc (.int 31)) (xv 2) mulG) addF) (asgN 3))
 (retM (callM (aCons (xv 3) (aCons (b2 (b2 (b2 (xv 0) (xc (.int 2)) idxO) (xc (.int 12)) modF) (xc (.int 1)) addF) (aCons (xv 1) aNil))) m__law_number [])))))
def m__law_next : Fn := bodyM 2 4 b__law_next
def N__law_kinds : List Str := ["_law_state", "_law_found", "_law_words", "_law_name", "_law_fields", "_law_field"]
def b__law_kinds : SC := (seqM (parM 1 2 (aCons dicMC (aCons (lstM (aCons (xc (.str "size")) (aCons (xc (.str "a")) (aCons (xc (.str "take")) (aCons (xc (.str "of")) (aCons (xc (.str "z")) aNil)))))) aNil)))
 (seqM (forM (anyS (slM (lstM (aCons (xc (.str "net")) (aCons (xc (.str "make")) (aCons (xc (.str "k")) (aCons (xc (.str "z")) (aCons (xc (.str "of")) aNil)))))) oNo (oSo (b2 (xc (.int 1)) (callM (aCons (xv 0) (aCons (xc (.int 5)) aNil)) m__law_next []) addF)))) (asgN 3) (seqM (asgS (slM (slM (xv 2) (oSo (callM (aCons (xv 0) (aCons (xc (.int 2)) aNil)) m__law_next [])) oNo) oNo (oSo (b2 (xc (.int 1)) (callM (aCons (xv 0) (aCons (xc (.int 5)) aNil)) m__law_next []) addF))) (asgN 4))
 (asgS (tupM (aCons (xv 4) (aCons (lcM' [5] (anyS (xv 4)) (asgN 5) (b2 (callM (aCons (xv 0) (aCons (xc (.int 3)) aNil)) m__law_next []) (xc (.int 0)) eqO) (xv 5) finT) aNil))) (asgSub (xv 1) (xv 3)))))
 (retM (frzM (xv 1)))))
def m__law_kinds : Fn := bodyM 1 6 b__law_kinds
def N__law_done : List Str := ["_law_here", "_law_deed_here", "_law_word", "_law_one", "_law_other", "_law_tag", "_law_thing", "_law_field", "_law_there", "_law_number_here"]
def b__law_done : SC := (seqM (asgS (xv 1) (asgT 4 (asgCons (asgN 2) (asgCons (asgN 3) (asgCons (asgN 4) (asgCons (asgN 5) asgNil))))))
 (seqM (ifS (b2 (xv 2) (xc (.str "take")) eqO) (seqM (exprM (pop1M (b2 (xv 0) (xc (.str "things")) idxO) (xv 3)))
 (retM (xc .non))) nxM)
 (seqM (ifS (b2 (xv 2) (xc (.str "change")) eqO) (seqM (asgS (b2 (b2 (xv 0) (xc (.str "things")) idxO) (xv 3) idxO) (asgN 6))
 (seqM (forM (anyS (xv 4)) (asgN 7) (asgS (b2 (xv 4) (xv 7) idxO) (asgSub (b2 (xv 6) (xc (.str "fields")) idxO) (xv 7))))
 (seqM (asgS (b2 (b2 (xv 6) (xc (.str "touched")) idxO) (xc (.int 1)) addF) (asgSub (xv 6) (xc (.str "touched"))))
 (retM (xc .non))))) nxM)
 (seqM (asgS (lcM' [9] (anyS (b2 (xv 0) (xc (.str "things")) idxO)) (asgN 9) (andM (b2 (xv 5) (xc .non) isNotF2) (b2 (b2 (b2 (b2 (xv 0) (xc (.str "things")) idxO) (xv 9) idxO) (xc (.str "key")) idxO) (xv 5) eqO)) (xv 9) finT) (asgN 8))
 (seqM (ifS (b2 (xv 8) (lstM aNil) eqO) (seqM (asgS (lstM (aCons (b2 (xv 0) (xc (.str "made")) idxO) aNil)) (asgN 8))
 (seqM (asgS (dspMC (pCons (xc (.str "kind")) (xv 3) (pCons (xc (.str "fields")) (cb (aCons (xv 4) aNil) dictC) (pCons (xc (.str "key")) (xv 5) (pCons (xc (.str "touched")) (xc (.int 1)) pNil))))) (asgSub (b2 (xv 0) (xc (.str "things")) idxO) (b2 (xv 0) (xc (.str "made")) idxO)))
 (asgS (b2 (b2 (xv 0) (xc (.str "made")) idxO) (xc (.int 1)) addF) (asgSub (xv 0) (xc (.str "made")))))) nxM)
 (retM (b2 (xv 8) (xc (.int 0)) idxO)))))))
def m__law_done : Fn := bodyM 2 10 b__law_done
def N__law_own : List Str := ["_law_here", "_law_deed_here", "_law_word", "_law_one", "_law_other", "_law_tag", "_law_fields", "_law_fixed", "_law_end", "_law_told", "_law_field"]
def b__law_own : SC := (seqM (asgS (xv 1) (asgT 4 (asgCons (asgN 2) (asgCons (asgN 3) (asgCons (asgN 4) (asgCons (asgN 5) asgNil))))))
 (seqM (ifS (b2 (xv 2) (xc (.str "fails")) eqO) (seqM (asgS (tupM (aCons (xv 3) (aCons (xc (.int 0)) aNil))) (asgT 2 (asgCons (asgSub (xv 0) (xc (.str "fails"))) (asgCons (asgSub (xv 0) (xc (.str "asked"))) asgNil))))
 (retM (xc .non))) nxM)
 (seqM (ifS (andM (b2 (xv 2) (xc (.str "make")) neO) (b2 (xv 3) (b2 (xv 0) (xc (.str "things")) idxO) notInO)) (retM (xc (.str "thing"))) nxM)
 (seqM (ifS (b2 (xv 2) (xc (.str "change")) eqO) (seqM (asgS (b2 (b2 (xv 0) (xc (.str "kinds")) idxO) (b2 (b2 (b2 (xv 0) (xc (.str "things")) idxO) (xv 3) idxO) (xc (.str "kind")) idxO) idxO) (asgT 2 (asgCons (asgN 6) (asgCons (asgN 7) asgNil))))
 (ifS (notM (cb (aCons (lcM' [10] (anyS (xv 4)) (asgN 10) yesT (andM (b2 (xv 10) (xv 6) inO) (b2 (xv 10) (xv 7) notInO)) finT) aNil) allF)) (retM (xc (.str "fields"))) nxM)) nxM)
 (seqM (asgS (get2M (b2 (xv 0) (xc (.str "fails")) idxO) (b2 (xv 0) (xc (.str "asked")) idxO) (xc (.str ""))) (asgN 8))
 (seqM (asgS (b2 (b2 (xv 0) (xc (.str "asked")) idxO) (xc (.int 1)) addF) (asgSub (xv 0) (xc (.str "asked"))))
 (seqM (ifS (b2 (xv 8) (xc (.str "no")) eqO) (retM (xc (.str "failed"))) nxM)
 (seqM (asgS (callM (aCons (xv 0) (aCons (xv 1) aNil)) m__law_done []) (asgN 9))
 (retM (ifM (b2 (xv 8) (xc (.str "half")) eqO) (xc (.str "failed")) (xv 9)))))))))))
def m__law_own : Fn := bodyM 2 11 b__law_own
def N__law_ask : List Str := ["_law_land", "_law_deed_here", "_law_word", "_law_one", "_law_other", "_law_tag", "_law_found", "error", "_law_sorts"]
def b__law_ask : SC := (seqM (asgS (xv 1) (asgT 4 (asgCons (asgN 2) (asgCons (asgN 3) (asgCons (asgN 4) (asgCons (asgN 5) asgNil))))))
 (seqM (tryAs 7 [0, 1, 2, 3, 4, 5, 6, 10] [] (ifS (b2 (xv 2) (xc (.str "make")) eqO) (asgS (ifM (b2 (xv 5) (xc .non) isF2) (methM 15 "make" (xv 0) (aCons (xv 3) (aCons (xv 4) aNil)) m_Land_make [.non]) (methKM 15 "make" 3 1 (xv 0) (aCons (xv 3) (aCons (xv 4) aNil)) (aCons (xv 5) aNil) m_Land_make)) (asgN 6)) (ifS (b2 (xv 2) (xc (.str "fails")) eqO) (asgS (methM 15 "fails" (xv 0) (aCons (xv 3) aNil) m_Land_fails []) (asgN 6)) (asgS (ifM (b2 (xv 2) (xc (.str "take")) eqO) (methM 15 "take" (xv 0) (aCons (xv 3) aNil) m_Land_take []) (methM 15 "change" (xv 0) (aCons (xv 3) (aCons (xv 4) aNil)) m_Land_change [])) (asgN 6)))) (fun q => (seqM (asgS (lstM (aCons (xc (.bl (([6] : List Nat).contains q))) (aCons (xc (.bl (([3] : List Nat).contains q))) (aCons (xc (.bl (([10] : List Nat).contains q))) aNil)))) (asgN 8))
 (retM (ifM (b2 (lcnM (xv 8) (xc (.bl true))) (xc (.int 1)) eqO) (b2 (tupM (aCons (xc (.str "thing")) (aCons (xc (.str "fields")) (aCons (xc (.str "failed")) aNil)))) (lixM (xv 8) (xc (.bl true))) idxO) (xc (.str "other")))))))
 (retM (xv 6))))
def m__law_ask : Fn := bodyM 2 9 b__law_ask
def N__law_deed : List Str := ["_law_state", "_law_kinds_here", "_law_made", "_law_sort", "_law_kind", "_law_fields", "_law_many", "_law_words", "_law_counts", "_law_thing", "_law_some", "_law_field", "_law_turn"]
def b__law_deed : SC := (seqM (parM 3 4 (aCons (callM (aCons (xv 0) (aCons (xc (.int 9)) aNil)) m__law_next []) (aCons (b2 (cb (aCons (xv 1) aNil) listF) (callM (aCons (xv 0) (aCons (cb (aCons (xv 1) aNil) lenF) aNil)) m__law_next []) idxO) aNil)))
 (seqM (asgS (cb (aCons (lcM' [11] (anyS (b2 (b2 (xv 1) (xv 4) idxO) (xc (.int 0)) idxO)) (asgN 11) yesT (tupM (aCons (xv 11) (aCons (b2 (callM (aCons (xv 0) (aCons (xc (.int 9)) aNil)) m__law_next []) (xc (.int 4)) subF) aNil))) finT) aNil) dictF) (asgN 5))
 (seqM (ifS (b2 (xv 3) (xc (.int 4)) ltF) (retM (tupM (aCons (xc (.str "make")) (aCons (xv 4) (aCons (xv 5) (aCons (b2 (tupM (aCons (xc .non) (aCons (xc .non) (aCons (xc (.str "x")) (aCons (xc (.str "y")) (aCons (b2 (xc (.str "k")) (xc (.int 9)) mulG) aNil)))))) (callM (aCons (xv 0) (aCons (xc (.int 5)) aNil)) m__law_next []) idxO) aNil)))))) nxM)
 (seqM (ifS (b2 (xv 3) (xc (.int 8)) eqO) (seqM (asgS (tupM (aCons (callM (aCons (xv 0) (aCons (xc (.int 4)) aNil)) m__law_next []) (aCons (tupM (aCons (xc (.str "no")) (aCons (xc (.str "half")) aNil))) aNil))) (asgT 2 (asgCons (asgN 6) (asgCons (asgN 7) asgNil))))
 (seqM (asgS (cb (aCons (lcM' [12] (rng1S (aCons (xv 6) aNil)) (asgN 12) yesT (tupM (aCons (callM (aCons (xv 0) (aCons (xc (.int 9)) aNil)) m__law_next []) (aCons (b2 (xv 7) (callM (aCons (xv 0) (aCons (xc (.int 2)) aNil)) m__law_next []) idxO) aNil))) finT) aNil) dictF) (asgN 8))
 (retM (tupM (aCons (xc (.str "fails")) (aCons (xv 8) (aCons (xc .non) (aCons (xc .non) aNil)))))))) nxM)
 (seqM (asgS (callM (aCons (xv 0) (aCons (b2 (xv 2) (xc (.int 1)) addF) aNil)) m__law_next []) (asgN 9))
 (seqM (asgS (cb (aCons (lcM' [11] (anyS (xv 5)) (asgN 11) (b2 (callM (aCons (xv 0) (aCons (xc (.int 2)) aNil)) m__law_next []) (xc (.int 0)) eqO) (tupM (aCons (xv 11) (aCons (b2 (xv 5) (xv 11) idxO) aNil))) finT) aNil) dictF) (asgN 10))
 (retM (ifM (b2 (xv 3) (xc (.int 7)) eqO) (tupM (aCons (xc (.str "take")) (aCons (xv 9) (aCons (xc .non) (aCons (xc .non) aNil))))) (tupM (aCons (xc (.str "change")) (aCons (xv 9) (aCons (ifM (b2 (xv 10) dicM neO) (xv 10) (xv 5)) (aCons (xc .non) aNil)))))))))))))
def m__law_deed : Fn := bodyM 3 13 b__law_deed
def N__law_looks_right : List Str := ["_law_land", "_law_here", "_law_kinds_here", "_law_turn", "_law_ids", "_law_number_here", "_law_mine", "_law_found", "_law_tag", "_law_there", "_law_field"]
def b__law_looks_right : SC := (seqM (forM (rng1S (aCons (xc (.int 2)) aNil)) (asgN 3) (seqM (asgS (methM 15 "ids" (xv 0) aNil m_Land_ids []) (asgN 4))
 (seqM (ifS (b2 (cb (aCons (xv 4) aNil) strF) (cb (aCons (cb (aCons (cb (aCons (b2 (xv 1) (xc (.str "things")) idxO) aNil) listF) aNil) sortF) aNil) strF) neO) (retM (xc (.bl false))) nxM)
 (seqM (forM (anyS (xv 4)) (asgN 5) (seqM (asgS (tupM (aCons (b2 (b2 (xv 1) (xc (.str "things")) idxO) (xv 5) idxO) (aCons (methM 15 "fields" (xv 0) (aCons (xv 5) aNil) m_Land_fields []) aNil))) (asgT 2 (asgCons (asgN 6) (asgCons (asgN 7) asgNil))))
 (seqM (ifS (orM (b2 (methM 15 "kind" (xv 0) (aCons (xv 5) aNil) m_Land_kind []) (b2 (xv 6) (xc (.str "kind")) idxO) neO) (b2 (cb (aCons (xv 7) aNil) listF) (b2 (b2 (xv 2) (b2 (xv 6) (xc (.str "kind")) idxO) idxO) (xc (.int 0)) idxO) neO)) (retM (xc (.bl false))) nxM)
 (seqM (ifS (b2 (cb (aCons (lstM (aCons (methM 15 "touched" (xv 0) (aCons (xv 5) aNil) m_Land_touched []) aNil)) aNil) strF) (cb (aCons (lstM (aCons (b2 (xv 6) (xc (.str "touched")) idxO) aNil)) aNil) strF) neO) (retM (xc (.bl false))) nxM)
 (seqM (ifS (b2 (cb (aCons (lcM' [10] (anyS (xv 7)) (asgN 10) yesT (b2 (xv 7) (xv 10) idxO) finT) aNil) strF) (cb (aCons (lcM' [10] (anyS (xv 7)) (asgN 10) yesT (b2 (b2 (xv 6) (xc (.str "fields")) idxO) (xv 10) idxO) finT) aNil) strF) neO) (retM (xc (.bl false))) nxM)
 (exprM (clrD (xv 7))))))))
 (seqM (exprM (lmM appF (xv 4) (aCons (xc (.int 99)) aNil)))
 (forM (anyS (tupM (aCons (xc (.str "x")) (aCons (xc (.str "y")) (aCons (b2 (xc (.str "k")) (xc (.int 9)) mulG) (aCons (xc (.str "none")) aNil)))))) (asgN 8) (seqM (asgS (lcM' [5] (anyS (b2 (xv 1) (xc (.str "things")) idxO)) (asgN 5) (b2 (b2 (b2 (b2 (xv 1) (xc (.str "things")) idxO) (xv 5) idxO) (xc (.str "key")) idxO) (xv 8) eqO) (xv 5) finT) (asgN 9))
 (ifS (b2 (cb (aCons (lstM (aCons (methM 15 "made_by" (xv 0) (aCons (xv 8) aNil) m_Land_made_by []) aNil)) aNil) strF) (cb (aCons (lstM (aCons (ifM (b2 (xv 9) (lstM aNil) neO) (b2 (xv 9) (xc (.int 0)) idxO) (xc .non)) aNil)) aNil) strF) neO) (retM (xc (.bl false))) nxM))))))))
 (retM (xc (.bl true))))
def m__law_looks_right : Fn := bodyM 3 11 b__law_looks_right
def N_law : List Str := ["_law_script", "_law_by", "_law_state", "_law_kinds_here", "_law_land", "_law_here", "_law_turn", "_law_deed_here", "_law_handed"]
def b_law : SC := (seqM (forM (rng3S (aCons (xc (.int 0)) (aCons (cb (aCons (xc (.int 1)) (aCons (cb (aCons (xc (.int 36)) (aCons (cb (aCons (xv 0) aNil) lenF) aNil)) min2F) aNil)) max2F) (aCons (xc (.int 12)) aNil)))) (asgN 1) (seqM (asgS (lstMC (aCons (xv 0) (aCons (xv 1) (aCons (xc (.int 0)) aNil)))) (asgN 2))
 (seqM (asgS (callM (aCons (xv 2) aNil) m__law_kinds []) (asgN 3))
 (seqM (parM 4 5 (aCons (makeM 15 (aCons (xv 3) aNil) m_Land_init []) (aCons (dspMC (pCons (xc (.str "kinds")) (xv 3) (pCons (xc (.str "things")) dicMC (pCons (xc (.str "made")) (xc (.int 0)) (pCons (xc (.str "fails")) dicM (pCons (xc (.str "asked")) (xc (.int 0)) pNil)))))) aNil)))
 (forM (rng1S (aCons (xc (.int 40)) aNil)) (asgN 6) (seqM (asgS (callM (aCons (xv 2) (aCons (xv 3) (aCons (b2 (xv 5) (xc (.str "made")) idxO) aNil))) m__law_deed []) (asgN 7))
 (seqM (asgS (tupM (aCons (b2 (xv 7) (xc (.int 0)) idxO) (aCons (b2 (xv 7) (xc (.int 1)) idxO) (aCons (ifM (b2 (b2 (xv 7) (xc (.int 2)) idxO) (xc .non) isNotF2) (cb (aCons (b2 (xv 7) (xc (.int 2)) idxO) aNil) dictF) (xc .non)) (aCons (b2 (xv 7) (xc (.int 3)) idxO) aNil))))) (asgN 8))
 (seqM (ifS (b2 (b2 (xv 7) (xc (.int 0)) idxO) (xc (.str "fails")) eqO) (asgS (tupM (aCons (b2 (xv 7) (xc (.int 0)) idxO) (aCons (cb (aCons (b2 (xv 7) (xc (.int 1)) idxO) aNil) dictF) (aCons (xc .non) (aCons (xc .non) aNil))))) (asgN 8)) nxM)
 (seqM (ifS (orM (b2 (cb (aCons (lstM (aCons (callM (aCons (xv 4) (aCons (xv 8) aNil)) m__law_ask []) aNil)) aNil) strF) (cb (aCons (lstM (aCons (callM (aCons (xv 5) (aCons (xv 7) aNil)) m__law_own []) aNil)) aNil) strF) neO) (notM (callM (aCons (xv 4) (aCons (xv 5) (aCons (xv 3) aNil))) m__law_looks_right []))) (retM (xc (.bl false))) nxM)
 (ifS (b2 (slM (xv 8) (oSo (xc (.int 1))) (oSo (xc (.int 3)))) (slM (xv 7) (oSo (xc (.int 1))) (oSo (xc (.int 3)))) neO) (retM (xc (.bl false))) nxM))))))))))
 (retM (xc (.bl true))))
def m_law : Fn := bodyM 1 9 b_law
end KK
/-! P1a: a land as plain data; what stands for it in a store. -/
namespace M3
open PySem L2
/-! ### plain data -/
structure Th where
  kind : Str
  nums : List (Str × Int)
  key : Option Str
  tim : Int
structure LandA where
  kinds : List (Str × List Str × List Str)
  ts : List (Int × Th)
  made : Int
  done : Int
  fl : List (Int × Str)
  asked : Int
def numsD (l : List (Str × Int)) : List (Key × D) := l.map fun p => (.inr p.1, .int p.2)
def flD (l : List (Int × Str)) : List (Key × D) := l.map fun p => (.inl p.1, .str p.2)
def kindV (k : List Str × List Str) : D := .tup [.lst (k.1.map .str), .lst (k.2.map .str)]
def kindsD (l : List (Str × List Str × List Str)) : List (Key × D) := l.map fun p => (.inr p.1, kindV p.2)
def keyV : Option Str → D
  | none => .non
  | some s => .str s
/-- a table's value -/
def look {κ α : Type} [DecidableEq κ] (l : List (κ × α)) (k : κ) : Option α := getA l k
theorem getA_cons {κ α : Type} [DecidableEq κ] {k j : κ} {x : α} {r : List (κ × α)} : getA ((k, x) :: r) j = if k = j then some x else getA r j := rfl
theorem getA_numsD {f : Str} : ∀ l : List (Str × Int), getA (numsD l) (.inr f) = (getA l f).map .int
  | [] => rfl
  | (g, i) :: r => by
    show getA (((Sum.inr g : Key), D.int i) :: numsD r) (.inr f) = (getA ((g, i) :: r) f).map .int
    unfold getA
    by_cases h : g = f
    · rw [h, if_pos rfl, if_pos rfl]; rfl
    · rw [if_neg h, if_neg (fun e => h (by cases e; rfl))]
      exact getA_numsD r
theorem getA_flD {n : Int} : ∀ l : List (Int × Str), getA (flD l) (.inl n) = (getA l n).map .str
  | [] => rfl
  | (g, i) :: r => by
    show getA (((Sum.inl g : Key), D.str i) :: flD r) (.inl n) = (getA ((g, i) :: r) n).map .str
    unfold getA
    by_cases h : g = n
    · rw [h, if_pos rfl, if_pos rfl]; rfl
    · rw [if_neg h, if_neg (fun e => h (by cases e; rfl))]
      exact getA_flD r
theorem getA_kindsD {f : Str} : ∀ l : List (Str × List Str × List Str), getA (kindsD l) (.inr f) = (getA l f).map kindV
  | [] => rfl
  | (g, i) :: r => by
    show getA (((Sum.inr g : Key), kindV i) :: kindsD r) (.inr f) = (getA ((g, i) :: r) f).map kindV
    unfold getA
    by_cases h : g = f
    · rw [h, if_pos rfl, if_pos rfl]; rfl
    · rw [if_neg h, if_neg (fun e => h (by cases e; rfl))]
      exact getA_kindsD r
theorem getA_some_mem {κ α : Type} [DecidableEq κ] : ∀ {l : List (κ × α)} {k : κ} {x : α}, getA l k = some x → (k, x) ∈ l
  | (j, y) :: r, k, x, h => by
    unfold getA at h
    by_cases e : j = k
    · rw [if_pos e] at h; cases h; rw [e]; exact List.mem_cons_self
    · rw [if_neg e] at h; exact List.mem_cons_of_mem _ (getA_some_mem h)
theorem getA_none {κ α : Type} [DecidableEq κ] : ∀ {l : List (κ × α)} {k : κ}, getA l k = none ↔ k ∉ l.map (·.1)
  | [], k => by simp [getA]
  | (j, y) :: r, k => by
    unfold getA
    by_cases e : j = k
    · rw [if_pos e]; simp [e]
    · rw [if_neg e, getA_none]; simp [Ne.symm e]
theorem getA_isSome {κ α : Type} [DecidableEq κ] {l : List (κ × α)} {k : κ} : (getA l k).isSome = decide (k ∈ l.map (·.1)) := by
  cases h : getA l k with
  | none => rw [getA_none] at h; simp [h]
  | some x => have := getA_some_mem h; simp; exact ⟨x, this⟩
theorem getA_memS {κ α : Type} [DecidableEq κ] : ∀ {l : List (κ × α)} {k : κ} {x : α}, (l.map (·.1)).Nodup → (k, x) ∈ l → getA l k = some x
  | (j, y) :: r, k, x, nd, h => by
    rw [List.map_cons] at nd
    obtain ⟨n1, n2⟩ := List.nodup_cons.mp nd
    unfold getA
    rcases List.mem_cons.mp h with e | e
    · cases e; rw [if_pos rfl]
    · rw [if_neg (fun z => n1 (List.mem_map.mpr ⟨(k, x), e, z.symm⟩))]
      exact getA_memS n2 e
/-! ### deeds -/
inductive Res where
  | non | id (i : Int) | thing | fields | failed
def keyHit (key : Option Str) (t : Th) : Bool := match key with
  | none => false
  | some k => decide (t.key = some k)
def doMake (kind : Str) (nums : List (Str × Int)) (key : Option Str) (A : LandA) : Res × LandA := match A.ts.find? fun p => keyHit key p.2 with
  | some p => (.id p.1, A)
  | none => (.id A.made, { A with ts := A.ts ++ [(A.made, ⟨kind, nums, key, 1⟩)], made := A.made + 1, done := A.done + 1 })
def doTake (i : Int) (A : LandA) : Res × LandA := (.non, { A with ts := A.ts.filter fun p => decide (p.1 ≠ i), done := A.done + 1 })
def setNums (o nums : List (Str × Int)) : List (Str × Int) := nums.map fun p => (p.1, (getA o p.1).getD p.2)
def doChange (i : Int) (o : List (Str × Int)) (A : LandA) : Res × LandA := (.non, { A with ts := A.ts.map fun p => if p.1 = i then (p.1, { p.2 with nums := setNums o p.2.nums, tim := p.2.tim + 1 }) else p, done := A.done + 1 })
/-- a deed that is asked: it may fail -/
def asked1 (A : LandA) : LandA := { A with asked := A.asked + 1 }
def failing (A : LandA) (f : LandA → Res × LandA) : Res × LandA :=
  if getA A.fl A.asked = some ("no" : Str) then (.failed, asked1 A) else if getA A.fl A.asked = some ("half" : Str) then (.failed, (f (asked1 A)).2) else f (asked1 A)
inductive Dd where
  | make (kind : Str) (nums : List (Str × Int)) (key : Option Str)
  | change (i : Int) (o : List (Str × Int))
  | take (i : Int)
  | fails (c : List (Int × Str))
def kindAt (A : LandA) (i : Int) : List Str × List Str := match getA A.ts i with
  | some t => (getA A.kinds t.kind).getD ([], [])
  | none => ([], [])
def changeOk (A : LandA) (i : Int) (o : List (Str × Int)) : Bool := o.all fun p => decide (p.1 ∈ (kindAt A i).1) && !decide (p.1 ∈ (kindAt A i).2)
def stepA (A : LandA) : Dd → Res × LandA
  | .make k n key => failing A (doMake k n key)
  | .take i => if (getA A.ts i).isSome then failing A (doTake i) else (.thing, A)
  | .change i o => if (getA A.ts i).isSome then (if changeOk A i o then failing A (doChange i o) else (.fields, A)) else (.thing, A)
  | .fails c => (.non, { A with fl := c, asked := 0 })
/-! words -/
@[simp] theorem wne1 : ((("make" : Str) = "change") = False) := by decide +kernel
@[simp] theorem wne2 : ((("make" : Str) = "take") = False) := by decide +kernel
@[simp] theorem wne3 : ((("make" : Str) = "fails") = False) := by decide +kernel
@[simp] theorem wne4 : ((("make" : Str) = "no") = False) := by decide +kernel
@[simp] theorem wne5 : ((("make" : Str) = "half") = False) := by decide +kernel
@[simp] theorem wne6 : ((("change" : Str) = "make") = False) := by decide +kernel
@[simp] theorem wne7 : ((("change" : Str) = "take") = False) := by decide +kernel
@[simp] theorem wne8 : ((("change" : Str) = "fails") = False) := by decide +kernel
@[simp] theorem wne9 : ((("change" : Str) = "no") = False) := by decide +kernel
@[simp] theorem wne10 : ((("change" : Str) = "half") = False) := by decide +kernel
@[simp] theorem wne11 : ((("take" : Str) = "make") = False) := by decide +kernel
@[simp] theorem wne12 : ((("take" : Str) = "change") = False) := by decide +kernel
@[simp] theorem wne13 : ((("take" : Str) = "fails") = False) := by decide +kernel
@[simp] theorem wne14 : ((("take" : Str) = "no") = False) := by decide +kernel
@[simp] theorem wne15 : ((("take" : Str) = "half") = False) := by decide +kernel
@[simp] theorem wne16 : ((("fails" : Str) = "make") = False) := by decide +kernel
@[simp] theorem wne17 : ((("fails" : Str) = "change") = False) := by decide +kernel
@[simp] theorem wne18 : ((("fails" : Str) = "take") = False) := by decide +kernel
@[simp] theorem wne19 : ((("fails" : Str) = "no") = False) := by decide +kernel
@[simp] theorem wne20 : ((("fails" : Str) = "half") = False) := by decide +kernel
@[simp] theorem wne21 : ((("no" : Str) = "make") = False) := by decide +kernel
@[simp] theorem wne22 : ((("no" : Str) = "change") = False) := by decide +kernel
@[simp] theorem wne23 : ((("no" : Str) = "take") = False) := by decide +kernel
@[simp] theorem wne24 : ((("no" : Str) = "fails") = False) := by decide +kernel
@[simp] theorem wne25 : ((("no" : Str) = "half") = False) := by decide +kernel
@[simp] theorem wne26 : ((("half" : Str) = "make") = False) := by decide +kernel
@[simp] theorem wne27 : ((("half" : Str) = "change") = False) := by decide +kernel
@[simp] theorem wne28 : ((("half" : Str) = "take") = False) := by decide +kernel
@[simp] theorem wne29 : ((("half" : Str) = "fails") = False) := by decide +kernel
@[simp] theorem wne30 : ((("half" : Str) = "no") = False) := by decide +kernel
theorem failing_no {A : LandA} {f : LandA → Res × LandA} (h : getA A.fl A.asked = some ("no" : Str)) : failing A f = (.failed, asked1 A) := by unfold failing; rw [if_pos h]
theorem failing_half {A : LandA} {f : LandA → Res × LandA} (h : getA A.fl A.asked = some ("half" : Str)) : failing A f = (.failed, (f (asked1 A)).2) := by
  unfold failing
  rw [if_neg (by rw [h]; simp), if_pos h]
theorem failing_go {A : LandA} {f : LandA → Res × LandA} (h : ¬ getA A.fl A.asked = some ("no" : Str)) (h2 : ¬ getA A.fl A.asked = some ("half" : Str)) : failing A f = f (asked1 A) := by
  unfold failing
  rw [if_neg h, if_neg h2]
/-! ### comprehensions of truths -/
theorem lc_all {vs : List Nat} {src : CS} {t : GT} {el : CE} {v : Ev} {S : S3} {ds : List D} {g : D → Bool} (hs : Walks src v S ds) (hl : ds.length ≤ lim)
    (h : ∀ S' : S3, S'.cs = S.cs → S'.nx = S.nx → (S.lk ⊆ S'.lk) → ∀ d ∈ ds, ∃ v1, t d (wipeD v vs) S' = some (v1, S') ∧ el v1 S' = .ok (.bl (g d)) S') : lcM' vs src t yesT el finT v S = .ok (.lst ((ds.map g).map .bl)) S := by
  rw [lc_pure (f := fun d => some (.bl (g d))) hs hl fun S' h1 h2 h3 d hd => ?_]
  · rw [finT_ap, List.filterMap_eq_map', List.map_map]
    rfl
  · obtain ⟨v1, q1, q2⟩ := h S' h1 h2 h3 d hd
    exact ⟨v1, q1, rfl, q2⟩
theorem all_bsc {S : S3} {α : Type} {xs : List α} {g : α → Bool} : allF [.lst (xs.map (D.bl ∘ g))] S = some (.bl (xs.all g), S) := by
  have h := all_bs (S := S) (bs := xs.map g)
  rw [List.map_map, List.all_map] at h
  exact h
theorem any_bsc {S : S3} {α : Type} {xs : List α} {g : α → Bool} : anyF [.lst (xs.map (D.bl ∘ g))] S = some (.bl (xs.any g), S) := by
  have h := any_bs (S := S) (bs := xs.map g)
  rw [List.map_map, List.any_map] at h
  exact h
theorem nodup_inr {α : Type} {l : List (Str × α)} (h : (l.map (·.1)).Nodup) : (l.map fun p => (Sum.inr p.1 : Key)).Nodup := by
  unfold List.Nodup at h ⊢
  rw [List.pairwise_map] at h ⊢
  exact h.imp fun h e => h (Sum.inr.inj e)
theorem nodup_inl {α : Type} {l : List (Int × α)} (h : (l.map (·.1)).Nodup) : (l.map fun p => (Sum.inl p.1 : Key)).Nodup := by
  unfold List.Nodup at h ⊢
  rw [List.pairwise_map] at h ⊢
  exact h.imp fun h e => h (Sum.inl.inj e)
/-- a dict's new values, key by key -/
theorem foldl_put_nd {κ : Type} {l : List κ} {k : κ → Key} {y : κ → D} : ∀ (acc : List (Key × D)), ((acc.map (·.1)) ++ l.map k).Nodup → ((l.map fun x => some (k x, y x)).foldl putO acc) = acc ++ l.map fun x => (k x, y x) := by
  induction l with
  | nil => intro acc _; simp
  | cons x r ih =>
    intro acc nd
    rw [List.map_cons, List.foldl_cons]
    have h0 : k x ∉ acc.map (·.1) := fun m => by
      rw [List.map_cons, List.nodup_append] at nd
      exact nd.2.2 _ m _ List.mem_cons_self rfl
    show (List.map _ r).foldl putO (putA acc (k x) (y x)) = _
    rw [putA_new (getA_none.mpr h0), ih]
    · rw [List.map_cons, List.append_assoc]; rfl
    · simpa [List.append_assoc] using nd
/-- what a land always keeps -/
structure WFA (A : LandA) : Prop where
  kd : ∀ i t, (i, t) ∈ A.ts → ∃ f, getA A.kinds t.kind = some f ∧ t.nums.map (·.1) = f.1
  lt : ∀ p ∈ A.ts, p.1 < A.made
  nd : (A.ts.map (·.1)).Nodup
  kn : ∀ k f, getA A.kinds k = some f → f.1.Nodup ∧ f.1.length ≤ 5
theorem doMake_none {k : Str} {n : List (Str × Int)} {key : Option Str} {A : LandA} (h : (A.ts.find? fun p => keyHit key p.2) = none) : doMake k n key A = (.id A.made, { A with ts := A.ts ++ [(A.made, ⟨k, n, key, 1⟩)], made := A.made + 1, done := A.done + 1 }) := by
  unfold doMake
  rw [h]
theorem doMake_some {k : Str} {n : List (Str × Int)} {key : Option Str} {A : LandA} {p : Int × Th} (h : (A.ts.find? fun p => keyHit key p.2) = some p) : doMake k n key A = (.id p.1, A) := by
  unfold doMake
  rw [h]
/-! ### a table of things -/
/-- a store is as another one but for these cells, and what is new -/
structure Fr (S S' : S3) (fp : List Nat) : Prop where
  lk : S'.lk = S.lk
  nx : S.nx ≤ S'.nx
  cs : ∀ n, n < S.nx → n ∉ fp → S'.cs n = S.cs n
theorem Fr.refl (S : S3) (fp : List Nat) : Fr S S fp := ⟨rfl, Nat.le_refl _, fun _ _ _ => rfl⟩
theorem Fr.trans {S S1 S2 : S3} {fp fp1 : List Nat} (a : Fr S S1 fp) (b : Fr S1 S2 fp1) (h : ∀ n ∈ fp1, n ∈ fp ∨ S.nx ≤ n) : Fr S S2 fp where
  lk := b.lk.trans a.lk
  nx := Nat.le_trans a.nx b.nx
  cs := fun n hn hf => by
    rw [b.cs n (Nat.lt_of_lt_of_le hn a.nx) fun z => (h n z).elim hf fun q => by omega]
    exact a.cs n hn hf
theorem Fr.mono {S S' : S3} {fp fp' : List Nat} (a : Fr S S' fp) (h : ∀ n ∈ fp, n ∈ fp') : Fr S S' fp' := ⟨a.lk, a.nx, fun n hn hf => a.cs n hn fun z => hf (h n z)⟩
abbrev PTh := S3 → Int → Th → Nat → List Nat → Prop
/-- what a thing's reading leans on -/
def Local (P : PTh) : Prop := ∀ S S' i t c e, (∀ n ∈ c :: e, S'.cs n = S.cs n) → P S i t c e → P S' i t c e
inductive RepTs (P : PTh) (S : S3) : List (Key × D) → List (Int × Th) → List Nat → Prop
  | nil : RepTs P S [] [] []
  | cons {i : Int} {t : Th} {c : Nat} {e : List Nat} {ks : List (Key × D)} {ts : List (Int × Th)} {fp : List Nat} : P S i t c e → RepTs P S ks ts fp → RepTs P S ((.inl i, .cell c) :: ks) ((i, t) :: ts) (c :: (e ++ fp))
section
variable {P : PTh} {S S' : S3}
theorem RepTs.frame (hP : Local P) : ∀ {ks : List (Key × D)} {ts : List (Int × Th)} {fp : List Nat}, RepTs P S ks ts fp → (∀ n ∈ fp, S'.cs n = S.cs n) → RepTs P S' ks ts fp
  | _, _, _, .nil, _ => .nil
  | _, _, _, .cons (e := e) p r, h => .cons (hP _ _ _ _ _ _ (fun n hn => h n (by
      rcases List.mem_cons.mp hn with z | z
      · rw [z]; exact List.mem_cons_self
      · exact List.mem_cons_of_mem _ (List.mem_append_left _ z))) p) (r.frame hP fun n hn => h n (List.mem_cons_of_mem _ (List.mem_append_right _ hn)))
theorem RepTs.keys : ∀ {ks : List (Key × D)} {ts : List (Int × Th)} {fp : List Nat}, RepTs P S ks ts fp → ks.map (fun kd => keyD kd.1) = ts.map fun p => .int p.1
  | _, _, _, .nil => rfl
  | _, _, _, .cons p r => by rw [List.map_cons, List.map_cons, r.keys]; rfl
theorem RepTs.len : ∀ {ks : List (Key × D)} {ts : List (Int × Th)} {fp : List Nat}, RepTs P S ks ts fp → ks.length = ts.length
  | _, _, _, .nil => rfl
  | _, _, _, .cons p r => congrArg Nat.succ r.len
/-- the thing under an id -/
theorem RepTs.get : ∀ {ks : List (Key × D)} {ts : List (Int × Th)} {fp : List Nat} {i : Int}, RepTs P S ks ts fp →
    (getA ts i = none ∧ getA ks (.inl i) = none) ∨ ∃ t c e, getA ts i = some t ∧ getA ks (.inl i) = some (.cell c) ∧ P S i t c e ∧ ∀ n ∈ c :: e, n ∈ fp
  | _, _, _, i, .nil => .inl ⟨rfl, rfl⟩
  | _, _, _, i, .cons (i := j) (t := t) (c := c) (e := e) p r => by
    unfold getA
    by_cases h : j = i
    · subst h
      rw [if_pos rfl, if_pos rfl]
      refine .inr ⟨t, c, e, rfl, rfl, p, fun n hn => ?_⟩
      rcases List.mem_cons.mp hn with z | z
      · rw [z]; exact List.mem_cons_self
      · exact List.mem_cons_of_mem _ (List.mem_append_left _ z)
    · rw [if_neg h, if_neg (fun e => h (by cases e; rfl))]
      rcases r.get (i := i) with z | ⟨t', c', e', h1, h2, h3, h4⟩
      · exact .inl z
      · exact .inr ⟨t', c', e', h1, h2, h3, fun n hn => List.mem_cons_of_mem _ (List.mem_append_right _ (h4 n hn))⟩
theorem RepTs.isSome {ks : List (Key × D)} {ts : List (Int × Th)} {fp : List Nat} {i : Int} (r : RepTs P S ks ts fp) : (getA ks (.inl i)).isSome = (getA ts i).isSome := by
  rcases r.get (i := i) with ⟨h1, h2⟩ | ⟨t, c, e, h1, h2, _⟩
  · rw [h1, h2]; rfl
  · rw [h1, h2]; rfl
/-- one thing more -/
theorem RepTs.snoc {i : Int} {t : Th} {c : Nat} {e : List Nat} (p : P S i t c e) : ∀ {ks : List (Key × D)} {ts : List (Int × Th)} {fp : List Nat}, RepTs P S ks ts fp → getA ks (.inl i) = none → RepTs P S (putA ks (.inl i) (.cell c)) (ts ++ [(i, t)]) (fp ++ c :: e)
  | _, _, _, .nil, _ => by
    have := RepTs.cons p (RepTs.nil (P := P) (S := S))
    simpa [putA] using this
  | _, _, _, .cons (i := j) (e := e') q r, h => by
    unfold getA at h
    by_cases z : (Sum.inl j : Key) = .inl i
    · rw [if_pos z] at h; cases h
    · rw [if_neg z] at h
      unfold putA
      rw [if_neg z]
      have := RepTs.cons q (RepTs.snoc p r h)
      simpa [List.append_assoc] using this
/-- a thing away -/
theorem RepTs.drop (i : Int) : ∀ {ks : List (Key × D)} {ts : List (Int × Th)} {fp : List Nat}, RepTs P S ks ts fp → ∃ fp', RepTs P S (dropA ks (.inl i)) (ts.filter fun p => decide (p.1 ≠ i)) fp' ∧ fp'.Sublist fp
  | _, _, _, .nil => ⟨[], .nil, .slnil⟩
  | _, _, _, .cons (i := j) (c := c) (e := e) (ks := ks) (ts := ts) q r => by
    obtain ⟨fp', h1, h2⟩ := RepTs.drop i r
    unfold dropA at h1 ⊢
    rw [List.filter_cons, List.filter_cons]
    by_cases z : j = i
    · subst z
      simp only [ne_eq, not_true, decide_false]
      refine ⟨fp', h1, ?_⟩
      exact (h2.trans (List.sublist_append_right e _)).cons _
    · have z' : ¬ (Sum.inl j : Key) = .inl i := fun e => z (by cases e; rfl)
      simp only [ne_eq, z, z', not_false_eq_true, decide_true, if_true]
      exact ⟨_, .cons q h1, (List.Sublist.refl e).append h2 |>.cons₂ _⟩
/-- a thing otherwise: its cells alone are written -/
theorem RepTs.upd (hP : Local P) {i : Int} {t t' : Th} {c : Nat} {e : List Nat} : ∀ {ks : List (Key × D)} {ts : List (Int × Th)} {fp : List Nat}, RepTs P S ks ts fp → fp.Nodup → (ts.map (·.1)).Nodup → getA ks (.inl i) = some (.cell c) → getA ts i = some t →
    (∀ e0, P S i t c e0 → e0 = e) → (∀ n, n ∉ c :: e → S'.cs n = S.cs n) → P S' i t' c e → RepTs P S' ks (ts.map fun p => if p.1 = i then (p.1, t') else p) fp
  | _, _, _, .nil, _, _, h, _, _, _, _ => by cases h
  | _, _, _, .cons (i := j) (t := u) (c := c0) (e := e0) (fp := fp0) (ts := ts0) q r, nd, nd2, h, h2, he, hs, p' => by
    rw [List.nodup_cons] at nd
    obtain ⟨n1, nd⟩ := nd
    rw [List.nodup_append] at nd
    obtain ⟨nde, ndr, ndx⟩ := nd
    rw [List.map_cons, List.nodup_cons] at nd2
    unfold getA at h h2
    rw [List.map_cons]
    by_cases z : j = i
    · subst z
      rw [if_pos rfl] at h h2
      cases h; cases h2
      have hee := he _ q
      subst hee
      rw [if_pos rfl]
      have htl : (ts0.map fun p => if p.1 = j then (p.1, t') else p) = ts0 := by
        conv => rhs; rw [← List.map_id ts0]
        refine List.map_congr_left fun p hp => ?_
        rw [if_neg fun z => nd2.1 (List.mem_map.mpr ⟨p, hp, z⟩)]
        rfl
      rw [htl]
      refine .cons p' (r.frame hP fun n hn => hs n fun m => ?_)
      rcases List.mem_cons.mp m with z | z
      · exact n1 (by rw [← z]; exact List.mem_append_right _ hn)
      · exact ndx n z n hn rfl
    · rw [if_neg z] at h2
      rw [if_neg (fun e => z (by cases e; rfl))] at h
      rw [if_neg z]
      obtain ⟨_, h0⟩ | ⟨t1, c1, e1, g1, g2, g3, g4⟩ := r.get (i := i)
      · rw [h0] at h; cases h
      rw [g2] at h; cases h
      rw [g1] at h2; cases h2
      have hee := he _ g3
      subst hee
      refine .cons (hP _ _ _ _ _ _ (fun n hn => hs n fun m => ?_) q) (r.upd hP ndr nd2.2 g2 g1 he hs p')
      have hm := g4 n m
      rcases List.mem_cons.mp hn with z | z
      · exact n1 (by rw [← z]; exact List.mem_append_right _ hm)
      · exact ndx n z n hm rfl
end
end M3
/-! P1b: the program's land walked. -/
namespace KK
open PySem L2 M3
/-! ### records -/
def landFs (k t m d f a : D) : List (Str × D) := [("kinds_there", k), ("things", t), ("made_so_far", m), ("deeds_done", d), ("failing", f), ("asked", a)]
def thFs (i s n k t : D) : List (Str × D) := [("number", i), ("sort_of", s), ("numbers", n), ("key", k), ("times", t)]
section
variable (k t m d f a x i s n : D)
@[simp] theorem lf1 : getA (landFs k t m d f a) "kinds_there" = some k := rfl
@[simp] theorem lf2 : getA (landFs k t m d f a) "things" = some t := rfl
@[simp] theorem lf3 : getA (landFs k t m d f a) "made_so_far" = some m := rfl
@[simp] theorem lf4 : getA (landFs k t m d f a) "deeds_done" = some d := rfl
@[simp] theorem lf5 : getA (landFs k t m d f a) "failing" = some f := rfl
@[simp] theorem lf6 : getA (landFs k t m d f a) "asked" = some a := rfl
@[simp] theorem lp3 : putA (landFs k t m d f a) "made_so_far" x = landFs k t x d f a := rfl
@[simp] theorem lp4 : putA (landFs k t m d f a) "deeds_done" x = landFs k t m x f a := rfl
@[simp] theorem lp5 : putA (landFs k t m d f a) "failing" x = landFs k t m d x a := rfl
@[simp] theorem lp6 : putA (landFs k t m d f a) "asked" x = landFs k t m d f x := rfl
@[simp] theorem ln : (landFs k t m d f a).length = 6 := rfl
@[simp] theorem ln1 : getA (landFs k t m d f a) "check_kind" = none := rfl
@[simp] theorem ln2 : getA (landFs k t m d f a) "thing_of" = none := rfl
@[simp] theorem ln3 : getA (landFs k t m d f a) "next_word" = none := rfl
@[simp] theorem ln4 : getA (landFs k t m d f a) "ended" = none := rfl
@[simp] theorem ln5 : getA (landFs k t m d f a) "make" = none := rfl
@[simp] theorem ln6 : getA (landFs k t m d f a) "change" = none := rfl
@[simp] theorem ln7 : getA (landFs k t m d f a) "take" = none := rfl
@[simp] theorem ln8 : getA (landFs k t m d f a) "fails" = none := rfl
@[simp] theorem ln9 : getA (landFs k t m d f a) "ids" = none := rfl
@[simp] theorem ln10 : getA (landFs k t m d f a) "kind" = none := rfl
@[simp] theorem ln11 : getA (landFs k t m d f a) "fields" = none := rfl
@[simp] theorem ln12 : getA (landFs k t m d f a) "touched" = none := rfl
@[simp] theorem ln13 : getA (landFs k t m d f a) "made_by" = none := rfl
@[simp] theorem tf1 : getA (thFs i s n k t) "number" = some i := rfl
@[simp] theorem tf2 : getA (thFs i s n k t) "sort_of" = some s := rfl
@[simp] theorem tf3 : getA (thFs i s n k t) "numbers" = some n := rfl
@[simp] theorem tf4 : getA (thFs i s n k t) "key" = some k := rfl
@[simp] theorem tf5 : getA (thFs i s n k t) "times" = some t := rfl
@[simp] theorem tp3 : putA (thFs i s n k t) "numbers" x = thFs i s x k t := rfl
@[simp] theorem tp5 : putA (thFs i s n k t) "times" x = thFs i s n k x := rfl
@[simp] theorem ti0 : putA ([] : List (Str × D)) "number" i = [(("number" : Str), i)] := rfl
@[simp] theorem ti1 : putA [(("number" : Str), i)] "sort_of" s = [(("number" : Str), i), ("sort_of", s)] := rfl
@[simp] theorem ti2 : putA [(("number" : Str), i), ("sort_of", s)] "numbers" n = [(("number" : Str), i), ("sort_of", s), ("numbers", n)] := rfl
@[simp] theorem ti3 : putA [(("number" : Str), i), ("sort_of", s), ("numbers", n)] "key" k = [(("number" : Str), i), ("sort_of", s), ("numbers", n), ("key", k)] := rfl
@[simp] theorem ti4 : putA [(("number" : Str), i), ("sort_of", s), ("numbers", n), ("key", k)] "times" t = thFs i s n k t := rfl
@[simp] theorem li0 : putA ([] : List (Str × D)) "kinds_there" k = [(("kinds_there" : Str), k)] := rfl
@[simp] theorem li1 : putA [(("kinds_there" : Str), k)] "things" t = [(("kinds_there" : Str), k), ("things", t)] := rfl
@[simp] theorem li2 : putA [(("kinds_there" : Str), k), ("things", t)] "made_so_far" m = [(("kinds_there" : Str), k), ("things", t), ("made_so_far", m)] := rfl
@[simp] theorem li3 : putA [(("kinds_there" : Str), k), ("things", t), ("made_so_far", m)] "deeds_done" d = [(("kinds_there" : Str), k), ("things", t), ("made_so_far", m), ("deeds_done", d)] := rfl
@[simp] theorem li4 : putA [(("kinds_there" : Str), k), ("things", t), ("made_so_far", m), ("deeds_done", d)] "failing" f = [(("kinds_there" : Str), k), ("things", t), ("made_so_far", m), ("deeds_done", d), ("failing", f)] := rfl
@[simp] theorem li5 : putA [(("kinds_there" : Str), k), ("things", t), ("made_so_far", m), ("deeds_done", d), ("failing", f)] "asked" a = landFs k t m d f a := rfl
@[simp] theorem tn : (thFs i s n k t).length = 5 := rfl
end
def thO (i : Int) (t : Th) : Ob := .ins 14 (thFs (.int i) (.str t.kind) (.dic (numsD t.nums)) (keyV t.key) (.int t.tim))
def landO (A : LandA) (tc : Nat) : Ob := .ins 15 (landFs (.dic (kindsD A.kinds)) (.cell tc) (.int A.made) (.int A.done) (.dic (flD A.fl)) (.int A.asked))
def PT : PTh := fun S i t c e => e = [] ∧ S.cs c = some (thO i t)
theorem PT_local : Local PT := fun S S' i t c e h ⟨h1, h2⟩ => ⟨h1, by rw [h c List.mem_cons_self]; exact h2⟩
/-- what stands for a land: its object l, its table of things, these -/
structure RL (S : S3) (l : Nat) (A : LandA) (tc : Nat) (ks : List (Key × D)) (fp : List Nat) : Prop where
  lo : S.cs l = some (landO A tc)
  tb : S.cs tc = some (.dic ks)
  ts : RepTs PT S ks A.ts fp
  nd : (l :: tc :: fp).Nodup
  lt : ∀ n ∈ l :: tc :: fp, n < S.nx
  fr : ∀ n ∈ l :: tc :: fp, n ∉ S.lk
  lk : ∀ n ∈ S.lk, n < S.nx
/-- the same in another store -/
theorem RL.frame {S S' : S3} {l tc : Nat} {A : LandA} {ks : List (Key × D)} {fp : List Nat} (R : RL S l A tc ks fp) (hc : ∀ n ∈ l :: tc :: fp, S'.cs n = S.cs n) (hn : S.nx ≤ S'.nx) (hl : ∀ n ∈ l :: tc :: fp, n ∉ S'.lk) (hk : ∀ n ∈ S'.lk, n < S'.nx) : RL S' l A tc ks fp where
  lo := by rw [hc l List.mem_cons_self]; exact R.lo
  tb := by rw [hc tc (List.mem_cons_of_mem _ List.mem_cons_self)]; exact R.tb
  ts := R.ts.frame PT_local fun n hn => hc n (List.mem_cons_of_mem _ (List.mem_cons_of_mem _ hn))
  nd := R.nd
  lt := fun n hn' => Nat.lt_of_lt_of_le (R.lt n hn') hn
  fr := hl
  lk := hk
section
variable {S : S3} {l tc : Nat} {A : LandA} {ks : List (Key × D)} {fp : List Nat}
@[simp] theorem whole_int {i : Int} : m_is_whole [.int i] S = .ok (.bl true) S := by simp [m_is_whole, b_is_whole, isi_int_int, isi_bool_int]
theorem lo' (R : RL S l A tc ks fp) : S.cs l = some (.ins 15 (landFs (.dic (kindsD A.kinds)) (.cell tc) (.int A.made) (.int A.done) (.dic (flD A.fl)) (.int A.asked))) := R.lo
theorem thing_of_none (R : RL S l A tc ks fp) {i : Int} (h : getA A.ts i = none) : m_Land_thing_of [.cell l, .int i] S = .ex ⟨6, []⟩ S := by
  have h2 : getA ks (.inl i) = none := by
    rcases R.ts.get (i := i) with ⟨_, z⟩ | ⟨t, c, e, z, _⟩
    · exact z
    · rw [h] at z; cases z
  simp [m_Land_thing_of, b_Land_thing_of, lo' R, notIn_cellD R.tb, h2]
theorem thing_of_some (R : RL S l A tc ks fp) {i : Int} {c : Nat} (h : getA ks (.inl i) = some (.cell c)) : m_Land_thing_of [.cell l, .int i] S = .ok (.cell c) S := by
  simp [m_Land_thing_of, b_Land_thing_of, lo' R, notIn_cellD R.tb, idx_cellD R.tb, h]
theorem check_kind_ok (R : RL S l A tc ks fp) {k : Str} {f : List Str × List Str} (h : getA A.kinds k = some f) : m_Land_check_kind [.cell l, .str k] S = .ok .non S := by
  simp [m_Land_check_kind, b_Land_check_kind, lo' R, isi_str_str, getA_kindsD, h]
/-- how the asked deed ends -/
def setL (S : S3) (l : Nat) (A : LandA) (tc : Nat) : S3 := S.set l (landO A tc)
theorem RL.setL (R : RL S l A tc ks fp) {B : LandA} (hk : B.ts = A.ts) : RL (setL S l B tc) l B tc ks fp where
  lo := by simp [KK.setL]
  tb := by
    have h : tc ≠ l := fun e => by have := R.nd; rw [e] at this; simp at this
    simp [KK.setL, h, R.tb]
  ts := by
    rw [hk]
    refine R.ts.frame PT_local fun n hn => ?_
    have h : n ≠ l := fun e => by have := R.nd; rw [List.nodup_cons] at this; exact this.1 (by rw [← e]; exact List.mem_cons_of_mem _ hn)
    simp [KK.setL, h]
  nd := R.nd
  lt := R.lt
  fr := R.fr
  lk := R.lk
theorem RL.ne (R : RL S l A tc ks fp) : ¬ l = tc := fun e => by have := R.nd; rw [e] at this; simp at this
/-- land and table written anew -/
theorem RL.put {B : LandA} {ks' : List (Key × D)} {fp' : List Nat} (R : RL S l A tc ks fp) (h : RepTs PT S ks' B.ts fp') (hs : fp'.Sublist fp) : RL ((S.set tc (.dic ks')).set l (landO B tc)) l B tc ks' fp' where
  lo := by simp
  tb := by simp [Ne.symm R.ne]
  ts := by
    have nd := R.nd
    rw [List.nodup_cons, List.nodup_cons] at nd
    refine h.frame PT_local fun n hn => ?_
    have h1 : n ≠ l := fun e => nd.1 (by rw [← e]; exact List.mem_cons_of_mem _ (hs.subset hn))
    have h2 : n ≠ tc := fun e => nd.2.1 (by rw [← e]; exact hs.subset hn)
    simp [h1, h2]
  nd := R.nd.sublist ((hs.cons₂ _).cons₂ _)
  lt := fun n hn => R.lt n (((hs.cons₂ _).cons₂ _).subset hn)
  fr := fun n hn => R.fr n (((hs.cons₂ _).cons₂ _).subset hn)
  lk := R.lk
theorem set_fr (S : S3) (n : Nat) (o : Ob) (f : List Nat) (h : n ∈ f) : Fr S (S.set n o) f := ⟨rfl, Nat.le_refl _, fun m _ hf => by
  have h : m ≠ n := fun e => hf (by rw [e]; exact h)
  simp [h]⟩
theorem setL_fr (S : S3) (l : Nat) (B : LandA) (tc : Nat) {f : List Nat} : Fr S (KK.setL S l B tc) (l :: f) := ⟨rfl, Nat.le_refl _, fun n _ hf => by
  have h : n ≠ l := fun e => hf (by rw [e]; exact List.mem_cons_self)
  simp [KK.setL, h]⟩
theorem next_word_no (R : RL S l A tc ks fp) (h : getA A.fl A.asked = some ("no" : Str)) : m_Land_next_word [.cell l] S = .ex ⟨10, []⟩ (KK.setL S l (asked1 A) tc) := by
  simp [m_Land_next_word, b_Land_next_word, lo' R, getA_flD, h, KK.setL, landO, asked1]
def wordD : Option Str → D
  | none => .non
  | some s => .str s
theorem next_word_go (R : RL S l A tc ks fp) (h : getA A.fl A.asked ≠ some ("no" : Str)) : m_Land_next_word [.cell l] S = .ok (wordD (getA A.fl A.asked)) (KK.setL S l (asked1 A) tc) := by
  cases e : getA A.fl A.asked with
  | none => simp [m_Land_next_word, b_Land_next_word, lo' R, getA_flD, e, KK.setL, landO, asked1, wordD]
  | some s =>
    have hs : ¬ s = "no" := fun z => h (by rw [e, z])
    simp [m_Land_next_word, b_Land_next_word, lo' R, getA_flD, e, KK.setL, landO, asked1, wordD, hs]
theorem ended_ok {o : Option Str} (h : o ≠ some ("half" : Str)) : m_Land_ended [.cell l, wordD o] S = .ok .non S := by
  cases o with
  | none => simp [m_Land_ended, b_Land_ended, wordD]
  | some s =>
    have hs : ¬ s = "half" := fun z => h (by rw [z])
    simp [m_Land_ended, b_Land_ended, wordD, hs]
theorem ended_ex : m_Land_ended [.cell l, wordD (some ("half" : Str))] S = .ex ⟨10, []⟩ S := by simp [m_Land_ended, b_Land_ended, wordD]
/-! ### take -/
def outR (r : Res) (S : S3) : M3.R D := match r with
  | .non => .ok .non S
  | .id i => .ok (.int i) S
  | .thing => .ex ⟨6, []⟩ S
  | .fields => .ex ⟨3, []⟩ S
  | .failed => .ex ⟨10, []⟩ S
/-- what a deed leaves -/
def Left (S : S3) (l : Nat) (tc : Nat) (fp : List Nat) (B : LandA) (S' : S3) : Prop := ∃ ks' fp', RL S' l B tc ks' fp' ∧ Fr S S' (l :: tc :: fp) ∧ ∀ n ∈ fp', n ∈ fp ∨ S.nx ≤ n
theorem take_run (R : RL S l A tc ks fp) (i : Int) : ∃ S', m_Land_take [.cell l, .int i] S = outR (stepA A (.take i)).1 S' ∧ Left S l tc fp (stepA A (.take i)).2 S' := by
  unfold stepA
  rcases R.ts.get (i := i) with ⟨h1, h2⟩ | ⟨t, c, e, h1, h2, h3, h4⟩
  · refine ⟨S, ?_, ks, fp, by simpa [h1] using R, .refl _ _, fun n hn => .inl hn⟩
    simp [m_Land_take, b_Land_take, lo' R, thing_of_none R h1, h1, outR]
  · by_cases hno : getA A.fl A.asked = some ("no" : Str)
    · refine ⟨KK.setL S l (asked1 A) tc, ?_, ks, fp, by simpa [h1, failing_no hno] using R.setL (B := asked1 A) rfl, setL_fr _ _ _ _, fun n hn => .inl hn⟩
      simp [m_Land_take, b_Land_take, lo' R, thing_of_some R h2, next_word_no R hno, h1, failing_no hno, outR]
    · have R1 := R.setL (B := asked1 A) rfl
      obtain ⟨fp', q1, q2⟩ := R1.ts.drop i
      have fr1 := setL_fr S l (asked1 A) tc (f := tc :: fp)
      have hw := next_word_go R hno
      generalize KK.setL S l (asked1 A) tc = S1 at R1 q1 fr1 hw
      have hlt := R1.ne
      have htc := R1.fr tc (by simp)
      have hl0 := R1.fr l (by simp)
      let S2 := (S1.set tc (.dic (dropA ks (.inl i)))).set l (landO (doTake i (asked1 A)).2 tc)
      have R2 : RL S2 l (doTake i (asked1 A)).2 tc (dropA ks (.inl i)) fp' := R1.put q1 q2
      have F2 : Fr S S2 (l :: tc :: fp) := fr1.trans ((set_fr S1 tc _ (l :: tc :: fp) (by simp)).trans (set_fr _ l _ (l :: tc :: fp) (by simp)) fun n hn => .inl hn) fun n hn => .inl hn
      by_cases hh : getA A.fl A.asked = some ("half" : Str)
      · refine ⟨S2, ?_, dropA ks (.inl i), fp', by simpa [h1, failing_half hh] using R2, F2, fun n hn => .inl (q2.subset hn)⟩
        simp [m_Land_take, b_Land_take, lo' R, thing_of_some R h2, hw, lo' R1, R1.tb, h2, htc, hlt, ended_ex, hh, h1, failing_half hh, outR, S2, landO, doTake, asked1]
      · refine ⟨S2, ?_, dropA ks (.inl i), fp', by simpa [h1, failing_go hno hh] using R2, F2, fun n hn => .inl (q2.subset hn)⟩
        simp [m_Land_take, b_Land_take, lo' R, thing_of_some R h2, hw, lo' R1, R1.tb, h2, htc, hlt, ended_ok hh, h1, failing_go hno hh, outR, S2, landO, doTake, asked1]
/-! ### change -/
theorem keys_numsD (o : List (Str × Int)) : ((numsD o).map fun kd => keyD kd.1) = (o.map (·.1)).map .str := by
  unfold numsD
  rw [List.map_map, List.map_map]
  rfl
theorem numsD_len (o : List (Str × Int)) : (numsD o).length = o.length := List.length_map _
theorem lim5 {n : Nat} (h : n ≤ 1000) : n ≤ lim := Nat.le_trans h (by decide)
theorem chk_change {v0 v1' v3 : Option D} {w6 w7 : Option D} {o : List (Str × Int)} {fs fx : List Str} (ho : o.length ≤ 1000) (hk : (o.map (·.1)).Nodup) (S : S3) :
    lcM' [7] (anyS (xv 2)) (asgN 7) yesT (andM (b2 (xv 7) (xv 4) inO) (andM (b2 (xv 7) (xv 5) notInO) (callM (aCons (b2 (xv 2) (xv 7) idxO) aNil) m_is_whole []))) finT [v0, v1', some (.dic (numsD o)), v3, some (.lst (fs.map .str)), some (.lst (fx.map .str)), w6, w7] S =
      .ok (.lst (o.map (D.bl ∘ fun p => decide (p.1 ∈ fs) && !decide (p.1 ∈ fx)))) S := by
  have hw : Walks (anyS (xv 2)) [v0, v1', some (.dic (numsD o)), v3, some (.lst (fs.map .str)), some (.lst (fx.map .str)), w6, w7] S ((o.map (·.1)).map .str) := by
    have := walks_dicT (m := xv 2) (v := [v0, v1', some (.dic (numsD o)), v3, some (.lst (fs.map .str)), some (.lst (fx.map .str)), w6, w7]) (S := S) (ks := numsD o) (by simp)
    rwa [keys_numsD] at this
  rw [lc_all (g := fun d => match d with | .str z => decide (z ∈ fs) && !decide (z ∈ fx) | _ => false) hw (by simp; exact lim5 ho) fun S' h1 h2 h3 d hd => ?_]
  · simp [List.map_map]
  · obtain ⟨z, hz, rfl⟩ := List.mem_map.mp hd
    obtain ⟨p, hp, rfl⟩ := List.mem_map.mp hz
    have hg : getA o p.1 = some p.2 := getA_memS hk hp
    refine ⟨_, by simp [wipeD]; rfl, ?_⟩
    by_cases c1 : p.1 ∈ fs
    · by_cases c2 : p.1 ∈ fx
      · simp [in_strs, notIn_strs, c1, c2]
      · simp [in_strs, notIn_strs, c1, c2, getA_numsD, hg]
    · simp [in_strs, c1]
/-- the object of a thing written -/
theorem RL.thing (R : RL S l A tc ks fp) {B : LandA} {i : Int} {t t' : Th} {c : Nat} (h2 : getA ks (.inl i) = some (.cell c)) (h1 : getA A.ts i = some t) (hnd : (A.ts.map (·.1)).Nodup) (hc : c ∈ fp) (hB : B.ts = A.ts.map fun p => if p.1 = i then (p.1, t') else p) :
    RL ((S.set c (thO i t')).set l (landO B tc)) l B tc ks fp where
  lo := by simp
  tb := by
    have nd := R.nd
    rw [List.nodup_cons, List.nodup_cons] at nd
    have e1 : tc ≠ c := fun e => nd.2.1 (by rw [e]; exact hc)
    simp [Ne.symm R.ne, e1, R.tb]
  ts := by
    have nd := R.nd
    rw [List.nodup_cons, List.nodup_cons] at nd
    rw [hB]
    have e1 : c ≠ l := fun e => nd.1 (by rw [← e]; exact List.mem_cons_of_mem _ hc)
    refine (R.ts.upd (S' := (S.set c (thO i t'))) PT_local (e := []) nd.2.2 hnd h2 h1 (fun e0 h => h.1) (fun n hn => ?_) ⟨rfl, by simp⟩).frame PT_local fun n hn => ?_
    · have : n ≠ c := fun e => hn (by rw [e]; exact List.mem_cons_self)
      simp [this]
    · have : n ≠ l := fun e => nd.1 (by rw [← e]; exact List.mem_cons_of_mem _ hn)
      simp [this]
  nd := R.nd
  lt := R.lt
  fr := R.fr
  lk := R.lk
theorem setNums_nd {o nums : List (Str × Int)} : (setNums o nums).map (·.1) = nums.map (·.1) := by unfold setNums; rw [List.map_map]; rfl
/-- the numbers that a change leaves -/
theorem dc_change {v0 v1' : Option D} {w4 w5 w6 w7 : Option D} {o : List (Str × Int)} {c : Nat} {i : Int} {t : Th} (hn : t.nums.length ≤ 1000) (hnd : (t.nums.map (·.1)).Nodup) (S : S3) (hc : S.cs c = some (thO i t)) :
    dcM [7] (anyS (b1 (xv 3) (fldF [14] "numbers"))) (asgN 7) yesT (xv 7) (get2M (xv 2) (xv 7) (b2 (b1 (xv 3) (fldF [14] "numbers")) (xv 7) idxO)) finDT [v0, v1', some (.dic (numsD o)), some (.cell c), w4, w5, w6, w7] S =
      .ok (.dic (numsD (setNums o t.nums))) S := by
  have hc' : S.cs c = some (.ins 14 (thFs (.int i) (.str t.kind) (.dic (numsD t.nums)) (keyV t.key) (.int t.tim))) := hc
  have hw : Walks (anyS (b1 (xv 3) (fldF [14] "numbers"))) [v0, v1', some (.dic (numsD o)), some (.cell c), w4, w5, w6, w7] S ((t.nums.map (·.1)).map .str) := by
    have := walks_dicT (m := b1 (xv 3) (fldF [14] "numbers")) (v := [v0, v1', some (.dic (numsD o)), some (.cell c), w4, w5, w6, w7]) (S := S) (ks := numsD t.nums) (by simp [hc'])
    rwa [keys_numsD] at this
  rw [dc_pure (f := fun d => match d with | .str z => some (.inr z, .int ((getA o z).getD ((getA t.nums z).getD 0))) | _ => none) hw (by simp; exact lim5 hn) fun S' h1 h2 h3 d hd => ?_]
  · have e : (((t.nums.map (·.1)).map D.str).map fun d => match d with | .str z => some ((Sum.inr z : Key), D.int ((getA o z).getD ((getA t.nums z).getD 0))) | _ => none) = t.nums.map fun p => some ((Sum.inr p.1 : Key), D.int ((getA o p.1).getD ((getA t.nums p.1).getD 0))) := by simp [List.map_map]
    rw [e, foldl_put_nd [] (by simpa using nodup_inr hnd)]
    rw [finDT_ap, List.nil_append]
    congr 2
    unfold numsD setNums
    rw [List.map_map]
    refine List.map_congr_left fun p hp => ?_
    have : getA t.nums p.1 = some p.2 := getA_memS hnd hp
    simp [this]
  · obtain ⟨z, hz, rfl⟩ := List.mem_map.mp hd
    obtain ⟨p, hp, rfl⟩ := List.mem_map.mp hz
    have hg : getA t.nums p.1 = some p.2 := getA_memS hnd hp
    have hc2 : S'.cs c = some (.ins 14 (thFs (.int i) (.str t.kind) (.dic (numsD t.nums)) (keyV t.key) (.int t.tim))) := by rw [h1]; exact hc'
    refine ⟨_, by simp [wipeD]; rfl, rfl, by simp, ?_⟩
    simp [hc2, getA_numsD, hg]
theorem change_run (R : RL S l A tc ks fp) (W : WFA A) (i : Int) (o : List (Str × Int)) (ho : o ≠ []) (hol : o.length ≤ 1000) (hok : (o.map (·.1)).Nodup) : ∃ S', m_Land_change [.cell l, .int i, .dic (numsD o)] S = outR (stepA A (.change i o)).1 S' ∧ Left S l tc fp (stepA A (.change i o)).2 S' := by
  unfold stepA
  rcases R.ts.get (i := i) with ⟨h1, h2⟩ | ⟨t, c, e, h1, h2, h3, h4⟩
  · refine ⟨S, ?_, ks, fp, by simpa [h1] using R, .refl _ _, fun n hn => .inl hn⟩
    simp [m_Land_change, b_Land_change, lo' R, thing_of_none R h1, h1, outR]
  · obtain ⟨f, hf, hkn⟩ := W.kd i t (getA_some_mem h1)
    obtain ⟨fnd, fl5⟩ := W.kn _ _ hf
    have hc : S.cs c = some (.ins 14 (thFs (.int i) (.str t.kind) (.dic (numsD t.nums)) (keyV t.key) (.int t.tim))) := h3.2
    have he : e = [] := h3.1
    subst he
    have hcf : c ∈ fp := h4 c (by simp)
    have hoe : (numsD o).isEmpty = false := by cases o with | nil => exact absurd rfl ho | cons x r => rfl
    have a0 : atI [D.lst (f.1.map .str), D.lst (f.2.map .str)] 0 = some (D.lst (f.1.map .str)) := rfl
    have hck : changeOk A i o = o.all fun p => decide (p.1 ∈ f.1) && !decide (p.1 ∈ f.2) := by
      unfold changeOk kindAt
      rw [h1]
      simp [hf]
    by_cases hok2 : changeOk A i o = true
    · have hall : ∀ S, allF [.lst (o.map (D.bl ∘ fun p => decide (p.1 ∈ f.1) && !decide (p.1 ∈ f.2)))] S = some (.bl true, S) := fun S => by rw [all_bsc, ← hck, hok2]
      by_cases hno : getA A.fl A.asked = some ("no" : Str)
      · refine ⟨KK.setL S l (asked1 A) tc, ?_, ks, fp, by simpa [h1, failing_no hno, hok2] using R.setL (B := asked1 A) rfl, setL_fr _ _ _ _, fun n hn => .inl hn⟩
        simp [m_Land_change, b_Land_change, lo' R, thing_of_some R h2, hc, getA_kindsD, hf, kindV, isi_dict_dic, eq_dnil, hoe, chk_change hol hok, hall, next_word_no R hno, h1, failing_no hno, hok2, outR]
      · have R1 := R.setL (B := asked1 A) rfl
        have fr1 := setL_fr S l (asked1 A) tc (f := tc :: fp)
        have hw := next_word_go R hno
        have nd := R.nd
        rw [List.nodup_cons, List.nodup_cons] at nd
        have hcl : ¬ c = l := fun e => nd.1 (by rw [← e]; exact List.mem_cons_of_mem _ hcf)
        have hcl' : ¬ l = c := Ne.symm hcl
        have hc1 : (KK.setL S l (asked1 A) tc).cs c = some (thO i t) := by simp [KK.setL, hcl, h3.2]
        generalize KK.setL S l (asked1 A) tc = S1 at R1 fr1 hw hc1
        have hc2 : S1.cs c = some (.ins 14 (thFs (.int i) (.str t.kind) (.dic (numsD t.nums)) (keyV t.key) (.int t.tim))) := hc1
        let S2 := (S1.set c (thO i { t with nums := setNums o t.nums, tim := t.tim + 1 })).set l (landO (doChange i o (asked1 A)).2 tc)
        have R2 : RL S2 l (doChange i o (asked1 A)).2 tc ks fp := R1.thing (t := t) h2 h1 W.nd hcf (by
          show (A.ts.map _) = A.ts.map _
          refine List.map_congr_left fun p hp => ?_
          by_cases z : p.1 = i
          · have := getA_memS W.nd hp
            rw [z, h1] at this
            cases this
            simp only [if_pos z]
          · simp only [if_neg z])
        have F2 : Fr S S2 (l :: tc :: fp) := fr1.trans ((set_fr S1 c _ (l :: tc :: fp) (by simp [hcf])).trans (set_fr _ l _ (l :: tc :: fp) (by simp)) fun n hn => .inl hn) fun n hn => .inl hn
        have tl : t.nums.length ≤ 1000 := by
          have e : t.nums.length = f.1.length := by rw [← hkn, List.length_map]
          omega
        have tnd : (t.nums.map (·.1)).Nodup := by rw [hkn]; exact fnd
        by_cases hh : getA A.fl A.asked = some ("half" : Str)
        · refine ⟨S2, ?_, ks, fp, by simpa [h1, hok2, failing_half hh] using R2, F2, fun n hn => .inl hn⟩
          simp [m_Land_change, b_Land_change, lo' R, thing_of_some R h2, hc, getA_kindsD, hf, kindV, isi_dict_dic, eq_dnil, hoe, chk_change hol hok, hall, hw, lo' R1, dc_change tl tnd S1 hc1, hc2, hcl, hcl', ended_ex, hh, h1, failing_half hh, hok2, outR, S2, landO, thO, doChange, asked1]
        · refine ⟨S2, ?_, ks, fp, by simpa [h1, hok2, failing_go hno hh] using R2, F2, fun n hn => .inl hn⟩
          simp [m_Land_change, b_Land_change, lo' R, thing_of_some R h2, hc, getA_kindsD, hf, kindV, isi_dict_dic, eq_dnil, hoe, chk_change hol hok, hall, hw, lo' R1, dc_change tl tnd S1 hc1, hc2, hcl, hcl', ended_ok hh, h1, failing_go hno hh, hok2, outR, S2, landO, thO, doChange, asked1]
    · have hall : ∀ S, allF [.lst (o.map (D.bl ∘ fun p => decide (p.1 ∈ f.1) && !decide (p.1 ∈ f.2)))] S = some (.bl false, S) := fun S => by rw [all_bsc, ← hck, Bool.eq_false_iff.mpr hok2]
      refine ⟨S, ?_, ks, fp, by simpa [h1, hok2] using R, .refl _ _, fun n hn => .inl hn⟩
      simp [m_Land_change, b_Land_change, lo' R, thing_of_some R h2, hc, getA_kindsD, hf, kindV, isi_dict_dic, eq_dnil, hoe, chk_change hol hok, hall, h1, hok2, outR]
end
end KK
/-! P1c: the program's land walked: make, fails, looks. -/
namespace KK
open PySem L2 M3
section
variable {S : S3} {l tc : Nat} {A : LandA} {ks : List (Key × D)} {fp : List Nat}
theorem thing_init {S : S3} {i : Int} {k : Str} {nums : List (Str × Int)} {key : Option Str} : m_Thing_init [.cell S.nx, .int i, .str k, .dic (numsD nums), keyV key] (S.new (.ins 14 [])) = .ok .non (S.new (thO i ⟨k, nums, key, 1⟩)) := by
  simp [m_Thing_init, b_Thing_init, thO]
theorem ended_ex' {S : S3} {l : Nat} {o : Option Str} (h : o = some ("half" : Str)) : m_Land_ended [.cell l, wordD o] S = .ex ⟨10, []⟩ S := by rw [h]; exact ended_ex
/-- the cells of the things under a key -/
def hitF (S : S3) (key : Option Str) (d : D) : Option D := match d with
  | .cell c => (match S.cs c with
    | some (.ins 14 fs) => (match key, getA fs "key" with
      | some k, some (.str j) => if j = k then some (.cell c) else none
      | _, _ => none)
    | _ => none)
  | _ => none
theorem hitF_at {S : S3} {key : Option Str} {c : Nat} {i : Int} {t : Th} (h : S.cs c = some (thO i t)) : hitF S key (.cell c) = if keyHit key t then some (.cell c) else none := by
  unfold hitF
  simp only [h, thO]
  cases key with
  | none => simp [keyHit]
  | some k =>
    rw [tf4]
    cases e : t.key with
    | none => simp [keyV, keyHit, e]
    | some j => simp [keyV, keyHit, e]
theorem hits {key : Option Str} : ∀ {ks : List (Key × D)} {ts : List (Int × Th)} {fp : List Nat}, RepTs PT S ks ts fp →
    ((ts.find? fun p => keyHit key p.2) = none ∧ ((ks.map (·.2)).filterMap (hitF S key)) = []) ∨ ∃ i t c r, (ts.find? fun p => keyHit key p.2) = some (i, t) ∧ ((ks.map (·.2)).filterMap (hitF S key)) = .cell c :: r ∧ S.cs c = some (thO i t)
  | _, _, _, .nil => .inl ⟨rfl, rfl⟩
  | _, _, _, .cons (i := i) (t := t) (c := c) (ks := kk) p r => by
    have h := hitF_at (key := key) p.2
    by_cases hk : keyHit key t = true
    · refine .inr ⟨i, t, c, (kk.map (·.2)).filterMap (hitF S key), ?_, ?_, p.2⟩
      · rw [List.find?_cons]; simp [hk]
      · rw [List.map_cons, List.filterMap_cons, h, if_pos hk]
    · rw [List.map_cons, List.filterMap_cons, h, if_neg hk, List.find?_cons]
      simp only [hk]
      exact hits r
theorem lc_hits (key : Option Str) {v0 v1 v2 v4 v5 v6 v7 v8 : Option D} {ks : List (Key × D)} {ts : List (Int × Th)} {fp : List Nat} {k m d f a : D} (r : RepTs PT S ks ts fp) (hl : ks.length ≤ lim) (h0 : S.cs l = some (.ins 15 (landFs k (.cell tc) m d f a))) (ht : S.cs tc = some (.dic ks)) :
    lcM' [8] (valS (b1 (xv 0) (fldF [15] "things"))) (asgN 8) (andM (b2 (xv 3) (xc .non) isNotF2) (b2 (b1 (xv 8) (fldF [14] "key")) (xv 3) eqO)) (xv 8) finT [some (.cell l), v1, v2, some (keyV key), v4, v5, v6, v7, v8] S = .ok (.lst ((ks.map (·.2)).filterMap (hitF S key))) S := by
  have hw : Walks (valS (b1 (xv 0) (fldF [15] "things"))) [some (.cell l), v1, v2, some (keyV key), v4, v5, v6, v7, v8] S (ks.map fun kd => kd.2) := walks_valC (by simp [h0]) ht
  rw [lc_pure (f := hitF S key) hw (by simpa using hl) fun S' h1 h2 h3 dd hd => ?_]
  · rfl
  · have all : ∀ {ks : List (Key × D)} {ts : List (Int × Th)} {fp : List Nat}, RepTs PT S ks ts fp → ∀ d ∈ ks.map (·.2), ∃ c i t, d = .cell c ∧ S.cs c = some (thO i t) := by
      intro ks ts fp r
      induction r with
      | nil => intro d hd; simp at hd
      | cons p _ ih =>
        intro d hd
        rcases List.mem_cons.mp hd with e | e
        · exact ⟨_, _, _, e, p.2⟩
        · exact ih d e
    obtain ⟨c, i, t, rfl, hc⟩ := all r dd hd
    rw [hitF_at hc]
    have hc' : S'.cs c = some (.ins 14 (thFs (.int i) (.str t.kind) (.dic (numsD t.nums)) (keyV t.key) (.int t.tim))) := by rw [h1]; exact hc
    refine ⟨_, by simp [wipeD]; rfl, ?_⟩
    cases key with
    | none => simp [keyHit, keyV]
    | some k =>
      cases e : t.key with
      | none => simp [keyHit, keyV, e, hc']
      | some j =>
        by_cases hj : j = k
        · simp [keyHit, keyV, e, hc', hj]
        · simp [keyHit, keyV, e, hc', hj]
theorem chk_make {v0 v1 v3 v5 v6 v7 v8 : Option D} {nums : List (Str × Int)} {fs : List Str} (hn : nums.map (·.1) = fs) (hfl : fs.length ≤ 1000) (hnd : fs.Nodup) (S : S3) :
    lcM' [7] (anyS (xv 4)) (asgN 7) yesT (andM (b2 (xv 7) (xv 2) inO) (callM (aCons (b2 (xv 2) (xv 7) idxO) aNil) m_is_whole [])) finT [v0, v1, some (.dic (numsD nums)), v3, some (.lst (fs.map .str)), v5, v6, v7, v8] S = .ok (.lst (fs.map (D.bl ∘ fun _ => true))) S := by
  have hw : Walks (anyS (xv 4)) [v0, v1, some (.dic (numsD nums)), v3, some (.lst (fs.map .str)), v5, v6, v7, v8] S (fs.map .str) := walks_lst (by simp)
  rw [lc_all (g := fun _ => true) hw (by simp; exact lim5 hfl) fun S' h1 h2 h3 d hd => ?_]
  · simp [List.map_map]
  · obtain ⟨z, hz, rfl⟩ := List.mem_map.mp hd
    subst hn
    obtain ⟨p, hp, rfl⟩ := List.mem_map.mp hz
    have hg : getA nums p.1 = some p.2 := getA_memS hnd hp
    refine ⟨_, by simp [wipeD]; rfl, ?_⟩
    simp [getA_numsD, hg]
/-- a thing more -/
theorem RL.more (R : RL S l A tc ks fp) (W : WFA A) {B : LandA} {t : Th} (hB : B.ts = A.ts ++ [(A.made, t)]) : RL (((S.new (thO A.made t)).set tc (.dic (putA ks (.inl A.made) (.cell S.nx)))).set l (landO B tc)) l B tc (putA ks (.inl A.made) (.cell S.nx)) (fp ++ [S.nx]) := by
  have nd := R.nd
  rw [List.nodup_cons, List.nodup_cons] at nd
  have l0 := R.lt l (by simp)
  have l1 := R.lt tc (by simp)
  have l2 : ∀ n ∈ fp, n < S.nx := fun n hn => R.lt n (by simp [hn])
  have nl : ¬ l = S.nx := by omega
  have ntc : ¬ tc = S.nx := by omega
  have nfp : S.nx ∉ fp := fun h => by have := l2 _ h; omega
  have hno : getA ks (.inl A.made) = none := by
    have h0 : getA A.ts A.made = none := getA_none.mpr fun m => by
      obtain ⟨p, hp, e⟩ := List.mem_map.mp m
      have := W.lt p hp
      omega
    rcases R.ts.get (i := A.made) with ⟨_, z⟩ | ⟨t, c, e, z, _⟩
    · exact z
    · rw [h0] at z; cases z
  refine ⟨by simp, by simp [Ne.symm R.ne], ?_, ?_, ?_, ?_, ?_⟩
  · rw [hB]
    refine RepTs.snoc (e := []) ⟨rfl, ?_⟩ (R.ts.frame PT_local fun n hn => ?_) hno
    rotate_left
    · simp [Ne.symm nl, Ne.symm ntc]
    · have h1 : n ≠ l := fun e => nd.1 (by rw [← e]; exact List.mem_cons_of_mem _ hn)
      have h2 : n ≠ tc := fun e => nd.2.1 (by rw [← e]; exact hn)
      have h3 : n ≠ S.nx := fun e => nfp (by rw [← e]; exact hn)
      simp [h1, h2, h3]
  · have : (l :: tc :: (fp ++ [S.nx])) = (l :: tc :: fp) ++ [S.nx] := rfl
    rw [this, List.nodup_append]
    refine ⟨R.nd, by simp, fun a ha b hb e => ?_⟩
    have hb : b = S.nx := by simpa using hb
    have := R.lt a ha
    omega
  · intro n hn
    have : n ∈ (l :: tc :: fp) ++ [S.nx] := hn
    rcases List.mem_append.mp this with z | z
    · have := R.lt n z
      simp
      omega
    · have : n = S.nx := by simpa using z
      simp
      omega
  · intro n hn
    have : n ∈ (l :: tc :: fp) ++ [S.nx] := hn
    rcases List.mem_append.mp this with z | z
    · exact R.fr n z
    · have e : n = S.nx := by simpa using z
      intro m
      have := R.lk n m
      omega
  · exact fun n hn => by
      have := R.lk n hn
      simp
      omega
@[simp high] theorem chk_key {S : S3} {key : Option Str} {v0 v1 v2 v4 v5 v6 v7 v8 : Option D} : (andM (b2 (xv 3) (xc .non) isNotF2) (notM (b1 (xv 3) (isiF "str")))) [v0, v1, v2, some (keyV key), v4, v5, v6, v7, v8] S = .ok (.bl false) S := by
  cases key with
  | none => simp [keyV]
  | some z => simp [keyV, isi_str_str]
theorem new_fr (S : S3) (o : Ob) (f : List Nat) : Fr S (S.new o) f := ⟨rfl, Nat.le_succ _, fun n hn _ => by
  have : ¬ n = S.nx := by omega
  simp [this]⟩
theorem make_run (R : RL S l A tc ks fp) (W : WFA A) {k : Str} {nums : List (Str × Int)} {key : Option Str} {f : List Str × List Str} (hk : getA A.kinds k = some f) (hn : nums.map (·.1) = f.1) (hlen : A.ts.length < 1000) :
    ∃ S', m_Land_make [.cell l, .str k, .dic (numsD nums), keyV key] S = outR (stepA A (.make k nums key)).1 S' ∧ Left S l tc fp (stepA A (.make k nums key)).2 S' := by
  obtain ⟨fnd, fl5⟩ := W.kn _ _ hk
  have hl1 : nums.length = f.1.length := by rw [← hn, List.length_map]
  have hall : ∀ S : S3, allF [.lst (f.1.map (D.bl ∘ fun _ => true))] S = some (.bl true, S) := fun S => by
    rw [all_bsc]
    have : (f.1.all fun _ => true) = true := by simp
    rw [this]
  have hkl : ks.length ≤ lim := by rw [R.ts.len]; exact lim5 (by omega)
  have hkl2 : ks.length < lim := by rw [R.ts.len]; exact Nat.lt_of_lt_of_le hlen (by decide)
  unfold stepA
  by_cases hno : getA A.fl A.asked = some ("no" : Str)
  · refine ⟨KK.setL S l (asked1 A) tc, ?_, ks, fp, by simpa [failing_no hno] using R.setL (B := asked1 A) rfl, setL_fr _ _ _ _, fun n hn => .inl hn⟩
    simp [m_Land_make, b_Land_make, lo' R, check_kind_ok R hk, getA_kindsD, hk, kindV, isi_dict_dic, numsD_len, hl1, chk_make hn (show f.1.length ≤ 1000 by omega) fnd, hall, next_word_no R hno, failing_no hno, outR]
  · have R1 := R.setL (B := asked1 A) rfl
    have W1 : WFA (asked1 A) := ⟨W.kd, W.lt, W.nd, W.kn⟩
    have fr1 := setL_fr S l (asked1 A) tc (f := tc :: fp)
    have hw := next_word_go R hno
    have hnx : S.nx ≤ (KK.setL S l (asked1 A) tc).nx := Nat.le_refl _
    generalize KK.setL S l (asked1 A) tc = S1 at R1 fr1 hw hnx
    have hits1 := lc_hits key (v0 := none) (v1 := some (.str k)) (v2 := some (.dic (numsD nums))) (v4 := some (.lst (f.1.map .str))) (v5 := some (wordD (getA A.fl A.asked))) (v6 := none) (v7 := none) (v8 := none) R1.ts hkl (lo' R1) R1.tb
    have hl0 : l < S1.nx := R1.lt l (by simp)
    have ht0 : tc < S1.nx := R1.lt tc (by simp)
    have hne := R1.ne
    rcases hits (key := key) R1.ts with ⟨q1, q2⟩ | ⟨i, t, c, r, q1, q2, q3⟩
    · rw [q2] at hits1
      have q1' : (A.ts.find? fun p => keyHit key p.2) = none := q1
      have hd := doMake_none (k := k) (n := nums) (A := asked1 A) q1
      let B := (doMake k nums key (asked1 A)).2
      have hB : B = { asked1 A with ts := A.ts ++ [(A.made, ⟨k, nums, key, 1⟩)], made := A.made + 1, done := A.done + 1 } := congrArg (·.2) hd
      have hr : (doMake k nums key (asked1 A)).1 = .id A.made := congrArg (·.1) hd
      let S2 := ((S1.new (thO A.made ⟨k, nums, key, 1⟩)).set tc (.dic (putA ks (.inl A.made) (.cell S1.nx)))).set l (landO B tc)
      have R2 : RL S2 l B tc (putA ks (.inl A.made) (.cell S1.nx)) (fp ++ [S1.nx]) := R1.more W1 (by rw [hB]; rfl)
      have F2 : Fr S S2 (l :: tc :: fp) := fr1.trans ((new_fr S1 _ (l :: tc :: fp)).trans ((set_fr _ tc _ (l :: tc :: fp) (by simp)).trans (set_fr _ l _ (l :: tc :: fp) (by simp)) fun n hn => .inl hn) fun n hn => .inl hn) fun n hn => .inl hn
      have sub : ∀ n ∈ fp ++ [S1.nx], n ∈ fp ∨ S.nx ≤ n := fun n hn => by
        rcases List.mem_append.mp hn with z | z
        · exact .inl z
        · have : n = S1.nx := by simpa using z
          exact .inr (by omega)
      have n1 : ¬ l = S1.nx := by omega
      have n2 : ¬ tc = S1.nx := by omega
      have n3 : ¬ S1.nx = l := by omega
      have n4 : ¬ S1.nx = tc := by omega
      have a0 : atI [D.cell S1.nx] 0 = some (.cell S1.nx) := rfl
      have htl : tc ∉ S1.lk := R1.fr tc (by simp)
      have hB2 : landO B tc = .ins 15 (landFs (.dic (kindsD A.kinds)) (.cell tc) (.int (A.made + 1)) (.int (A.done + 1)) (.dic (flD A.fl)) (.int (A.asked + 1))) := by rw [hB]; rfl
      have hS2 : S2 = (((S1.new (thO A.made ⟨k, nums, key, 1⟩)).set tc (.dic (putA ks (.inl A.made) (.cell S1.nx)))).set l (.ins 15 (landFs (.dic (kindsD A.kinds)) (.cell tc) (.int (A.made + 1)) (.int (A.done + 1)) (.dic (flD A.fl)) (.int (A.asked + 1))))) := by rw [← hB2]
      by_cases hh : getA A.fl A.asked = some ("half" : Str)
      · refine ⟨S2, ?_, _, _, by simpa [failing_half hh] using R2, F2, sub⟩
        simp [m_Land_make, b_Land_make, lo' R, check_kind_ok R hk, getA_kindsD, hk, kindV, isi_dict_dic, numsD_len, hl1, chk_make hn (show f.1.length ≤ 1000 by omega) fnd, hall, hw, hits1, eq_nil, lo' R1, thing_init, asked1, n1, n2, n3, n4, R1.tb, putM, htl, hkl2, Ne.symm hne, hne, hS2, ended_ex' hh, failing_half hh, outR]
      · refine ⟨S2, ?_, _, _, by simpa [failing_go hno hh] using R2, F2, sub⟩
        simp [m_Land_make, b_Land_make, lo' R, check_kind_ok R hk, getA_kindsD, hk, kindV, isi_dict_dic, numsD_len, hl1, chk_make hn (show f.1.length ≤ 1000 by omega) fnd, hall, hw, hits1, eq_nil, lo' R1, thing_init, asked1, n1, n2, n3, n4, R1.tb, putM, htl, hkl2, Ne.symm hne, hne, hS2, ended_ok hh, failing_go hno hh, outR, thO]
        have hr' := hr
        simp [asked1] at hr'
        simp [hr']
    · rw [q2] at hits1
      have hd := doMake_some (k := k) (n := nums) (A := asked1 A) q1
      have q3' : S1.cs c = some (.ins 14 (thFs (.int i) (.str t.kind) (.dic (numsD t.nums)) (keyV t.key) (.int t.tim))) := q3
      have hB : (doMake k nums key (asked1 A)).2 = asked1 A := congrArg (·.2) hd
      have hr : (doMake k nums key (asked1 A)).1 = .id i := congrArg (·.1) hd
      by_cases hh : getA A.fl A.asked = some ("half" : Str)
      · refine ⟨S1, ?_, ks, fp, by simpa [failing_half hh, hB] using R1, fr1, fun n hn => .inl hn⟩
        simp [m_Land_make, b_Land_make, lo' R, check_kind_ok R hk, getA_kindsD, hk, kindV, isi_dict_dic, numsD_len, hl1, chk_make hn (show f.1.length ≤ 1000 by omega) fnd, hall, hw, hits1, eq_nil, lo' R1, ended_ex' hh, failing_half hh, outR]
      · refine ⟨S1, ?_, ks, fp, by simpa [failing_go hno hh, hB] using R1, fr1, fun n hn => .inl hn⟩
        simp [m_Land_make, b_Land_make, lo' R, check_kind_ok R hk, getA_kindsD, hk, kindV, isi_dict_dic, numsD_len, hl1, chk_make hn (show f.1.length ≤ 1000 by omega) fnd, hall, hw, hits1, eq_nil, lo' R1, ended_ok hh, failing_go hno hh, outR, q3', hr]
end
end KK
/-! P1d: the program's land walked: fails, looks, the land made. -/
namespace KK
open PySem L2 M3
section
variable {S : S3} {l tc : Nat} {A : LandA} {ks : List (Key × D)} {fp : List Nat}
/-! ### fails -/
theorem keys_flD (o : List (Int × Str)) : ((flD o).map fun kd => keyD kd.1) = (o.map (·.1)).map .int := by
  unfold flD
  rw [List.map_map, List.map_map]
  rfl
theorem vals_flD (o : List (Int × Str)) : ((flD o).map fun kd => kd.2) = (o.map (·.2)).map .str := by
  unfold flD
  rw [List.map_map, List.map_map]
  rfl
theorem fails_run (R : RL S l A tc ks fp) {c : List (Int × Str)} (hl : c.length ≤ 1000) (h0 : ∀ p ∈ c, 0 ≤ p.1 ∧ (p.2 = "no" ∨ p.2 = "half")) :
    ∃ S', m_Land_fails [.cell l, .dic (flD c)] S = .ok .non S' ∧ Left S l tc fp (stepA A (.fails c)).2 S' := by
  have c1 : ∀ (v0 v2 v3 : Option D) (S : S3), lcM' [2] (anyS (xv 1)) (asgN 2) yesT (andM (callM (aCons (xv 2) aNil) m_is_whole []) (b2 (xv 2) (xc (.int 0)) geF)) finT [v0, some (.dic (flD c)), v2, v3] S = .ok (.lst (c.map (D.bl ∘ fun _ => true))) S := by
    intro v0 v2 v3 S
    have hw : Walks (anyS (xv 1)) [v0, some (.dic (flD c)), v2, v3] S ((c.map (·.1)).map .int) := by
      have := walks_dicT (m := xv 1) (v := [v0, some (.dic (flD c)), v2, v3]) (S := S) (ks := flD c) (by simp)
      rwa [keys_flD] at this
    rw [lc_all (g := fun _ => true) hw (by simp; exact lim5 hl) fun S' h1 h2 h3 d hd => ?_]
    · simp [List.map_map]
    · obtain ⟨z, hz, rfl⟩ := List.mem_map.mp hd
      obtain ⟨p, hp, rfl⟩ := List.mem_map.mp hz
      refine ⟨_, by simp [wipeD]; rfl, ?_⟩
      simp [(h0 p hp).1]
  have c2 : ∀ (v0 v2 v3 : Option D) (S : S3), lcM' [3] (valS (xv 1)) (asgN 3) yesT (andM (b1 (xv 3) (isiF "str")) (b2 (xv 3) (tupM (aCons (xc (.str "no")) (aCons (xc (.str "half")) aNil))) inO)) finT [v0, some (.dic (flD c)), v2, v3] S = .ok (.lst (c.map (D.bl ∘ fun _ => true))) S := by
    intro v0 v2 v3 S
    have hw : Walks (valS (xv 1)) [v0, some (.dic (flD c)), v2, v3] S ((c.map (·.2)).map .str) := by
      have := walks_valT (m := xv 1) (v := [v0, some (.dic (flD c)), v2, v3]) (S := S) (ks := flD c) (by simp)
      rwa [vals_flD] at this
    rw [lc_all (g := fun _ => true) hw (by simp; exact lim5 hl) fun S' h1 h2 h3 d hd => ?_]
    · simp [List.map_map]
    · obtain ⟨z, hz, rfl⟩ := List.mem_map.mp hd
      obtain ⟨p, hp, rfl⟩ := List.mem_map.mp hz
      refine ⟨_, by simp [wipeD]; rfl, ?_⟩
      have hi : inO (.str p.2) (.tup [.str "no", .str "half"]) S' = some (.bl true, S') := by
        have := memD_strs (z := p.2) ["no", "half"]
        unfold inO inB
        simp at this
        simp [this, (h0 p hp).2]
      simp [isi_str_str, hi]
  have hall : ∀ (α : Type) (xs : List α) (S : S3), allF [.lst (xs.map (D.bl ∘ fun _ => true))] S = some (.bl true, S) := fun α xs S => by
    rw [all_bsc]
    have : (xs.all fun _ => true) = true := by simp
    rw [this]
  refine ⟨KK.setL S l { A with fl := c, asked := 0 } tc, ?_, ks, fp, R.setL rfl, setL_fr _ _ _ _, fun n hn => .inl hn⟩
  have hall' := hall _ c
  simp [m_Land_fails, b_Land_fails, lo' R, isi_dict_dic, c1, c2, hall', KK.setL, landO]
/-! ### looks -/
theorem kind_run (R : RL S l A tc ks fp) {i : Int} {t : Th} (h : getA A.ts i = some t) : m_Land_kind [.cell l, .int i] S = .ok (.str t.kind) S := by
  rcases R.ts.get (i := i) with ⟨h1, _⟩ | ⟨t', c, e, h1, h2, h3, _⟩
  · rw [h] at h1; cases h1
  · rw [h] at h1; cases h1
    have hc : S.cs c = some (.ins 14 (thFs (.int i) (.str t.kind) (.dic (numsD t.nums)) (keyV t.key) (.int t.tim))) := h3.2
    simp [m_Land_kind, b_Land_kind, lo' R, thing_of_some R h2, hc]
theorem touched_run (R : RL S l A tc ks fp) {i : Int} {t : Th} (h : getA A.ts i = some t) : m_Land_touched [.cell l, .int i] S = .ok (.int t.tim) S := by
  rcases R.ts.get (i := i) with ⟨h1, _⟩ | ⟨t', c, e, h1, h2, h3, _⟩
  · rw [h] at h1; cases h1
  · rw [h] at h1; cases h1
    have hc : S.cs c = some (.ins 14 (thFs (.int i) (.str t.kind) (.dic (numsD t.nums)) (keyV t.key) (.int t.tim))) := h3.2
    simp [m_Land_touched, b_Land_touched, lo' R, thing_of_some R h2, hc]
theorem fields_run (R : RL S l A tc ks fp) (W : WFA A) {i : Int} {t : Th} (h : getA A.ts i = some t) : m_Land_fields [.cell l, .int i] S = .ok (.cell S.nx) (S.new (.dic (numsD t.nums))) := by
  rcases R.ts.get (i := i) with ⟨h1, _⟩ | ⟨t', c, e, h1, h2, h3, _⟩
  · rw [h] at h1; cases h1
  · rw [h] at h1; cases h1
    obtain ⟨f, hf, hkn⟩ := W.kd i t (getA_some_mem h)
    obtain ⟨fnd, fl5⟩ := W.kn _ _ hf
    have hc : S.cs c = some (.ins 14 (thFs (.int i) (.str t.kind) (.dic (numsD t.nums)) (keyV t.key) (.int t.tim))) := h3.2
    have tnd : (t.nums.map (·.1)).Nodup := by rw [hkn]; exact fnd
    have hd : dcM [3] (anyS (b2 (b2 (b1 (xv 0) (fldF [15] "kinds_there")) (b1 (xv 2) (fldF [14] "sort_of")) idxO) (xc (.int 0)) idxO)) (asgN 3) yesT (xv 3) (b2 (b1 (xv 2) (fldF [14] "numbers")) (xv 3) idxO) finDC [some (.cell l), some (.int i), some (.cell c), none] S = .ok (.cell S.nx) (S.new (.dic (numsD t.nums))) := by
      have hw : Walks (anyS (b2 (b2 (b1 (xv 0) (fldF [15] "kinds_there")) (b1 (xv 2) (fldF [14] "sort_of")) idxO) (xc (.int 0)) idxO)) [some (.cell l), some (.int i), some (.cell c), none] S (f.1.map .str) := walks_lst (by simp [lo' R, hc, getA_kindsD, hf, kindV])
      rw [dc_pure (f := fun d => match d with | .str z => some (.inr z, .int ((getA t.nums z).getD 0)) | _ => none) hw (by simp; exact lim5 (by omega)) fun S' h1 h2 h3 d hd => ?_]
      · have e : ((f.1.map D.str).map fun d => match d with | .str z => some ((Sum.inr z : Key), D.int ((getA t.nums z).getD 0)) | _ => none) = t.nums.map fun p => some ((Sum.inr p.1 : Key), D.int ((getA t.nums p.1).getD 0)) := by
          rw [← hkn]; simp [List.map_map]
        rw [e, foldl_put_nd [] (by simpa using nodup_inr tnd), finDC_ap, List.nil_append]
        have e2 : (t.nums.map fun p => ((Sum.inr p.1 : Key), D.int ((getA t.nums p.1).getD 0))) = numsD t.nums := by
         unfold numsD
         refine List.map_congr_left fun p hp => ?_
         have : getA t.nums p.1 = some p.2 := getA_memS tnd hp
         simp [this]
        rw [e2]
      · obtain ⟨z, hz, rfl⟩ := List.mem_map.mp hd
        rw [← hkn] at hz
        obtain ⟨p, hp, rfl⟩ := List.mem_map.mp hz
        have hg : getA t.nums p.1 = some p.2 := getA_memS tnd hp
        have hc2 : S'.cs c = some (.ins 14 (thFs (.int i) (.str t.kind) (.dic (numsD t.nums)) (keyV t.key) (.int t.tim))) := by rw [h1]; exact hc
        refine ⟨_, by simp [wipeD]; rfl, rfl, by simp, ?_⟩
        simp [hc2, getA_numsD, hg]
    simp [m_Land_fields, b_Land_fields, thing_of_some R h2, lo' R, hd]
theorem intsOf_map : ∀ l : List Int, intsOf (l.map .int) = some l
  | [] => rfl
  | i :: r => by
    show (intsOf (r.map .int)).map (i :: ·) = _
    rw [intsOf_map r]
    rfl
theorem sort_ints {l : List Int} : sortF [.lst (l.map .int)] S = some (.lst ((srtB leI l).map .int), S) := by
  unfold sortF sortD
  simp [intsOf_map]
theorem sortC_ints {l : List Int} : sortC [.lst (l.map .int)] S = some (.cell S.nx, S.new (.lst ((srtB leI l).map .int))) := by
  unfold sortC sortD
  simp [intsOf_map]
theorem ids_run (R : RL S l A tc ks fp) : m_Land_ids [.cell l] S = .ok (.cell S.nx) (S.new (.lst ((srtB leI (A.ts.map (·.1))).map .int))) := by
  have hk : (ks.map fun kd => keyD kd.1) = (A.ts.map (·.1)).map .int := by rw [R.ts.keys, List.map_map]; rfl
  have h1 : listF [.cell tc] S = some (.lst ((A.ts.map (·.1)).map .int), S) := by rw [list_cellD R.tb, hk]
  have h2 := sortC_ints (S := S) (l := A.ts.map (·.1))
  simp [m_Land_ids, b_Land_ids, lo' R, h1, h2, -List.map_map]
/-- the first thing under a key -/
theorem made_by_run (R : RL S l A tc ks fp) {k : Str} : m_Land_made_by [.cell l, .str k] S = .ok (match A.ts.find? fun p => keyHit (some k) p.2 with | some p => .int p.1 | none => .non) S := by
  have loop : ∀ {ks : List (Key × D)} {ts : List (Int × Th)} {fp : List Nat}, RepTs PT S ks ts fp → ∀ (S' : S3), S'.cs = S.cs → ∀ (v2 : Option D), ∃ v2', forL (asgN 2) (ifS (b2 (b1 (xv 2) (fldF [14] "key")) (xv 1) eqO) (retM (b1 (xv 2) (fldF [14] "number"))) nxM) (ks.map fun kd => kd.2) [some (.cell l), some (.str k), v2] S' =
      (match ts.find? fun p => keyHit (some k) p.2 with | some p => .rt (.int p.1) S' | none => .nx [some (.cell l), some (.str k), v2'] S') := by
    intro ks ts fp r
    induction r with
    | nil => intro S' _ v2; exact ⟨v2, rfl⟩
    | @cons i t c e ks ts fp p r ih =>
      intro S' h v2
      have hc : S'.cs c = some (.ins 14 (thFs (.int i) (.str t.kind) (.dic (numsD t.nums)) (keyV t.key) (.int t.tim))) := by rw [h]; exact p.2
      obtain ⟨v2', q⟩ := ih S' h (some (.cell c))
      rw [List.map_cons, List.find?_cons]
      cases ht : t.key with
      | none =>
        refine ⟨v2', ?_⟩
        unfold forL
        simp [hc, ht, keyV, keyHit]
        simpa [keyHit] using q
      | some j =>
        by_cases hj : j = k
        · refine ⟨v2', ?_⟩
          unfold forL
          simp [hc, ht, keyV, keyHit, hj]
        · refine ⟨v2', ?_⟩
          unfold forL
          simp [hc, ht, keyV, keyHit, hj]
          simpa [keyHit] using q
  have hw : Walks (valS (b1 (xv 0) (fldF [15] "things"))) [some (.cell l), some (.str k), none] S (ks.map fun kd => kd.2) := walks_valC (by simp [lo' R]) R.tb
  cases hw with
  | free h =>
    obtain ⟨v2', q⟩ := loop R.ts S rfl none
    simp [m_Land_made_by, b_Land_made_by, isi_str_str, h, q]
    cases A.ts.find? fun p => keyHit (some k) p.2 <;> simp
  | held n hn h =>
    obtain ⟨v2', q⟩ := loop R.ts (S.lock n) rfl none
    have hm : n ∈ (S.lock n).lk := List.mem_cons_self
    simp [m_Land_made_by, b_Land_made_by, isi_str_str, h, q]
    cases A.ts.find? fun p => keyHit (some k) p.2 <;> simp [unl, hm, lock_unlock hn]
end
end KK
/-! P1e: a land made. -/
namespace KK
open PySem L2 M3
def NameOk (z : Str) : Prop := ∀ S : S3, m_is_name [.str z] S = .ok (.bl true) S
theorem dstF_nd : ∀ (zs seen : List Str), zs.Nodup → (∀ z ∈ zs, z ∉ seen) → dstF seen zs = zs.length
  | [], _, _, _ => rfl
  | z :: r, seen, nd, h => by
    obtain ⟨n1, n2⟩ := List.nodup_cons.mp nd
    unfold dstF
    rw [if_neg (h z List.mem_cons_self), dstF_nd r (z :: seen) n2 fun x hx m => ?_, List.length_cons, Nat.add_comm]
    rcases List.mem_cons.mp m with e | e
    · exact n1 (e ▸ hx)
    · exact h x (List.mem_cons_of_mem _ hx) e
theorem stL_pure {t : GT} {el : CE} {v : Ev} {S : S3} : ∀ zs : List Str, (∀ z ∈ zs, ∃ v1, t (.str z) v S = some (v1, S) ∧ el v1 S = .ok (.str z) S) → stL t el v (zs.map .str) S = .ok zs S
  | [], _ => rfl
  | z :: r, h => by
    obtain ⟨v1, h1, h2⟩ := h z List.mem_cons_self
    rw [List.map_cons]
    unfold stL
    rw [h1]
    simp only [h2, noEx, R.bind]
    rw [stL_pure r fun x hx => h x (List.mem_cons_of_mem _ hx)]
section
variable {S : S3}
theorem lenSt_pure {vs : List Nat} {src : CS} {t : GT} {el : CE} {v : Ev} {zs : List Str} (hs : src v S = .ok (zs.map .str, none) S) (hl : zs.length ≤ 1000) (h : ∀ z ∈ zs, ∃ v1, t (.str z) (wipeD v vs) S = some (v1, S) ∧ el v1 S = .ok (.str z) S) :
    lenSt vs src t el v S = .ok (.int (dstF [] zs : Nat)) S := by
  unfold lenSt
  rw [hs]
  simp only [R.bind, List.length_map, hl, if_true, stL_pure zs h, noEx, unlR]
theorem anyK_lst {xs : List D} : anyK (.lst xs) S = .ok (xs, none) S := rfl
theorem unlike_ok {ns : List Str} (hn : ∀ z ∈ ns, NameOk z) (nd : ns.Nodup) (hl : ns.length ≤ 1000) : m_are_unlike_names [.lst (ns.map .str)] S = .ok (.bl true) S := by
  have h1 : lcM' [1] (anyS (xv 0)) (asgN 1) yesT (callM (aCons (xv 1) aNil) m_is_name []) finT [some (.lst (ns.map .str)), none] S = .ok (.lst (ns.map (D.bl ∘ fun _ => true))) S := by
    have hw : Walks (anyS (xv 0)) [some (.lst (ns.map .str)), none] S (ns.map .str) := walks_lst (by simp)
    rw [lc_all (g := fun _ => true) hw (by simp; exact lim5 hl) fun S' h1 h2 h3 d hd => ?_]
    · simp [List.map_map]
    · obtain ⟨z, hz, rfl⟩ := List.mem_map.mp hd
      refine ⟨_, by simp [wipeD]; rfl, ?_⟩
      simp [hn z hz S']
  have h2 : lenSt [1] (anyS (xv 0)) (asgN 1) (xv 1) [some (.lst (ns.map .str)), none] S = .ok (.int (ns.length : Nat)) S := by
    rw [lenSt_pure (zs := ns) (by simp [anyK_lst]) hl fun z hz => ⟨_, by simp [wipeD]; rfl, by simp⟩, dstF_nd ns [] nd fun z _ h => by simp at h]
  have h3 : allF [.lst (ns.map (D.bl ∘ fun _ => true))] S = some (.bl true, S) := by
    rw [all_bsc]
    have : (ns.all fun _ => true) = true := by simp
    rw [this]
  simp [m_are_unlike_names, b_are_unlike_names, isi_list_lst, h1, h2, h3]
/-- what a kind's pair must be -/
structure KindOk (f : List Str × List Str) : Prop where
  n1 : ∀ z ∈ f.1, NameOk z
  n2 : ∀ z ∈ f.2, NameOk z
  d1 : f.1.Nodup
  d2 : f.2.Nodup
  l1 : 1 ≤ f.1.length
  l5 : f.1.length ≤ 5
  l2 : f.2.length ≤ 5
  id : ("id" : Str) ∉ f.1
  sub : ∀ z ∈ f.2, z ∈ f.1
theorem is_kind_ok {f : List Str × List Str} (h : KindOk f) : m_is_kind [kindV f] S = .ok (.bl true) S := by
  have h1 : lcM' [3] (anyS (xv 2)) (asgN 3) yesT (b2 (xv 3) (xv 1) inO) finT [some (kindV f), some (.lst (f.1.map .str)), some (.lst (f.2.map .str)), none] S = .ok (.lst (f.2.map (D.bl ∘ fun _ => true))) S := by
    have hw : Walks (anyS (xv 2)) [some (kindV f), some (.lst (f.1.map .str)), some (.lst (f.2.map .str)), none] S (f.2.map .str) := walks_lst (by simp)
    rw [lc_all (g := fun _ => true) hw (by simp; exact lim5 (by have := h.l2; omega)) fun S' h1 h2 h3 d hd => ?_]
    · simp [List.map_map]
    · obtain ⟨z, hz, rfl⟩ := List.mem_map.mp hd
      refine ⟨_, by simp [wipeD]; rfl, ?_⟩
      simp [in_strs, h.sub z hz]
  have h3 : allF [.lst (f.2.map (D.bl ∘ fun _ => true))] S = some (.bl true, S) := by
    rw [all_bsc]
    have : (f.2.all fun _ => true) = true := by simp
    rw [this]
  have l1 : (1 : Int) ≤ f.1.length := by have := h.l1; omega
  have l5 : (f.1.length : Int) ≤ 5 := by have := h.l5; omega
  have u1 := unlike_ok (S := S) h.n1 h.d1 (by have := h.l5; omega)
  have u2 := unlike_ok (S := S) h.n2 h.d2 (by have := h.l2; omega)
  unfold kindV at h1
  simp [m_is_kind, b_is_kind, kindV, isi_tuple_tup, u1, u2, l1, l5, notIn_strs, h.id, h1, h3]
theorem keys_kindsD (o : List (Str × List Str × List Str)) : ((kindsD o).map fun kd => keyD kd.1) = (o.map (·.1)).map .str := by
  unfold kindsD
  rw [List.map_map, List.map_map]
  rfl
structure KindsOk (ks : List (Str × List Str × List Str)) : Prop where
  nm : ∀ p ∈ ks, NameOk p.1 ∧ KindOk p.2
  nd : (ks.map (·.1)).Nodup
  l1 : 1 ≤ ks.length
  l5 : ks.length ≤ 5
def land0 (ks : List (Str × List Str × List Str)) : LandA := ⟨ks, [], 0, 0, [], 0⟩
theorem init_run {ks : List (Str × List Str × List Str)} (h : KindsOk ks) : m_Land_init [.cell S.nx, .dic (kindsD ks)] (S.new (.ins 15 [])) = .ok .non ((S.new (landO (land0 ks) (S.nx + 1))).new (.dic [])) := by
  have h1 : ∀ S0 : S3, lcM' [2] (anyS (xv 1)) (asgN 2) yesT (andM (callM (aCons (xv 2) aNil) m_is_name []) (callM (aCons (b2 (xv 1) (xv 2) idxO) aNil) m_is_kind [])) finT [some (.cell S.nx), some (.dic (kindsD ks)), none] S0 = .ok (.lst (ks.map (D.bl ∘ fun _ => true))) S0 := by
    intro S0
    have hw : Walks (anyS (xv 1)) [some (.cell S.nx), some (.dic (kindsD ks)), none] S0 ((ks.map (·.1)).map .str) := by
      have := walks_dicT (m := xv 1) (v := [some (.cell S.nx), some (.dic (kindsD ks)), none]) (S := S0) (ks := kindsD ks) (by simp)
      rwa [keys_kindsD] at this
    rw [lc_all (g := fun _ => true) hw (by simp; exact lim5 (by have := h.l5; omega)) fun S' h1 h2 h3 d hd => ?_]
    · simp [List.map_map]
    · obtain ⟨z, hz, rfl⟩ := List.mem_map.mp hd
      obtain ⟨p, hp, rfl⟩ := List.mem_map.mp hz
      refine ⟨_, by simp [wipeD]; rfl, ?_⟩
      simp [(h.nm p hp).1 S', getA_kindsD, getA_memS h.nd hp, is_kind_ok (h.nm p hp).2]
  have h3 : ∀ S0 : S3, allF [.lst (ks.map (D.bl ∘ fun _ => true))] S0 = some (.bl true, S0) := fun S0 => by
    rw [all_bsc]
    have : (ks.all fun _ => true) = true := by simp
    rw [this]
  have h2 : ∀ S0 : S3, dcM [2] (anyS (xv 1)) (asgN 2) yesT (xv 2) (tupM (aCons (cb (aCons (b2 (b2 (xv 1) (xv 2) idxO) (xc (.int 0)) idxO) aNil) listF) (aCons (cb (aCons (b2 (b2 (xv 1) (xv 2) idxO) (xc (.int 1)) idxO) aNil) listF) aNil))) finDT [some (.cell S.nx), some (.dic (kindsD ks)), none] S0 = .ok (.dic (kindsD ks)) S0 := by
    intro S0
    have hw : Walks (anyS (xv 1)) [some (.cell S.nx), some (.dic (kindsD ks)), none] S0 ((ks.map (·.1)).map .str) := by
      have := walks_dicT (m := xv 1) (v := [some (.cell S.nx), some (.dic (kindsD ks)), none]) (S := S0) (ks := kindsD ks) (by simp)
      rwa [keys_kindsD] at this
    rw [dc_pure (f := fun d => match d with | .str z => some (.inr z, kindV ((getA ks z).getD ([], []))) | _ => none) hw (by simp; exact lim5 (by have := h.l5; omega)) fun S' h1 h2 h3 d hd => ?_]
    · have e : (((ks.map (·.1)).map D.str).map fun d => match d with | .str z => some ((Sum.inr z : Key), kindV ((getA ks z).getD ([], []))) | _ => none) = ks.map fun p => some ((Sum.inr p.1 : Key), kindV ((getA ks p.1).getD ([], []))) := by simp [List.map_map]
      rw [e, foldl_put_nd [] (by simpa using nodup_inr h.nd), finDT_ap, List.nil_append]
      have e2 : (ks.map fun p => ((Sum.inr p.1 : Key), kindV ((getA ks p.1).getD ([], [])))) = kindsD ks := by
        unfold kindsD
        refine List.map_congr_left fun p hp => ?_
        have : getA ks p.1 = some p.2 := getA_memS h.nd hp
        simp [this]
      rw [e2]
    · obtain ⟨z, hz, rfl⟩ := List.mem_map.mp hd
      obtain ⟨p, hp, rfl⟩ := List.mem_map.mp hz
      refine ⟨_, by simp [wipeD]; rfl, rfl, by simp, ?_⟩
      simp [getA_kindsD, getA_memS h.nd hp, kindV]
  have l1 : (1 : Int) ≤ (kindsD ks).length := by have := h.l1; unfold kindsD; simp; omega
  have l5 : ((kindsD ks).length : Int) ≤ 5 := by have := h.l5; unfold kindsD; simp; omega
  simp [m_Land_init, b_Land_init, isi_dict_dic, l1, l5, h1, h2, h3, landO, land0]
  rfl
end
end KK
/-! P1f: the law's own land walked. -/
namespace KK
open PySem L2 M3
/-! ### records -/
def hereKs (k t m f a : D) : List (Key × D) := [(.inr "kinds", k), (.inr "things", t), (.inr "made", m), (.inr "fails", f), (.inr "asked", a)]
def othKs (s n k t : D) : List (Key × D) := [(.inr "kind", s), (.inr "fields", n), (.inr "key", k), (.inr "touched", t)]
section
variable (k t m f a x s n : D)
@[simp] theorem hf1 : getA (hereKs k t m f a) (.inr "kinds") = some k := rfl
@[simp] theorem hf2 : getA (hereKs k t m f a) (.inr "things") = some t := rfl
@[simp] theorem hf3 : getA (hereKs k t m f a) (.inr "made") = some m := rfl
@[simp] theorem hf4 : getA (hereKs k t m f a) (.inr "fails") = some f := rfl
@[simp] theorem hf5 : getA (hereKs k t m f a) (.inr "asked") = some a := rfl
@[simp] theorem hp3 : putA (hereKs k t m f a) (.inr "made") x = hereKs k t x f a := rfl
@[simp] theorem hp4 : putA (hereKs k t m f a) (.inr "fails") x = hereKs k t m x a := rfl
@[simp] theorem hp5 : putA (hereKs k t m f a) (.inr "asked") x = hereKs k t m f x := rfl
@[simp] theorem hln : (hereKs k t m f a).length = 5 := rfl
@[simp] theorem of1 : getA (othKs s n k t) (.inr "kind") = some s := rfl
@[simp] theorem of2 : getA (othKs s n k t) (.inr "fields") = some n := rfl
@[simp] theorem of3 : getA (othKs s n k t) (.inr "key") = some k := rfl
@[simp] theorem of4 : getA (othKs s n k t) (.inr "touched") = some t := rfl
@[simp] theorem op4 : putA (othKs s n k t) (.inr "touched") x = othKs s n k x := rfl
@[simp] theorem oln : (othKs s n k t).length = 4 := rfl
theorem lim_lt : (5 < lim) = True := by decide
end
def hereO (A : LandA) (tc : Nat) : Ob := .dic (hereKs (.dic (kindsD A.kinds)) (.cell tc) (.int A.made) (.dic (flD A.fl)) (.int A.asked))
def othO (t : Th) (f : Nat) : Ob := .dic (othKs (.str t.kind) (.cell f) (keyV t.key) (.int t.tim))
def PO : PTh := fun S i t c e => ∃ f, e = [f] ∧ S.cs c = some (othO t f) ∧ S.cs f = some (.dic (numsD t.nums))
theorem PO_local : Local PO := fun S S' i t c e h ⟨f, h1, h2, h3⟩ => ⟨f, h1, by rw [h c List.mem_cons_self]; exact h2, by rw [h f (by rw [h1]; simp)]; exact h3⟩
structure RH (S : S3) (l : Nat) (A : LandA) (tc : Nat) (ks : List (Key × D)) (fp : List Nat) : Prop where
  lo : S.cs l = some (hereO A tc)
  tb : S.cs tc = some (.dic ks)
  ts : RepTs PO S ks A.ts fp
  nd : (l :: tc :: fp).Nodup
  lt : ∀ n ∈ l :: tc :: fp, n < S.nx
  fr : ∀ n ∈ l :: tc :: fp, n ∉ S.lk
  lk : ∀ n ∈ S.lk, n < S.nx
theorem RH.frame {S S' : S3} {l tc : Nat} {A : LandA} {ks : List (Key × D)} {fp : List Nat} (R : RH S l A tc ks fp) (hc : ∀ n ∈ l :: tc :: fp, S'.cs n = S.cs n) (hn : S.nx ≤ S'.nx) (hl : ∀ n ∈ l :: tc :: fp, n ∉ S'.lk) (hk : ∀ n ∈ S'.lk, n < S'.nx) : RH S' l A tc ks fp where
  lo := by rw [hc l List.mem_cons_self]; exact R.lo
  tb := by rw [hc tc (List.mem_cons_of_mem _ List.mem_cons_self)]; exact R.tb
  ts := R.ts.frame PO_local fun n hn => hc n (List.mem_cons_of_mem _ (List.mem_cons_of_mem _ hn))
  nd := R.nd
  lt := fun n hn' => Nat.lt_of_lt_of_le (R.lt n hn') hn
  fr := hl
  lk := hk
def LeftH (S : S3) (l : Nat) (tc : Nat) (fp : List Nat) (B : LandA) (S' : S3) : Prop := ∃ ks' fp', RH S' l B tc ks' fp' ∧ Fr S S' (l :: tc :: fp) ∧ ∀ n ∈ fp', n ∈ fp ∨ S.nx ≤ n
def resV : Res → D
  | .non => .non
  | .id i => .int i
  | .thing => .str "thing"
  | .fields => .str "fields"
  | .failed => .str "failed"
def deedD : Dd → D
  | .make k n key => .tup [.str "make", .str k, .dic (numsD n), keyV key]
  | .change i o => .tup [.str "change", .int i, .dic (numsD o), .non]
  | .take i => .tup [.str "take", .int i, .non, .non]
  | .fails c => .tup [.str "fails", .dic (flD c), .non, .non]
section
variable {S : S3} {l tc : Nat} {A : LandA} {ks : List (Key × D)} {fp : List Nat}
theorem RH.ne (R : RH S l A tc ks fp) : ¬ l = tc := fun e => by have := R.nd; rw [e] at this; simp at this
theorem ho' (R : RH S l A tc ks fp) : S.cs l = some (.dic (hereKs (.dic (kindsD A.kinds)) (.cell tc) (.int A.made) (.dic (flD A.fl)) (.int A.asked))) := R.lo
def setH (S : S3) (l : Nat) (A : LandA) (tc : Nat) : S3 := S.set l (hereO A tc)
theorem RH.setH (R : RH S l A tc ks fp) {B : LandA} (hk : B.ts = A.ts) : RH (setH S l B tc) l B tc ks fp where
  lo := by simp [KK.setH]
  tb := by simp [KK.setH, Ne.symm R.ne, R.tb]
  ts := by
    rw [hk]
    refine R.ts.frame PO_local fun n hn => ?_
    have h : n ≠ l := fun e => by have := R.nd; rw [List.nodup_cons] at this; exact this.1 (by rw [← e]; exact List.mem_cons_of_mem _ hn)
    simp [KK.setH, h]
  nd := R.nd
  lt := R.lt
  fr := R.fr
  lk := R.lk
theorem setH_fr (S : S3) (l : Nat) (B : LandA) (tc : Nat) {f : List Nat} : Fr S (KK.setH S l B tc) (l :: f) := set_fr S l _ _ (by simp)
/-- the own land asked: a counter is moved, then the deed is done -/
theorem own_fails (R : RH S l A tc ks fp) (c : List (Int × Str)) : ∃ S', m__law_own [.cell l, deedD (.fails c)] S = .ok (resV (stepA A (.fails c)).1) S' ∧ LeftH S l tc fp (stepA A (.fails c)).2 S' := by
  have hl := R.fr l (by simp)
  refine ⟨KK.setH S l { A with fl := c, asked := 0 } tc, ?_, ks, fp, R.setH rfl, setH_fr _ _ _ _, fun n hn => .inl hn⟩
  simp [m__law_own, b__law_own, deedD, putM, ho' R, hl, lim_lt, resV, stepA, KK.setH, hereO]
theorem PO.ne {i : Int} {t : Th} {c f : Nat} (hc : S.cs c = some (othO t f)) (hf : S.cs f = some (.dic (numsD t.nums))) : ¬ c = f := fun e => by
  rw [e, hf] at hc
  have h : Ob.dic (numsD t.nums) = othO t f := Option.some.inj hc
  unfold othO at h
  have h2 : numsD t.nums = othKs (.str t.kind) (.cell f) (keyV t.key) (.int t.tim) := Ob.dic.inj h
  cases hn : t.nums with
  | nil => rw [hn] at h2; simp [numsD, othKs] at h2
  | cons p r => rw [hn] at h2; simp [numsD, othKs] at h2
/-! ### a deed done -/
theorem RH.put {B : LandA} {ks' : List (Key × D)} {fp' : List Nat} (R : RH S l A tc ks fp) (h : RepTs PO S ks' B.ts fp') (hs : fp'.Sublist fp) (hB : hereO B tc = hereO A tc) : RH (S.set tc (.dic ks')) l B tc ks' fp' where
  lo := by simp [R.ne, R.lo, hB]
  tb := by simp
  ts := by
    have nd := R.nd
    rw [List.nodup_cons, List.nodup_cons] at nd
    refine h.frame PO_local fun n hn => ?_
    have h2 : n ≠ tc := fun e => nd.2.1 (by rw [← e]; exact hs.subset hn)
    simp [h2]
  nd := R.nd.sublist ((hs.cons₂ _).cons₂ _)
  lt := fun n hn => R.lt n (((hs.cons₂ _).cons₂ _).subset hn)
  fr := fun n hn => R.fr n (((hs.cons₂ _).cons₂ _).subset hn)
  lk := R.lk
theorem done_take (R : RH S l A tc ks fp) {i : Int} {t : Th} (h : getA A.ts i = some t) : ∃ S', m__law_done [.cell l, deedD (.take i)] S = .ok (resV (doTake i A).1) S' ∧ LeftH S l tc fp (doTake i A).2 S' := by
  rcases R.ts.get (i := i) with ⟨h1, _⟩ | ⟨t', c, e, h1, h2, h3, h4⟩
  · rw [h] at h1; cases h1
  · obtain ⟨fp', q1, q2⟩ := R.ts.drop i
    have htl := R.fr tc (by simp)
    refine ⟨S.set tc (.dic (dropA ks (.inl i))), ?_, _, fp', R.put q1 q2 rfl, set_fr S tc _ _ (by simp), fun n hn => .inl (q2.subset hn)⟩
    simp [m__law_done, b__law_done, deedD, idx_cellD (ho' R), R.tb, h2, htl, resV, doTake]
/-- a thing's two cells written -/
theorem RH.thing (R : RH S l A tc ks fp) {B : LandA} {i : Int} {t t' : Th} {c f : Nat} (h2 : getA ks (.inl i) = some (.cell c)) (h1 : getA A.ts i = some t) (h3 : PO S i t c [f]) (hnd : (A.ts.map (·.1)).Nodup) (hc : ∀ n ∈ [c, f], n ∈ fp) (hB : B.ts = A.ts.map fun p => if p.1 = i then (p.1, t') else p) (hB2 : hereO B tc = hereO A tc) (hcf : ¬ c = f) :
    RH ((S.set f (.dic (numsD t'.nums))).set c (othO t' f)) l B tc ks fp := by
  have nd := R.nd
  rw [List.nodup_cons, List.nodup_cons] at nd
  have c1 : ¬ l = c := fun e => nd.1 (by rw [e]; exact List.mem_cons_of_mem _ (hc c (by simp)))
  have c2 : ¬ l = f := fun e => nd.1 (by rw [e]; exact List.mem_cons_of_mem _ (hc f (by simp)))
  have c3 : ¬ tc = c := fun e => nd.2.1 (by rw [e]; exact hc c (by simp))
  have c4 : ¬ tc = f := fun e => nd.2.1 (by rw [e]; exact hc f (by simp))
  refine ⟨by simp [c1, c2, R.lo, hB2], by simp [c3, c4, R.tb], ?_, R.nd, R.lt, R.fr, R.lk⟩
  rw [hB]
  refine R.ts.upd PO_local (e := [f]) nd.2.2 hnd h2 h1 (fun e0 h => ?_) (fun n hn => ?_) ⟨f, rfl, by simp, by simp [Ne.symm hcf]⟩
  · obtain ⟨f1, h4, h5, _⟩ := h
    obtain ⟨f2, h6, h7, _⟩ := h3
    cases h6
    rw [h7] at h5
    have e : othO t f = othO t f1 := Option.some.inj h5
    unfold othO othKs at e
    simp at e
    rw [h4, e]
  · have n1 : n ≠ c := fun e => hn (by rw [e]; simp)
    have n2 : n ≠ f := fun e => hn (by rw [e]; simp)
    simp [n1, n2]
theorem putA_numsD {k : Str} {x : Int} : ∀ l : List (Str × Int), putA (numsD l) (.inr k) (.int x) = numsD (putA l k x)
  | [] => rfl
  | (g, i) :: r => by
    show putA (((Sum.inr g : Key), D.int i) :: numsD r) (.inr k) (.int x) = numsD (putA ((g, i) :: r) k x)
    unfold putA
    by_cases h : g = k
    · rw [h, if_pos rfl, if_pos rfl]; rfl
    · rw [if_neg h, if_neg (fun e => h (by cases e; rfl))]
      show _ :: putA (numsD r) _ _ = _ :: numsD (putA r k x)
      rw [putA_numsD r]
theorem putA_map {k : Str} {x : Int} : ∀ l : List (Str × Int), k ∈ l.map (·.1) → (l.map (·.1)).Nodup → putA l k x = l.map fun p => if p.1 = k then (p.1, x) else p
  | (g, i) :: r, h, nd => by
    rw [List.map_cons] at nd
    obtain ⟨n1, n2⟩ := List.nodup_cons.mp nd
    unfold putA
    rw [List.map_cons]
    by_cases e : g = k
    · rw [if_pos e, if_pos e]
      congr 1
      conv => lhs; rw [← List.map_id r]
      refine List.map_congr_left fun p hp => ?_
      rw [if_neg fun z => n1 (List.mem_map.mpr ⟨p, hp, by rw [z, e]⟩)]
      rfl
    · rw [if_neg e, if_neg e]
      congr 1
      refine putA_map r ?_ n2
      rcases List.mem_cons.mp h with z | z
      · exact absurd z.symm e
      · exact z
theorem setNums_cons {k : Str} {x : Int} {o nums : List (Str × Int)} (hk : k ∉ o.map (·.1)) (hm : k ∈ nums.map (·.1)) (nd : (nums.map (·.1)).Nodup) : setNums o (putA nums k x) = setNums ((k, x) :: o) nums := by
  rw [putA_map nums hm nd]
  unfold setNums
  rw [List.map_map]
  refine List.map_congr_left fun p hp => ?_
  show ((if p.1 = k then (p.1, x) else p).1, _) = _
  rw [getA_cons]
  by_cases e : p.1 = k
  · have : getA o k = none := getA_none.mpr hk
    simp [e, this]
  · have e' : ¬ k = p.1 := fun z => e z.symm
    simp [e, e']
theorem set_loop {v0 v1 v2 v3 v5 v8 v9 : Option D} {O : List (Str × Int)} {c f : Nat} {a1 a2 a3 : D} (hO : (O.map (·.1)).Nodup) : ∀ (o nums : List (Str × Int)) (S : S3) (v7 : Option D), (∀ p ∈ o, p ∈ O) → (o.map (·.1)).Nodup → (∀ p ∈ o, p.1 ∈ nums.map (·.1)) → (nums.map (·.1)).Nodup → nums.length < 1000 →
    S.cs c = some (.dic (othKs a1 (.cell f) a2 a3)) → S.cs f = some (.dic (numsD nums)) → f ∉ S.lk → ¬ c = f → ∃ v7', forL (asgN 7) (asgS (b2 (xv 4) (xv 7) idxO) (asgSub (b2 (xv 6) (xc (.str "fields")) idxO) (xv 7))) ((o.map (·.1)).map .str) [v0, v1, v2, v3, some (.dic (numsD O)), v5, some (.cell c), v7, v8, v9] S =
      .nx [v0, v1, v2, v3, some (.dic (numsD O)), v5, some (.cell c), v7', v8, v9] (if o = [] then S else S.set f (.dic (numsD (setNums o nums))))
  | [], nums, S, v7, _, _, _, _, _, _, _, _, _ => ⟨v7, rfl⟩
  | (k, x) :: o, nums, S, v7, h1, h2, h3, h4, h5, h6, h7, h8, h9 => by
    rw [List.map_cons] at h2
    obtain ⟨n1, n2⟩ := List.nodup_cons.mp h2
    have hk : k ∈ nums.map (·.1) := h3 _ List.mem_cons_self
    have hg : getA O k = some x := getA_memS hO (h1 _ List.mem_cons_self)
    have hpl : (putA nums k x).map (·.1) = nums.map (·.1) := by
      rw [putA_map nums hk h4, List.map_map]
      refine List.map_congr_left fun p hp => ?_
      show (if p.1 = k then (p.1, x) else p).1 = p.1
      by_cases e : p.1 = k
      · simp [e]
      · simp [e]
    have hlen : (putA nums k x).length = nums.length := by
      have := congrArg List.length hpl
      simpa using this
    have hcl : (numsD nums).length < lim := by rw [numsD_len]; exact Nat.lt_of_lt_of_le h5 (by decide)
    obtain ⟨v7', q⟩ := set_loop hO (v0 := v0) (v1 := v1) (v2 := v2) (v3 := v3) (v5 := v5) (v8 := v8) (v9 := v9) (c := c) (f := f) (a1 := a1) (a2 := a2) (a3 := a3) o (putA nums k x) (S.set f (.dic (numsD (putA nums k x)))) (some (.str k)) (fun p hp => h1 p (List.mem_cons_of_mem _ hp)) n2
      (fun p hp => by rw [hpl]; exact h3 p (List.mem_cons_of_mem _ hp)) (by rw [hpl]; exact h4) (by rw [hlen]; exact h5) (by simp [h9, h6]) (by simp) h8 h9
    refine ⟨v7', ?_⟩
    rw [List.map_cons, List.map_cons]
    unfold forL
    simp [getA_numsD, hg, idx_cellD h6, putM, h7, h8, hcl, putA_numsD]
    simp only [List.map_map] at q ⊢
    rw [q, ← setNums_cons n1 hk h4]
    by_cases ho : o = []
    · subst ho
      have : setNums [] (putA nums k x) = putA nums k x := by
        unfold setNums
        conv => rhs; rw [← List.map_id (putA nums k x)]
        exact List.map_congr_left fun p _ => rfl
      simp [this]
    · simp [ho]
end
end KK
/-! P1g: the law's own land walked: change, make; all its deeds. -/
namespace KK
open PySem L2 M3
section
variable {S : S3} {l tc : Nat} {A : LandA} {ks : List (Key × D)} {fp : List Nat}
theorem anyK_dic {ks : List (Key × D)} : anyK (.dic ks) S = .ok (ks.map fun kd => keyD kd.1, none) S := rfl
theorem done_change (R : RH S l A tc ks fp) (W : WFA A) {i : Int} {t : Th} {o : List (Str × Int)} (h : getA A.ts i = some t) (ho : o ≠ []) (hok : (o.map (·.1)).Nodup) (hsub : ∀ p ∈ o, p.1 ∈ t.nums.map (·.1)) :
    ∃ S', m__law_done [.cell l, deedD (.change i o)] S = .ok (resV (doChange i o A).1) S' ∧ LeftH S l tc fp (doChange i o A).2 S' := by
  rcases R.ts.get (i := i) with ⟨h1, _⟩ | ⟨t', c, e, h1, h2, h3, h4⟩
  · rw [h] at h1; cases h1
  · rw [h] at h1; cases h1
    obtain ⟨f, he, hc, hf⟩ := h3
    subst he
    have hc' : S.cs c = some (.dic (othKs (.str t.kind) (.cell f) (keyV t.key) (.int t.tim))) := hc
    obtain ⟨k, hk, hkn⟩ := W.kd i t (getA_some_mem h)
    obtain ⟨fnd, fl5⟩ := W.kn _ _ hk
    have tnd : (t.nums.map (·.1)).Nodup := by rw [hkn]; exact fnd
    have tl : t.nums.length < 1000 := by
      have e : t.nums.length = k.1.length := by rw [← hkn, List.length_map]
      omega
    have nd := R.nd
    rw [List.nodup_cons, List.nodup_cons] at nd
    have hcfp := h4 c (by simp)
    have hffp := h4 f (by simp)
    have hcf : ¬ c = f := PO.ne (i := i) hc hf
    have hcl := R.fr c (by simp [hcfp])
    have hfl := R.fr f (by simp [hffp])
    obtain ⟨v7, q⟩ := set_loop (v0 := some (.cell l)) (v1 := some (deedD (.change i o))) (v2 := some (.str "change")) (v3 := some (.int i)) (v5 := some .non) (v8 := none) (v9 := none) hok o t.nums S none (fun p hp => hp) hok hsub tnd tl hc' hf hfl hcf
    rw [if_neg ho] at q
    let t' : Th := { t with nums := setNums o t.nums, tim := t.tim + 1 }
    have R2 := R.thing (B := (doChange i o A).2) (t' := t') h2 h ⟨f, rfl, hc, hf⟩ W.nd (by simpa using h4) (by
      show (A.ts.map _) = A.ts.map _
      refine List.map_congr_left fun p hp => ?_
      by_cases z : p.1 = i
      · have := getA_memS W.nd hp
        rw [z, h] at this
        cases this
        simp only [if_pos z]
        rfl
      · simp only [if_neg z]) rfl hcf
    refine ⟨_, ?_, ks, fp, R2, (set_fr S f _ (l :: tc :: fp) (by simp [hffp])).trans (set_fr _ c _ (l :: tc :: fp) (by simp [hcfp])) fun n hn => .inl hn, fun n hn => .inl hn⟩
    simp only [List.map_map] at q
    have hkk := keys_numsD o
    simp only [List.map_map] at hkk
    simp [deedD] at q
    simp [m__law_done, b__law_done, deedD, ho' R, R.tb, h2, anyK_dic, hkk, q, hc', hcf, resV, doChange, putM, hcl, lim_lt, othO, t']
/-- the ids of the things under a key -/
theorem lc_own (key : Option Str) {v1 v2 v3 v4 v6 v7 v8 v9 : Option D} (R : RH S l A tc ks fp) (hnd : (A.ts.map (·.1)).Nodup) (hl : ks.length ≤ lim) :
    lcM' [9] (anyS (b2 (xv 0) (xc (.str "things")) idxO)) (asgN 9) (andM (b2 (xv 5) (xc .non) isNotF2) (b2 (b2 (b2 (b2 (xv 0) (xc (.str "things")) idxO) (xv 9) idxO) (xc (.str "key")) idxO) (xv 5) eqO)) (xv 9) finT [some (.cell l), v1, v2, v3, v4, some (keyV key), v6, v7, v8, v9] S =
      .ok (.lst ((A.ts.filter fun p => keyHit key p.2).map fun p => .int p.1)) S := by
  have hw : Walks (anyS (b2 (xv 0) (xc (.str "things")) idxO)) [some (.cell l), v1, v2, v3, v4, some (keyV key), v6, v7, v8, v9] S (A.ts.map fun p => .int p.1) := by
    have := walks_dicC (m := b2 (xv 0) (xc (.str "things")) idxO) (v := [some (.cell l), v1, v2, v3, v4, some (keyV key), v6, v7, v8, v9]) (S := S) (n := tc) (by simp [ho' R]) R.tb
    rwa [R.ts.keys] at this
  rw [lc_pure (f := fun d => match d with | .int i => (if (match getA A.ts i with | some t => keyHit key t | none => false) then some (.int i) else none) | _ => none) hw (by rw [List.length_map, ← R.ts.len]; exact hl) fun S' h1 h2 h3 dd hd => ?_]
  · rw [finT_ap]
    congr 2
    rw [List.filterMap_map]
    have e : ∀ (l : List (Int × Th)), (∀ p ∈ l, p ∈ A.ts) → l.filterMap ((fun d => match d with | D.int i => (if (match getA A.ts i with | some t => keyHit key t | none => false) then some (D.int i) else none) | _ => none) ∘ fun p : Int × Th => D.int p.1) = (l.filter fun p => keyHit key p.2).map fun p => D.int p.1 := by
      intro l
      induction l with
      | nil => intro _; rfl
      | cons p r ih =>
        intro h
        have hg : getA A.ts p.1 = some p.2 := getA_memS hnd (h p List.mem_cons_self)
        rw [List.filterMap_cons, List.filter_cons, ih fun q hq => h q (List.mem_cons_of_mem _ hq)]
        by_cases hk : keyHit key p.2 = true
        · simp [hg, hk]
        · simp [hg, hk]
    exact e A.ts fun p hp => hp
  · obtain ⟨p, hp, rfl⟩ := List.mem_map.mp hd
    have hg : getA A.ts p.1 = some p.2 := getA_memS hnd hp
    rcases R.ts.get (i := p.1) with ⟨h1', _⟩ | ⟨t', c, e, h1', h2', ⟨f, h3a, h3b, h3c⟩, _⟩
    · rw [hg] at h1'; cases h1'
    · rw [hg] at h1'; cases h1'
      have lo : S'.cs l = some (.dic (hereKs (.dic (kindsD A.kinds)) (.cell tc) (.int A.made) (.dic (flD A.fl)) (.int A.asked))) := by rw [h1]; exact ho' R
      have tb : S'.cs tc = some (.dic ks) := by rw [h1]; exact R.tb
      have hc : S'.cs c = some (.dic (othKs (.str p.2.kind) (.cell f) (keyV p.2.key) (.int p.2.tim))) := by rw [h1]; exact h3b
      refine ⟨_, by simp [wipeD]; rfl, ?_⟩
      cases key with
      | none => simp [keyHit, keyV, hg]
      | some k =>
        cases e : p.2.key with
        | none => simp [keyHit, keyV, hg, e, lo, tb, h2', hc]
        | some j =>
          by_cases hj : j = k
          · simp [keyHit, keyV, hg, e, lo, tb, h2', hc, hj]
          · simp [keyHit, keyV, hg, e, lo, tb, h2', hc, hj]
theorem find_filter {α : Type} {p : α → Bool} : ∀ l : List α, l.find? p = (l.filter p)[0]?
  | [] => rfl
  | x :: r => by
    rw [List.find?_cons, List.filter_cons]
    by_cases h : p x = true
    · simp [h]
    · simp [h, find_filter r]
theorem RH.more (R : RH S l A tc ks fp) (W : WFA A) {B : LandA} {t : Th} (hB : B.ts = A.ts ++ [(A.made, t)]) : RH ((((S.new (.dic (numsD t.nums))).new (othO t S.nx)).set tc (.dic (putA ks (.inl A.made) (.cell (S.nx + 1))))).set l (hereO B tc)) l B tc (putA ks (.inl A.made) (.cell (S.nx + 1))) (fp ++ [S.nx + 1, S.nx]) := by
  have nd := R.nd
  rw [List.nodup_cons, List.nodup_cons] at nd
  have l0 := R.lt l (by simp)
  have l1 := R.lt tc (by simp)
  have l2 : ∀ n ∈ fp, n < S.nx := fun n hn => R.lt n (by simp [hn])
  have nl : ¬ l = S.nx := by omega
  have nl' : ¬ l = S.nx + 1 := by omega
  have ntc : ¬ tc = S.nx := by omega
  have ntc' : ¬ tc = S.nx + 1 := by omega
  have hno : getA ks (.inl A.made) = none := by
    have h0 : getA A.ts A.made = none := getA_none.mpr fun m => by
      obtain ⟨p, hp, e⟩ := List.mem_map.mp m
      have := W.lt p hp
      omega
    rcases R.ts.get (i := A.made) with ⟨_, z⟩ | ⟨t, c, e, z, _⟩
    · exact z
    · rw [h0] at z; cases z
  have mem : ∀ n, n ∈ l :: tc :: (fp ++ [S.nx + 1, S.nx]) → n ∈ l :: tc :: fp ∨ n = S.nx + 1 ∨ n = S.nx := fun n hn => by
    have : n ∈ (l :: tc :: fp) ++ [S.nx + 1, S.nx] := hn
    rcases List.mem_append.mp this with z | z
    · exact .inl z
    · right; simpa using z
  refine ⟨by simp, by simp [Ne.symm R.ne], ?_, ?_, ?_, ?_, ?_⟩
  · rw [hB]
    refine RepTs.snoc (e := [S.nx]) ⟨S.nx, rfl, by simp [Ne.symm nl', Ne.symm ntc'], by simp [Ne.symm nl, Ne.symm ntc]⟩ (R.ts.frame PO_local fun n hn => ?_) hno
    have h1 : n ≠ l := fun e => nd.1 (by rw [← e]; exact List.mem_cons_of_mem _ hn)
    have h2 : n ≠ tc := fun e => nd.2.1 (by rw [← e]; exact hn)
    have h3 : n ≠ S.nx := fun e => by have := l2 n hn; omega
    have h4 : n ≠ S.nx + 1 := fun e => by have := l2 n hn; omega
    simp [h1, h2, h3, h4]
  · have : (l :: tc :: (fp ++ [S.nx + 1, S.nx])) = (l :: tc :: fp) ++ [S.nx + 1, S.nx] := rfl
    rw [this, List.nodup_append]
    refine ⟨R.nd, by simp, fun a ha b hb e => ?_⟩
    have hb : b = S.nx + 1 ∨ b = S.nx := by simpa using hb
    have := R.lt a ha
    omega
  · intro n hn
    have : n < S.nx + 1 + 1 := by
      rcases mem n hn with z | z | z
      · have := R.lt n z; omega
      · omega
      · omega
    exact this
  · intro n hn
    rcases mem n hn with z | z | z
    · exact R.fr n z
    · exact fun m => by have := R.lk n m; omega
    · exact fun m => by have := R.lk n m; omega
  · intro n hn
    have := R.lk n hn
    show n < S.nx + 1 + 1
    omega
@[simp] theorem mergeOth (a b c d : D) : mergeA [] [((.inr "kind" : Key), a), (.inr "fields", b), (.inr "key", c), (.inr "touched", d)] = othKs a b c d := rfl
theorem done_make (R : RH S l A tc ks fp) (W : WFA A) {k : Str} {nums : List (Str × Int)} {key : Option Str} (hlen : A.ts.length < 1000) :
    ∃ S', m__law_done [.cell l, deedD (.make k nums key)] S = .ok (resV (doMake k nums key A).1) S' ∧ LeftH S l tc fp (doMake k nums key A).2 S' := by
  have hkl : ks.length ≤ lim := by rw [R.ts.len]; exact lim5 (by omega)
  have hkl2 : ks.length < lim := by rw [R.ts.len]; exact Nat.lt_of_lt_of_le hlen (by decide)
  have hown := lc_own key (v1 := some (deedD (.make k nums key))) (v2 := some (.str "make")) (v3 := some (.str k)) (v4 := some (.dic (numsD nums))) (v6 := none) (v7 := none) (v8 := none) (v9 := none) R W.nd hkl
  have l0 := R.lt l (by simp)
  have l1 := R.lt tc (by simp)
  have n1 : ¬ l = S.nx := by omega
  have n2 : ¬ l = S.nx + 1 := by omega
  have n3 : ¬ tc = S.nx := by omega
  have n4 : ¬ tc = S.nx + 1 := by omega
  have hne := R.ne
  have htl := R.fr tc (by simp)
  have hll := R.fr l (by simp)
  cases hf : A.ts.find? fun p => keyHit key p.2 with
  | none =>
    have hd := doMake_none (k := k) (n := nums) hf
    have he : (A.ts.filter fun p => keyHit key p.2) = [] := by
      rw [find_filter] at hf
      cases h : A.ts.filter fun p => keyHit key p.2 with
      | nil => rfl
      | cons x r => rw [h] at hf; cases hf
    rw [he] at hown
    let B := (doMake k nums key A).2
    have hB : B = { A with ts := A.ts ++ [(A.made, ⟨k, nums, key, 1⟩)], made := A.made + 1, done := A.done + 1 } := congrArg (·.2) hd
    have hr : (doMake k nums key A).1 = .id A.made := congrArg (·.1) hd
    have hB2 : hereO B tc = .dic (hereKs (.dic (kindsD A.kinds)) (.cell tc) (.int (A.made + 1)) (.dic (flD A.fl)) (.int A.asked)) := by rw [hB]; rfl
    have R2 := R.more W (B := B) (t := ⟨k, nums, key, 1⟩) (by rw [hB])
    refine ⟨_, ?_, _, _, R2, ?_, ?_⟩
    · simp [deedD] at hown
      simp [m__law_done, b__law_done, deedD, hown, eq_nil, ho' R, R.tb, n1, n2, n3, n4, hne, Ne.symm hne, putM, htl, hll, hkl2, hr, resV, hB2, othO]
    · exact (new_fr S _ (l :: tc :: fp)).trans ((new_fr _ _ (l :: tc :: fp)).trans ((set_fr _ tc _ (l :: tc :: fp) (by simp)).trans (set_fr _ l _ (l :: tc :: fp) (by simp)) fun n hn => .inl hn) fun n hn => .inl hn) fun n hn => .inl hn
    · intro n hn
      rcases List.mem_append.mp hn with z | z
      · exact .inl z
      · have : n = S.nx + 1 ∨ n = S.nx := by simpa using z
        exact .inr (by omega)
  | some p =>
    have hd := doMake_some (k := k) (n := nums) hf
    have hr : (doMake k nums key A).1 = .id p.1 := congrArg (·.1) hd
    have hB : (doMake k nums key A).2 = A := congrArg (·.2) hd
    obtain ⟨r, he⟩ : ∃ r, (A.ts.filter fun p => keyHit key p.2) = p :: r := by
      rw [find_filter] at hf
      cases h : A.ts.filter fun p => keyHit key p.2 with
      | nil => rw [h] at hf; cases hf
      | cons x r => rw [h] at hf; cases hf; exact ⟨r, rfl⟩
    rw [he] at hown
    refine ⟨S, ?_, ks, fp, by rw [hB]; exact R, .refl _ _, fun n hn => .inl hn⟩
    simp [deedD] at hown
    simp [m__law_done, b__law_done, deedD, hown, eq_nil, hr, resV]
end
end KK
/-! P1h: all deeds of the law's own land. -/
namespace KK
open PySem L2 M3
section
variable {S : S3} {l tc : Nat} {A : LandA} {ks : List (Key × D)} {fp : List Nat}
theorem LeftH.trans {S1 S2 : S3} {B : LandA} (f : Fr S S1 (l :: tc :: fp)) (h : LeftH S1 l tc fp B S2) : LeftH S l tc fp B S2 := by
  obtain ⟨ks', fp', h1, h2, h3⟩ := h
  exact ⟨ks', fp', h1, f.trans h2 fun n hn => .inl hn, fun n hn => (h3 n hn).imp id fun z => Nat.le_trans f.nx z⟩
@[simp] theorem we1 : ((("" : Str) = "no") = False) := by decide +kernel
@[simp] theorem we2 : ((("" : Str) = "half") = False) := by decide +kernel
theorem getD_no {o : Option Str} : (o.getD ("" : Str) = "no") = (o = some ("no" : Str)) := by cases o <;> simp
theorem getD_half {o : Option Str} : (o.getD ("" : Str) = "half") = (o = some ("half" : Str)) := by cases o <;> simp
theorem own_take (R : RH S l A tc ks fp) (W : WFA A) (i : Int) : ∃ S', m__law_own [.cell l, deedD (.take i)] S = .ok (resV (stepA A (.take i)).1) S' ∧ LeftH S l tc fp (stepA A (.take i)).2 S' := by
  have hl := R.fr l (by simp)
  unfold stepA
  rcases R.ts.get (i := i) with ⟨h1, h2⟩ | ⟨t, c, e, h1, h2, _, _⟩
  · refine ⟨S, ?_, ks, fp, by simpa [h1] using R, .refl _ _, fun n hn => .inl hn⟩
    simp [m__law_own, b__law_own, deedD, ho' R, R.tb, notIn_cellD R.tb, h1, h2, resV]
  · have R1 := R.setH (B := asked1 A) rfl
    have fr1 := setH_fr S l (asked1 A) tc (f := tc :: fp)
    have hS1 : KK.setH S l (asked1 A) tc = S.set l (.dic (hereKs (.dic (kindsD A.kinds)) (.cell tc) (.int A.made) (.dic (flD A.fl)) (.int (A.asked + 1)))) := rfl
    by_cases hno : getA A.fl A.asked = some ("no" : Str)
    · refine ⟨KK.setH S l (asked1 A) tc, ?_, ks, fp, by simpa [h1, failing_no hno] using R1, fr1, fun n hn => .inl hn⟩
      simp [m__law_own, b__law_own, deedD, ho' R, R.tb, notIn_cellD R.tb, h1, h2, getA_flD, getD_no, hno, hl, putM, failing_no hno, resV, hS1]
    · obtain ⟨S2, q1, q2⟩ := done_take R1 (i := i) (t := t) h1
      simp only [hS1, deedD] at q1
      by_cases hh : getA A.fl A.asked = some ("half" : Str)
      · refine ⟨S2, ?_, LeftH.trans fr1 (by simpa [h1, failing_half hh] using q2)⟩
        simp [m__law_own, b__law_own, deedD, ho' R, R.tb, notIn_cellD R.tb, h1, h2, getA_flD, getD_no, getD_half, hno, hh, hl, putM, failing_half hh, resV, q1]
      · refine ⟨S2, ?_, LeftH.trans fr1 (by simpa [h1, failing_go hno hh] using q2)⟩
        simp [m__law_own, b__law_own, deedD, ho' R, R.tb, notIn_cellD R.tb, h1, h2, getA_flD, getD_no, getD_half, hno, hh, hl, putM, failing_go hno hh, resV, q1]
theorem own_make (R : RH S l A tc ks fp) (W : WFA A) {k : Str} {nums : List (Str × Int)} {key : Option Str} (hlen : A.ts.length < 1000) : ∃ S', m__law_own [.cell l, deedD (.make k nums key)] S = .ok (resV (stepA A (.make k nums key)).1) S' ∧ LeftH S l tc fp (stepA A (.make k nums key)).2 S' := by
  have hl := R.fr l (by simp)
  unfold stepA
  have R1 := R.setH (B := asked1 A) rfl
  have W1 : WFA (asked1 A) := ⟨W.kd, W.lt, W.nd, W.kn⟩
  have fr1 := setH_fr S l (asked1 A) tc (f := tc :: fp)
  have hS1 : KK.setH S l (asked1 A) tc = S.set l (.dic (hereKs (.dic (kindsD A.kinds)) (.cell tc) (.int A.made) (.dic (flD A.fl)) (.int (A.asked + 1)))) := rfl
  by_cases hno : getA A.fl A.asked = some ("no" : Str)
  · refine ⟨KK.setH S l (asked1 A) tc, ?_, ks, fp, by simpa [failing_no hno] using R1, fr1, fun n hn => .inl hn⟩
    simp [m__law_own, b__law_own, deedD, ho' R, getA_flD, getD_no, hno, hl, putM, failing_no hno, resV, hS1]
  · obtain ⟨S2, q1, q2⟩ := done_make R1 W1 (k := k) (nums := nums) (key := key) hlen
    simp only [hS1, deedD] at q1
    by_cases hh : getA A.fl A.asked = some ("half" : Str)
    · refine ⟨S2, ?_, LeftH.trans fr1 (by simpa [failing_half hh] using q2)⟩
      simp [m__law_own, b__law_own, deedD, ho' R, getA_flD, getD_no, getD_half, hno, hh, hl, putM, failing_half hh, resV, q1]
    · refine ⟨S2, ?_, LeftH.trans fr1 (by simpa [failing_go hno hh] using q2)⟩
      simp [m__law_own, b__law_own, deedD, ho' R, getA_flD, getD_no, getD_half, hno, hh, hl, putM, failing_go hno hh, resV, q1]
theorem chk_own {v0 v1 v2 v3 v5 v8 v9 v10 : Option D} {o : List (Str × Int)} {fs fx : List Str} (ho : o.length ≤ 1000) (hk : (o.map (·.1)).Nodup) (S : S3) :
    lcM' [10] (anyS (xv 4)) (asgN 10) yesT (andM (b2 (xv 10) (xv 6) inO) (b2 (xv 10) (xv 7) notInO)) finT [v0, v1, v2, v3, some (.dic (numsD o)), v5, some (.lst (fs.map .str)), some (.lst (fx.map .str)), v8, v9, v10] S =
      .ok (.lst (o.map (D.bl ∘ fun p => decide (p.1 ∈ fs) && !decide (p.1 ∈ fx)))) S := by
  have hw : Walks (anyS (xv 4)) [v0, v1, v2, v3, some (.dic (numsD o)), v5, some (.lst (fs.map .str)), some (.lst (fx.map .str)), v8, v9, v10] S ((o.map (·.1)).map .str) := by
    have := walks_dicT (m := xv 4) (v := [v0, v1, v2, v3, some (.dic (numsD o)), v5, some (.lst (fs.map .str)), some (.lst (fx.map .str)), v8, v9, v10]) (S := S) (ks := numsD o) (by simp)
    rwa [keys_numsD] at this
  rw [lc_all (g := fun d => match d with | .str z => decide (z ∈ fs) && !decide (z ∈ fx) | _ => false) hw (by simp; exact lim5 ho) fun S' h1 h2 h3 d hd => ?_]
  · simp [List.map_map]
  · obtain ⟨z, hz, rfl⟩ := List.mem_map.mp hd
    obtain ⟨p, hp, rfl⟩ := List.mem_map.mp hz
    refine ⟨_, by simp [wipeD]; rfl, ?_⟩
    by_cases c1 : p.1 ∈ fs
    · simp [in_strs, notIn_strs, c1]
    · simp [in_strs, c1]
theorem own_change (R : RH S l A tc ks fp) (W : WFA A) (i : Int) {o : List (Str × Int)} (ho : o ≠ []) (hol : o.length ≤ 1000) (hok : (o.map (·.1)).Nodup) : ∃ S', m__law_own [.cell l, deedD (.change i o)] S = .ok (resV (stepA A (.change i o)).1) S' ∧ LeftH S l tc fp (stepA A (.change i o)).2 S' := by
  have hl := R.fr l (by simp)
  unfold stepA
  rcases R.ts.get (i := i) with ⟨h1, h2⟩ | ⟨t, c, e, h1, h2, ⟨f0, h3a, h3b, h3c⟩, _⟩
  · refine ⟨S, ?_, ks, fp, by simpa [h1] using R, .refl _ _, fun n hn => .inl hn⟩
    simp [m__law_own, b__law_own, deedD, ho' R, R.tb, notIn_cellD R.tb, h1, h2, resV]
  · have R1 := R.setH (B := asked1 A) rfl
    have W1 : WFA (asked1 A) := ⟨W.kd, W.lt, W.nd, W.kn⟩
    have fr1 := setH_fr S l (asked1 A) tc (f := tc :: fp)
    have hS1 : KK.setH S l (asked1 A) tc = S.set l (.dic (hereKs (.dic (kindsD A.kinds)) (.cell tc) (.int A.made) (.dic (flD A.fl)) (.int (A.asked + 1)))) := rfl
    obtain ⟨f, hf, hkn⟩ := W.kd i t (getA_some_mem h1)
    have hc' : S.cs c = some (.dic (othKs (.str t.kind) (.cell f0) (keyV t.key) (.int t.tim))) := h3b
    have hck : changeOk A i o = o.all fun p => decide (p.1 ∈ f.1) && !decide (p.1 ∈ f.2) := by
      unfold changeOk kindAt
      rw [h1]
      simp [hf]
    by_cases hok2 : changeOk A i o = true
    · have hall : ∀ S, allF [.lst (o.map (D.bl ∘ fun p => decide (p.1 ∈ f.1) && !decide (p.1 ∈ f.2)))] S = some (.bl true, S) := fun S => by rw [all_bsc, ← hck, hok2]
      have hsub : ∀ p ∈ o, p.1 ∈ t.nums.map (·.1) := fun p hp => by
        rw [hck, List.all_eq_true] at hok2
        have := hok2 p hp
        rw [Bool.and_eq_true] at this
        rw [hkn]
        exact of_decide_eq_true this.1
      by_cases hno : getA A.fl A.asked = some ("no" : Str)
      · refine ⟨KK.setH S l (asked1 A) tc, ?_, ks, fp, by simpa [h1, hok2, failing_no hno] using R1, fr1, fun n hn => .inl hn⟩
        simp [m__law_own, b__law_own, deedD, ho' R, R.tb, notIn_cellD R.tb, h1, h2, hc', getA_kindsD, hf, kindV, chk_own hol hok, hall, hok2, getA_flD, getD_no, hno, hl, putM, failing_no hno, resV, hS1]
      · obtain ⟨S2, q1, q2⟩ := done_change R1 W1 (i := i) (t := t) h1 ho hok hsub
        simp only [hS1, deedD] at q1
        by_cases hh : getA A.fl A.asked = some ("half" : Str)
        · refine ⟨S2, ?_, LeftH.trans fr1 (by simpa [h1, hok2, failing_half hh] using q2)⟩
          simp [m__law_own, b__law_own, deedD, ho' R, R.tb, notIn_cellD R.tb, h1, h2, hc', getA_kindsD, hf, kindV, chk_own hol hok, hall, hok2, getA_flD, getD_no, getD_half, hno, hh, hl, putM, failing_half hh, resV, q1]
        · refine ⟨S2, ?_, LeftH.trans fr1 (by simpa [h1, hok2, failing_go hno hh] using q2)⟩
          simp [m__law_own, b__law_own, deedD, ho' R, R.tb, notIn_cellD R.tb, h1, h2, hc', getA_kindsD, hf, kindV, chk_own hol hok, hall, hok2, getA_flD, getD_no, getD_half, hno, hh, hl, putM, failing_go hno hh, resV, q1]
    · have hall : ∀ S, allF [.lst (o.map (D.bl ∘ fun p => decide (p.1 ∈ f.1) && !decide (p.1 ∈ f.2)))] S = some (.bl false, S) := fun S => by rw [all_bsc, ← hck, Bool.eq_false_iff.mpr hok2]
      refine ⟨S, ?_, ks, fp, by simpa [h1, hok2] using R, .refl _ _, fun n hn => .inl hn⟩
      simp [m__law_own, b__law_own, deedD, ho' R, R.tb, notIn_cellD R.tb, h1, h2, hc', getA_kindsD, hf, kindV, chk_own hol hok, hall, hok2, resV]
end
end KK
/-! P1i: what a deed tells of the program's land. -/
namespace KK
open PySem L2 M3
section
variable {S : S3} {l tc : Nat} {A : LandA} {ks : List (Key × D)} {fp : List Nat}
@[simp] theorem cnt1 : lcnF (.lst [.bl true, .bl false, .bl false]) (.bl true) S = some (.int 1, S) := rfl
@[simp] theorem cnt2 : lcnF (.lst [.bl false, .bl true, .bl false]) (.bl true) S = some (.int 1, S) := rfl
@[simp] theorem cnt3 : lcnF (.lst [.bl false, .bl false, .bl true]) (.bl true) S = some (.int 1, S) := rfl
@[simp] theorem ixx1 : lixF (.lst [.bl true, .bl false, .bl false]) (.bl true) S = some (.int 0, S) := rfl
@[simp] theorem ixx2 : lixF (.lst [.bl false, .bl true, .bl false]) (.bl true) S = some (.int 1, S) := rfl
@[simp] theorem ixx3 : lixF (.lst [.bl false, .bl false, .bl true]) (.bl true) S = some (.int 2, S) := rfl
theorem ask_take (R : RL S l A tc ks fp) (i : Int) : ∃ S', m__law_ask [.cell l, deedD (.take i)] S = .ok (resV (stepA A (.take i)).1) S' ∧ Left S l tc fp (stepA A (.take i)).2 S' := by
  obtain ⟨S', q1, q2⟩ := take_run R i
  refine ⟨S', ?_, q2⟩
  generalize stepA A (.take i) = rb at q1
  obtain ⟨r, B⟩ := rb
  cases r <;> simp only [outR] at q1 <;> simp [m__law_ask, b__law_ask, deedD, lo' R, q1, resV]
theorem ask_change (R : RL S l A tc ks fp) (W : WFA A) (i : Int) {o : List (Str × Int)} (ho : o ≠ []) (hol : o.length ≤ 1000) (hok : (o.map (·.1)).Nodup) : ∃ S', m__law_ask [.cell l, deedD (.change i o)] S = .ok (resV (stepA A (.change i o)).1) S' ∧ Left S l tc fp (stepA A (.change i o)).2 S' := by
  obtain ⟨S', q1, q2⟩ := change_run R W i o ho hol hok
  refine ⟨S', ?_, q2⟩
  generalize stepA A (.change i o) = rb at q1
  obtain ⟨r, B⟩ := rb
  cases r <;> simp only [outR] at q1 <;> simp [m__law_ask, b__law_ask, deedD, lo' R, q1, resV]
theorem ask_make (R : RL S l A tc ks fp) (W : WFA A) {k : Str} {nums : List (Str × Int)} {key : Option Str} {f : List Str × List Str} (hk : getA A.kinds k = some f) (hn : nums.map (·.1) = f.1) (hlen : A.ts.length < 1000) :
    ∃ S', m__law_ask [.cell l, deedD (.make k nums key)] S = .ok (resV (stepA A (.make k nums key)).1) S' ∧ Left S l tc fp (stepA A (.make k nums key)).2 S' := by
  obtain ⟨S', q1, q2⟩ := make_run R W hk hn hlen (key := key)
  refine ⟨S', ?_, q2⟩
  generalize stepA A (.make k nums key) = rb at q1
  obtain ⟨r, B⟩ := rb
  cases key with
  | none => cases r <;> simp only [outR, keyV] at q1 <;> simp [m__law_ask, b__law_ask, deedD, lo' R, q1, resV, keyV]
  | some z => cases r <;> simp only [outR, keyV] at q1 <;> simp [m__law_ask, b__law_ask, deedD, lo' R, q1, resV, keyV]
theorem ask_fails (R : RL S l A tc ks fp) {c : List (Int × Str)} (hl : c.length ≤ 1000) (h0 : ∀ p ∈ c, 0 ≤ p.1 ∧ (p.2 = "no" ∨ p.2 = "half")) :
    ∃ S', m__law_ask [.cell l, deedD (.fails c)] S = .ok (resV (stepA A (.fails c)).1) S' ∧ Left S l tc fp (stepA A (.fails c)).2 S' := by
  obtain ⟨S', q1, q2⟩ := fails_run R hl h0
  exact ⟨S', by simp [m__law_ask, b__law_ask, deedD, lo' R, q1, resV, stepA], q2⟩
end
end KK
/-! P1j: draws. -/
namespace KK
open PySem L2 M3
@[simp] theorem mulG_ii {S : S3} {p q : Int} : mulG (.int p) (.int q) S = if M3.small64 p || M3.small64 q then some (.int (p * q), S) else none := rfl
def prL : List D := [.int 1000003, .int 1000033, .int 1000037, .int 1000039, .int 1000081, .int 1000099, .int 1000117, .int 1000121, .int 1000133, .int 1000151, .int 1000159, .int 1000171, .int 1000183, .int 1000187, .int 1000193, .int 1000199]
theorem pr_at (k : Int) : ∃ p : Int, atI prL (k % 16) = some (.int p) ∧ 0 < p := by
  have h0 : 0 ≤ k % 16 := Int.emod_nonneg _ (by decide)
  have h1 : k % 16 < 16 := Int.emod_lt_of_pos _ (by decide)
  generalize k % 16 = j at h0 h1
  obtain ⟨n, rfl⟩ := Int.eq_ofNat_of_zero_le h0
  have h2 : n < 16 := by omega
  have : n = 0 ∨ n = 1 ∨ n = 2 ∨ n = 3 ∨ n = 4 ∨ n = 5 ∨ n = 6 ∨ n = 7 ∨ n = 8 ∨ n = 9 ∨ n = 10 ∨ n = 11 ∨ n = 12 ∨ n = 13 ∨ n = 14 ∨ n = 15 := by omega
  rcases this with rfl | rfl | rfl | rfl | rfl | rfl | rfl | rfl | rfl | rfl | rfl | rfl | rfl | rfl | rfl | rfl <;> exact ⟨_, rfl, by decide⟩
theorem draw (c k most : Int) (S : S3) (hm : 0 < most) : ∃ i, m__law_draw [.int c, .int k, .int most] S = .ok (.int i) S ∧ 0 ≤ i ∧ i < most := by
  obtain ⟨p, hp, pp⟩ := pr_at k
  refine ⟨(c * 48271 + k * 69621) % p % most, ?_, Int.emod_nonneg _ (by omega), Int.emod_lt_of_pos _ hm⟩
  have hl : (16 : Nat) ≤ lim := by decide
  unfold prL at hp
  simp [m__law_draw, b__law_draw, M3.small64, hp, pp, hm, hl]
/-- the loop that leaves figures away -/
theorem cut_loop (n : Nat) : ∀ (j : Nat) (a k l r : D) (S : S3) (x : D) (q : Int), ∃ (q' : Int) (r' : D), forL (asgN 4) (asgS (b2 (xv 3) (xc (.int 1009)) fdivF) (asgN 3)) ((List.range' j n).map fun i : Nat => .int (0 + (i : Int) * 1)) [some a, some k, some l, some (.int q), some r, none] S = .nx [some a, some k, some l, some (.int q'), some r', none] S := by
  induction n with
  | zero => intro j a k l r S x q; exact ⟨q, r, rfl⟩
  | succ n ih =>
    intro j a k l r S x q
    obtain ⟨q', r', h⟩ := ih (j + 1) a k l (.int (0 + (j : Int) * 1)) S x (q / 1009)
    refine ⟨q', r', ?_⟩
    rw [List.range'_succ, List.map_cons]
    unfold forL
    simp
    simpa using h
theorem cut_loop0 (n : Nat) (a k l : D) (S : S3) (q : Int) : ∃ (q' : Int) (r' : Option D), forL (asgN 4) (asgS (b2 (xv 3) (xc (.int 1009)) fdivF) (asgN 3)) (intsD 0 1 n) [some a, some k, some l, some (.int q), none, none] S = .nx [some a, some k, some l, some (.int q'), r', none] S := by
  cases n with
  | zero => exact ⟨q, none, rfl⟩
  | succ n =>
    obtain ⟨q', r', h⟩ := cut_loop n 1 a k l (.int (0 + ((0 : Nat) : Int) * 1)) S a (q / 1009)
    refine ⟨q', some r', ?_⟩
    unfold intsD
    rw [List.range_eq_range', List.range'_succ, List.map_cons]
    unfold forL
    simp
    simpa using h
theorem num (c k lm : Int) (S : S3) (h0 : 0 ≤ k) (h1 : k < 1000000) (hl : 0 < lm) : ∃ i, m__law_number [.int c, .int k, .int lm] S = .ok (.int i) S ∧ 0 ≤ i ∧ i < lm := by
  obtain ⟨q, r, hq⟩ := cut_loop0 (k % 24).toNat (.int c) (.int k) (.int lm) S (c - 10 ^ (18 : Nat))
  have hf : fit62 (k % 24) = true := by
    have a1 : 0 ≤ k % 24 := Int.emod_nonneg _ (by decide)
    have a2 : k % 24 < 24 := Int.emod_lt_of_pos _ (by decide)
    unfold fit62
    exact decide_eq_true ⟨by omega, by omega⟩
  by_cases hp : 0 < q
  · refine ⟨q % 1009 % lm, ?_, Int.emod_nonneg _ (by omega), Int.emod_lt_of_pos _ hl⟩
    simp at hq
    simp [m__law_number, b__law_number, hf, hq, hp, hl]
  · have s1 : 0 ≤ c % 1000003 := Int.emod_nonneg _ (by decide)
    have s2 : c % 1000003 < 1000003 := Int.emod_lt_of_pos _ (by decide)
    obtain ⟨i, hi, i0, i1⟩ := draw ((c % 1000003 + 977 * k) * (c % 1000003 + 31 * k + 5)) (k % 9 + 1) 999983 S (by decide)
    refine ⟨i % lm, ?_, Int.emod_nonneg _ (by omega), Int.emod_lt_of_pos _ hl⟩
    have m1 : M3.small64 (c % 1000003 + 977 * k) = true := by unfold M3.small64; exact decide_eq_true ⟨by omega, by omega⟩
    have m2 : M3.small64 977 = true := by decide
    have m3 : M3.small64 31 = true := by decide
    simp at hq
    simp [m__law_number, b__law_number, hf, hq, hp, hl, m1, m2, m3, hi]

section
variable {S : S3}
theorem cell_at (ns : List Int) (k : Int) (h0 : 0 ≤ k) : ∃ c, m__law_cell_at [.scr (ns.map .int), .int k] S = .ok (.int c) S := by
  obtain ⟨n, rfl⟩ := Int.eq_ofNat_of_zero_le h0
  by_cases h : n < ns.length
  · have h1 : ((n : Int) < (ns.length : Int)) := by omega
    have h2 : (ns.map D.int)[n]? = some (.int ns[n]) := by simp [h]
    exact ⟨ns[n], by simp [m__law_cell_at, b__law_cell_at, h1, atI_k, h2]⟩
  · have h1 : ¬ ((n : Int) < (ns.length : Int)) := by omega
    exact ⟨0, by simp [m__law_cell_at, b__law_cell_at, h1]⟩
/-- the drawn state -/
def stO (ns : List Int) (b c : Int) : Ob := .lst [.scr (ns.map .int), .int b, .int c]
structure RS (S : S3) (st : Nat) (ns : List Int) (b : Int) : Prop where
  ob : ∃ c, 0 ≤ c ∧ S.cs st = some (stO ns b c)
  fr : st ∉ S.lk
  lt : st < S.nx
  b0 : 0 ≤ b
/-- a store but for the draws' counter -/
def Dr (st : Nat) (ns : List Int) (b : Int) (S S' : S3) : Prop := ∃ c, 0 ≤ c ∧ S' = S.set st (stO ns b c)
theorem set_self {S : S3} {n : Nat} {o : Ob} (h : S.cs n = some o) : S.set n o = S := by
  unfold S3.set
  have : (fun m => cond (Nat.beq m n) (some o) (S.cs m)) = S.cs := by
    funext k
    rw [condN]
    by_cases e : k = n
    · rw [if_pos e, e, h]
    · rw [if_neg e]
  rw [this]
section
variable {S S1 S2 : S3} {st : Nat} {ns : List Int} {b : Int}
theorem RS.dr (R : RS S st ns b) (h : Dr st ns b S S1) : RS S1 st ns b := by
  obtain ⟨c, h0, rfl⟩ := h
  exact ⟨⟨c, h0, by simp⟩, R.fr, R.lt, R.b0⟩
theorem RS.refl (R : RS S st ns b) : Dr st ns b S S := by
  obtain ⟨c, h0, h⟩ := R.ob
  exact ⟨c, h0, (set_self h).symm⟩
theorem Dr.trans (h : Dr st ns b S S1) (h2 : Dr st ns b S1 S2) : Dr st ns b S S2 := by
  obtain ⟨c, h0, rfl⟩ := h
  obtain ⟨c', h0', rfl⟩ := h2
  exact ⟨c', h0', by simp⟩
theorem Dr.fr (h : Dr st ns b S S1) {f : List Nat} (hf : st ∈ f) : Fr S S1 f := by
  obtain ⟨c, h0, rfl⟩ := h
  exact set_fr S st _ f hf
theorem Dr.cs (h : Dr st ns b S S1) {n : Nat} (hn : ¬ n = st) : S1.cs n = S.cs n := by
  obtain ⟨c, h0, rfl⟩ := h
  simp [hn]
theorem Dr.lk (h : Dr st ns b S S1) : S1.lk = S.lk := by
  obtain ⟨c, h0, rfl⟩ := h
  rfl
theorem Dr.nx (h : Dr st ns b S S1) : S1.nx = S.nx := by
  obtain ⟨c, h0, rfl⟩ := h
  rfl
end
theorem next_run {S : S3} {st : Nat} {ns : List Int} {b : Int} (R : RS S st ns b) {lm : Int} (hl : 0 < lm) : ∃ i S', m__law_next [.cell st, .int lm] S = .ok (.int i) S' ∧ Dr st ns b S S' ∧ 0 ≤ i ∧ i < lm := by
  obtain ⟨c, c0, hob⟩ := R.ob
  have h1 : S.cs st = some (.lst [.scr (ns.map .int), .int b, .int c]) := hob
  have hfr := R.fr
  have b0 := R.b0
  have d0 : 0 ≤ (c + 1) / 12 := by omega
  have e0 : 0 ≤ (c + 1) % 12 := by omega
  have e1 : (c + 1) % 12 < 12 := by omega
  obtain ⟨cl, hc⟩ := cell_at (S := S.set st (.lst [.scr (ns.map .int), .int b, .int (c + 1)])) ns (b + (c + 1) / 12) (by omega)
  obtain ⟨i, hi, i0, i1⟩ := num (cl + 31 * ((c + 1) / 12)) ((c + 1) % 12 + 1) lm (S.set st (.lst [.scr (ns.map .int), .int b, .int (c + 1)])) (by omega) (by omega) hl
  refine ⟨i, S.set st (stO ns b (c + 1)), ?_, ⟨c + 1, by omega, rfl⟩, i0, i1⟩
  have m1 : M3.small64 31 = true := by decide
  have x2 : ixN 3 2 = some 2 := by decide
  simp [m__law_next, b__law_next, h1, putM, hfr, x2, hc, m1, hi, stO]
end
/-! ### comprehensions that draw -/
inductive All2 {α β : Type} (Q : α → β → Prop) : List α → List β → Prop
  | nil : All2 Q [] []
  | cons {a : α} {b : β} {as : List α} {bs : List β} : Q a b → All2 Q as bs → All2 Q (a :: as) (b :: bs)
section
variable {st : Nat} {ns : List Int} {b : Int} {t : GT} {c el : CE} {v : Ev}
/-- a turn that draws -/
def TurnR (st : Nat) (ns : List Int) (b : Int) (t : GT) (c el : CE) (v : Ev) (S : S3) (d : D) (Q : Option D → Prop) : Prop := ∃ v1 S1, t d v S = some (v1, S) ∧ Dr st ns b S S1 ∧ ((c v1 S = .ok (.bl false) S1 ∧ Q none) ∨ (c v1 S = .ok (.bl true) S1 ∧ ∃ y S2, Dr st ns b S1 S2 ∧ el v1 S1 = .ok y S2 ∧ Q (some y)))
theorem lcL_draw {Q : D → Option D → Prop} : ∀ (ds : List D) (S : S3), RS S st ns b → (∀ d ∈ ds, ∀ S' : S3, RS S' st ns b → Dr st ns b S S' → TurnR st ns b t c el v S' d (Q d)) → ∃ rs S', lcL t c el v ds S = .ok (rs.filterMap id) S' ∧ Dr st ns b S S' ∧ All2 Q ds rs
  | [], S, R, _ => ⟨[], S, rfl, R.refl, .nil⟩
  | d :: ds, S, R, h => by
    obtain ⟨v1, S1, h1, h2, h3⟩ := h d List.mem_cons_self S R R.refl
    rcases h3 with ⟨h3, q⟩ | ⟨h3, y, S2, h4, h5, q⟩
    · obtain ⟨rs, S', g1, g2, g3⟩ := lcL_draw ds S1 (R.dr h2) fun d hd S' R' D' => h d (List.mem_cons_of_mem _ hd) S' R' (h2.trans D')
      refine ⟨none :: rs, S', ?_, h2.trans g2, .cons q g3⟩
      unfold lcL
      rw [h1]
      simp only [h3, noEx, M3.R.bind, g1]
      rfl
    · obtain ⟨rs, S', g1, g2, g3⟩ := lcL_draw ds S2 ((R.dr h2).dr h4) fun d hd S' R' D' => h d (List.mem_cons_of_mem _ hd) S' R' ((h2.trans h4).trans D')
      refine ⟨some y :: rs, S', ?_, (h2.trans h4).trans g2, .cons q g3⟩
      unfold lcL
      rw [h1]
      simp only [h3, h5, noEx, M3.R.bind, g1]
      rfl
theorem lc_draw {Q : D → Option D → Prop} {vs : List Nat} {src : CS} {ds : List D} {S : S3} (R : RS S st ns b) (hs : src v S = .ok (ds, none) S) (hl : ds.length ≤ lim) (h : ∀ d ∈ ds, ∀ S' : S3, RS S' st ns b → Dr st ns b S S' → TurnR st ns b t c el (wipeD v vs) S' d (Q d)) :
    ∃ rs S', lcM' vs src t c el finT v S = .ok (.lst (rs.filterMap id)) S' ∧ Dr st ns b S S' ∧ All2 Q ds rs := by
  obtain ⟨rs, S', g1, g2, g3⟩ := lcL_draw ds S R h
  refine ⟨rs, S', ?_, g2, g3⟩
  unfold lcM'
  rw [hs]
  simp only [M3.R.bind, hl, if_true, g1, noEx, unlR]
  rfl
end
end KK
/-! P1k: drawn kinds. -/
namespace KK
open PySem L2 M3
def kNames : List Str := ["net", "make", "k", "z", "of"]
def fNames : List Str := ["size", "a", "take", "of", "z"]
theorem nok1 : NameOk "net" := fun S => by kernel_rfl
theorem nok2 : NameOk "make" := fun S => by kernel_rfl
theorem nok3 : NameOk "k" := fun S => by kernel_rfl
theorem nok4 : NameOk "z" := fun S => by kernel_rfl
theorem nok5 : NameOk "of" := fun S => by kernel_rfl
theorem nok6 : NameOk "size" := fun S => by kernel_rfl
theorem nok7 : NameOk "a" := fun S => by kernel_rfl
theorem nok8 : NameOk "take" := fun S => by kernel_rfl
theorem kNames_ok : ∀ z ∈ kNames, NameOk z := by
  intro z hz
  simp only [kNames, List.mem_cons, List.not_mem_nil, or_false] at hz
  rcases hz with rfl | rfl | rfl | rfl | rfl
  · exact nok1
  · exact nok2
  · exact nok3
  · exact nok4
  · exact nok5
theorem fNames_ok : ∀ z ∈ fNames, NameOk z := by
  intro z hz
  simp only [fNames, List.mem_cons, List.not_mem_nil, or_false] at hz
  rcases hz with rfl | rfl | rfl | rfl | rfl
  · exact nok6
  · exact nok7
  · exact nok8
  · exact nok5
  · exact nok4
theorem kNames_nd : kNames.Nodup := by decide +kernel
theorem fNames_nd : fNames.Nodup := by decide +kernel
theorem fNames_id : ("id" : Str) ∉ fNames := by decide +kernel
theorem cut_from {xs : List D} {i : Int} (h : 0 ≤ i) : cutD xs (some i) none = xs.drop i.toNat := by
  unfold cutD
  have e : HT.sIx xs.length 0 (some i) = min i.toNat xs.length := by
    show (if i < 0 then _ else min i.toNat xs.length) = _
    rw [if_neg (by omega)]
  rw [e, HT.sIx_none]
  by_cases h1 : i.toNat ≤ xs.length
  · rw [Nat.min_eq_left h1, List.take_of_length_le (by rw [List.length_drop]; omega)]
  · rw [Nat.min_eq_right (by omega), List.drop_eq_nil_of_le (show xs.length ≤ i.toNat by omega), List.drop_eq_nil_of_le (Nat.le_refl _), List.take_nil]
theorem cut_to {xs : List D} {i : Int} (h : 0 ≤ i) : cutD xs none (some i) = xs.take i.toNat := by
  unfold cutD
  have e : HT.sIx xs.length xs.length (some i) = min i.toNat xs.length := by
    show (if i < 0 then _ else min i.toNat xs.length) = _
    rw [if_neg (by omega)]
  rw [e, HT.sIx_none, List.drop_zero, Nat.sub_zero]
  by_cases h1 : i.toNat ≤ xs.length
  · rw [Nat.min_eq_left h1]
  · rw [Nat.min_eq_right (by omega), List.take_of_length_le (show xs.length ≤ i.toNat by omega), List.take_of_length_le (Nat.le_refl _)]
section
variable {S : S3} {st : Nat} {ns : List Int} {b : Int}
@[simp] theorem slB_lst {xs : List D} {lo hi : Option Int} : slB (.lst xs) lo hi S = some (.lst (cutD xs lo hi), S) := rfl
theorem all2_sub {fs : List Str} {rs : List (Option D)} (h : All2 (fun d r => r = none ∨ r = some d) (fs.map D.str) rs) : ∃ fx : List Str, rs.filterMap id = fx.map .str ∧ fx.Sublist fs := by
  generalize hd : fs.map D.str = ds at h
  induction h generalizing fs with
  | nil => exact ⟨[], rfl, by cases fs with | nil => exact .slnil | cons x r => cases hd⟩
  | cons q t ih =>
    cases fs with
    | nil => cases hd
    | cons x r =>
      rw [List.map_cons] at hd
      cases hd
      obtain ⟨fx, e, s⟩ := ih rfl
      rcases q with rfl | rfl
      · exact ⟨fx, by simpa using e, s.cons _⟩
      · exact ⟨x :: fx, by simpa using e, s.cons₂ _⟩
/-- the fixed fields are drawn -/
theorem lc_fix {v1 v2 v3 : Option D} {fs : List Str} (hl : fs.length ≤ 1000) (R : RS S st ns b) : ∃ (fx : List Str) (S' : S3), lcM' [5] (anyS (xv 4)) (asgN 5) (b2 (callM (aCons (xv 0) (aCons (xc (.int 3)) aNil)) m__law_next []) (xc (.int 0)) eqO) (xv 5) finT [some (.cell st), v1, v2, v3, some (.lst (fs.map .str)), none] S = .ok (.lst (fx.map .str)) S' ∧ Dr st ns b S S' ∧ fx.Sublist fs := by
  obtain ⟨rs, S', g1, g2, g3⟩ := lc_draw (t := asgN 5) (c := b2 (callM (aCons (xv 0) (aCons (xc (.int 3)) aNil)) m__law_next []) (xc (.int 0)) eqO) (el := xv 5) (vs := [5]) (v := [some (.cell st), v1, v2, v3, some (.lst (fs.map .str)), none]) (src := anyS (xv 4)) (ds := fs.map .str) (Q := fun d r => r = none ∨ r = some d) R (by simp [anyK_lst]) (by simp; exact lim5 hl) (fun d hd S' R' _ => by
    obtain ⟨i, S1, q1, q2, q3, q4⟩ := next_run R' (lm := 3) (by decide)
    refine ⟨_, S1, by simp [wipeD]; rfl, q2, ?_⟩
    by_cases h : i = 0
    · exact .inr ⟨by simp [q1, h], d, S1, (R'.dr q2).refl, by simp, .inr rfl⟩
    · exact .inl ⟨by simp [q1, h], .inl rfl⟩)
  obtain ⟨fx, e, s⟩ := all2_sub g3
  exact ⟨fx, S', by rw [g1, e], g2, s⟩
/-- the fields are drawn -/
theorem cut_fields {i j : Int} (h0 : 0 ≤ i) (h1 : i < 2) (h2 : 0 ≤ j) : ∃ fs : List Str, cutD (cutD (fNames.map D.str) (some i) none) none (some (1 + j)) = fs.map .str ∧ fs.Sublist fNames ∧ 1 ≤ fs.length ∧ fs.length ≤ 5 := by
  refine ⟨(fNames.drop i.toNat).take (1 + j).toNat, ?_, ?_, ?_, ?_⟩
  · rw [cut_from h0, cut_to (by omega), List.map_take, List.map_drop]
  · exact (List.take_sublist _ _).trans (List.drop_sublist _ _)
  · rw [List.length_take, List.length_drop]
    have : fNames.length = 5 := rfl
    omega
  · rw [List.length_take, List.length_drop]
    have : fNames.length = 5 := rfl
    omega
theorem KindOk.of {fs fx : List Str} (h : fs.Sublist fNames) (h1 : 1 ≤ fs.length) (h5 : fs.length ≤ 5) (hx : fx.Sublist fs) : KindOk (fs, fx) where
  n1 := fun z hz => fNames_ok z (h.subset hz)
  n2 := fun z hz => fNames_ok z (h.subset (hx.subset hz))
  d1 := fNames_nd.sublist h
  d2 := fNames_nd.sublist (hx.trans h)
  l1 := h1
  l5 := h5
  l2 := Nat.le_trans hx.length_le h5
  id := fun m => fNames_id (h.subset m)
  sub := fun z hz => hx.subset hz
/-- one kind more, and so on -/
theorem kinds_loop : ∀ (names : List Str) (S : S3) (n1 : Nat) (acc : List (Str × List Str × List Str)) (v3 v4 : Option D), RS S st ns b → S.cs n1 = some (.dic (kindsD acc)) → ¬ n1 = st → n1 ∉ S.lk → (∀ z ∈ names, NameOk z) → (acc.map (·.1) ++ names).Nodup → (∀ p ∈ acc, NameOk p.1 ∧ KindOk p.2) → acc.length + names.length ≤ 1000 →
    ∃ S' acc' v3' v4', forL (asgN 3) (seqM (asgS (slM (slM (xv 2) (oSo (callM (aCons (xv 0) (aCons (xc (.int 2)) aNil)) m__law_next [])) oNo) oNo (oSo (b2 (xc (.int 1)) (callM (aCons (xv 0) (aCons (xc (.int 5)) aNil)) m__law_next []) addF))) (asgN 4))
      (asgS (tupM (aCons (xv 4) (aCons (lcM' [5] (anyS (xv 4)) (asgN 5) (b2 (callM (aCons (xv 0) (aCons (xc (.int 3)) aNil)) m__law_next []) (xc (.int 0)) eqO) (xv 5) finT) aNil))) (asgSub (xv 1) (xv 3)))) (names.map .str) [some (.cell st), some (.cell n1), some (.lst (fNames.map .str)), v3, v4, none] S =
      .nx [some (.cell st), some (.cell n1), some (.lst (fNames.map .str)), v3', v4', none] S' ∧ RS S' st ns b ∧ S'.cs n1 = some (.dic (kindsD acc')) ∧ S'.nx = S.nx ∧ S'.lk = S.lk ∧ (∀ n, ¬ n = st → ¬ n = n1 → S'.cs n = S.cs n) ∧ acc'.map (·.1) = acc.map (·.1) ++ names ∧ (∀ p ∈ acc', NameOk p.1 ∧ KindOk p.2)
  | [], S, n1, acc, v3, v4, R, h1, h2, h3, h4, h5, h6, h7 => ⟨S, acc, v3, v4, rfl, R, h1, rfl, rfl, fun _ _ _ => rfl, by simp, h6⟩
  | z :: names, S, n1, acc, v3, v4, R, h1, h2, h3, h4, h5, h6, h7 => by
    obtain ⟨i, S1, q1, q2, q3, q4⟩ := next_run R (lm := 2) (by decide)
    have R1 := R.dr q2
    obtain ⟨j, S2, p1, p2, p3, p4⟩ := next_run R1 (lm := 5) (by decide)
    have R2 := R1.dr p2
    obtain ⟨fs, c1, c2, c3, c4⟩ := cut_fields q3 q4 p3
    obtain ⟨fx, S3', d1, d2, d3⟩ := lc_fix (v1 := some (.cell n1)) (v2 := some (.lst (fNames.map .str))) (v3 := some (.str z)) (fs := fs) (by omega) R2
    have R3 := R2.dr d2
    have hD := (q2.trans p2).trans d2
    have hc3 : S3'.cs n1 = some (.dic (kindsD acc)) := by rw [hD.cs h2]; exact h1
    have hl3 : n1 ∉ S3'.lk := by rw [hD.lk]; exact h3
    have hz : getA (kindsD acc) (.inr z) = none := by
      rw [getA_kindsD]
      have : getA acc z = none := getA_none.mpr fun m => by
        rw [List.nodup_append] at h5
        exact h5.2.2 z m z List.mem_cons_self rfl
      rw [this]
      rfl
    have hput : putA (kindsD acc) (.inr z) (.tup [.lst (fs.map .str), .lst (fx.map .str)]) = kindsD (acc ++ [(z, fs, fx)]) := by
      rw [putA_new hz]
      simp [kindsD, kindV]
    have hlen : (kindsD acc).length < lim := by
      have : (kindsD acc).length = acc.length := List.length_map _
      rw [this]
      rw [List.length_cons] at h7
      exact Nat.lt_of_lt_of_le (show acc.length < 1001 by omega) (by decide)
    let S4 := S3'.set n1 (.dic (kindsD (acc ++ [(z, fs, fx)])))
    have R4 : RS S4 st ns b := by
      obtain ⟨c, e0, e1⟩ := R3.ob
      exact ⟨⟨c, e0, by simp [S4, Ne.symm h2, e1]⟩, R3.fr, R3.lt, R3.b0⟩
    obtain ⟨S', acc', v3', v4', g1, g2, g3, g4, g5, g6, g7, g8⟩ := kinds_loop names S4 n1 (acc ++ [(z, fs, fx)]) (some (.str z)) (some (.lst (fs.map .str))) R4 (by simp [S4]) h2 hl3 (fun y hy => h4 y (List.mem_cons_of_mem _ hy))
      (by simpa [List.append_assoc] using h5) (fun p hp => by
        rcases List.mem_append.mp hp with m | m
        · exact h6 p m
        · have : p = (z, fs, fx) := by simpa using m
          rw [this]
          exact ⟨h4 z List.mem_cons_self, KindOk.of c2 c3 c4 d3⟩) (by rw [List.length_append]; simp at h7 ⊢; omega)
    refine ⟨S', acc', v3', v4', ?_, g2, g3, by rw [g4]; exact hD.nx, by rw [g5]; exact hD.lk, fun n a1 a2 => by rw [g6 n a1 a2]; simp [S4, a2]; exact hD.cs a1, by rw [g7]; simp, g8⟩
    rw [List.map_cons]
    unfold forL
    simp [q1, p1, c1, d1, hc3, hl3, putM, hlen, hput]
    exact g1
theorem kinds_run (R : RS S st ns b) (hk : ∀ n ∈ S.lk, n < S.nx) : ∃ ks S', m__law_kinds [.cell st] S = .ok (.dic (kindsD ks)) S' ∧ KindsOk ks ∧ RS S' st ns b ∧ S'.lk = S.lk ∧ S.nx ≤ S'.nx ∧ (∀ n, n < S.nx → ¬ n = st → S'.cs n = S.cs n) := by
  have l0 := R.lt
  have R1 : RS (S.new (.dic [])) st ns b := by
    obtain ⟨c, e0, e1⟩ := R.ob
    have : ¬ st = S.nx := by omega
    exact ⟨⟨c, e0, by simp [this, e1]⟩, R.fr, Nat.lt_succ_of_lt R.lt, R.b0⟩
  obtain ⟨i, S1, q1, q2, q3, q4⟩ := next_run R1 (lm := 5) (by decide)
  have R2 := R1.dr q2
  have hn : ¬ S.nx = st := by omega
  have h1 : S1.cs S.nx = some (.dic (kindsD [])) := by rw [q2.cs hn]; simp; rfl
  have h2 : S.nx ∉ S1.lk := by
    rw [q2.lk]
    exact fun m => by have := hk _ m; omega
  have hcut : cutD (kNames.map D.str) none (some (1 + i)) = (kNames.take (1 + i).toNat).map .str := by rw [cut_to (by omega), List.map_take]
  have hnl : (kNames.take (1 + i).toNat).length = (1 + i).toNat := by
    rw [List.length_take]
    have : kNames.length = 5 := rfl
    omega
  obtain ⟨S', acc', v3', v4', g1, g2, g3, g4, g5, g6, g7, g8⟩ := kinds_loop (kNames.take (1 + i).toNat) S1 S.nx [] none none R2 h1 hn h2 (fun z hz => kNames_ok z (List.mem_of_mem_take hz)) (by simpa using kNames_nd.sublist (List.take_sublist _ _)) (fun p hp => by simp at hp) (by rw [hnl]; simp; omega)
  have hal : acc'.length = (1 + i).toNat := by
    have := congrArg List.length g7
    simpa [hnl] using this
  have h3 : S.nx ∉ S'.lk := by rw [g5]; exact h2
  refine ⟨acc', S'.kill S.nx, ?_, ⟨g8, by rw [g7]; simpa using kNames_nd.sublist (List.take_sublist _ _), by omega, by omega⟩, ?_, ?_, ?_, ?_⟩
  · simp only [kNames, fNames, List.map_cons, List.map_nil] at hcut g1
    simp [m__law_kinds, b__law_kinds, q1, hcut, anyK_lst, -List.map_take]
    rw [g1]
    simp [h3, g3]
  · obtain ⟨c, e0, e1⟩ := g2.ob
    exact ⟨⟨c, e0, by simp [Ne.symm hn, e1]⟩, g2.fr, g2.lt, g2.b0⟩
  · show S'.lk = S.lk
    rw [g5, q2.lk]
    rfl
  · show S.nx ≤ S'.nx
    rw [g4, q2.nx]
    exact Nat.le_succ _
  · intro n a1 a2
    have a3 : ¬ n = S.nx := by omega
    simp [a3]
    rw [g6 n a2 a3, q2.cs a2]
    simp [a3]
end
end KK
/-! P1l: drawn deeds. -/
namespace KK
open PySem L2 M3
def NumOk (n : List (Str × Int)) : Prop := ∀ p ∈ n, -100 ≤ p.2 ∧ p.2 ≤ 100
structure DeedOk (ks : List (Str × List Str × List Str)) (dd : Dd) : Prop where
  ma : ∀ k n key, dd = .make k n key → (∃ f, getA ks k = some f ∧ n.map (·.1) = f.1) ∧ NumOk n
  ch : ∀ i o, dd = .change i o → o ≠ [] ∧ o.length ≤ 1000 ∧ (o.map (·.1)).Nodup ∧ NumOk o
  fa : ∀ c, dd = .fails c → c.length ≤ 1000 ∧ (c.map (·.1)).Nodup ∧ ∀ p ∈ c, 0 ≤ p.1 ∧ (p.2 = "no" ∨ p.2 = "half")
/-! ### dicts of pairs -/
def pairN (p : Str × Int) : D := .tup [.str p.1, .int p.2]
def pairI (p : Int × Str) : D := .tup [.int p.1, .str p.2]
section
variable {S : S3}
theorem pairsOf_N : ∀ l : List (Str × Int), pairsOf S (l.map pairN) = some (numsD l)
  | [] => rfl
  | p :: r => by
    show (match keyOf (D.str p.1), pairsOf S (r.map pairN) with
      | some k, some t => some ((k, D.int p.2) :: t)
      | _, _ => none) = _
    rw [pairsOf_N r]
    rfl
theorem pairsOf_I : ∀ l : List (Int × Str), pairsOf S (l.map pairI) = some (flD l)
  | [] => rfl
  | p :: r => by
    show (match keyOf (D.int p.1), pairsOf S (r.map pairI) with
      | some k, some t => some ((k, D.str p.2) :: t)
      | _, _ => none) = _
    rw [pairsOf_I r]
    rfl
theorem merge_nd {l : List (Key × D)} : ∀ acc : List (Key × D), (acc.map (·.1) ++ l.map (·.1)).Nodup → mergeA acc l = acc ++ l := by
  induction l with
  | nil => intro acc _; simp [mergeA]
  | cons p r ih =>
    intro acc nd
    obtain ⟨k, x⟩ := p
    have h0 : k ∉ acc.map (·.1) := fun m => by
      rw [List.map_cons, List.nodup_append] at nd
      exact nd.2.2 _ m _ List.mem_cons_self rfl
    show mergeA (putA acc k x) r = _
    rw [putA_new (getA_none.mpr h0), ih]
    · simp
    · simpa [List.append_assoc] using nd
theorem numsD_nd {l : List (Str × Int)} (h : (l.map (·.1)).Nodup) : ((numsD l).map (·.1)).Nodup := by
  have := nodup_inr h
  unfold numsD
  rw [List.map_map]
  exact this
theorem dict_N {l : List (Str × Int)} (h : (l.map (·.1)).Nodup) (hl : l.length ≤ 1000) : dictF [.lst (l.map pairN)] S = some (.dic (numsD l), S) := by
  unfold dictF dictB
  simp [pairsOf_N, lim5 hl]
  have := merge_nd (l := numsD l) [] (by simpa using numsD_nd h)
  simpa using this
def mergeI (acc : List (Int × Str)) : List (Int × Str) → List (Int × Str)
  | [] => acc
  | p :: r => mergeI (putA acc p.1 p.2) r
theorem putA_flD {k : Int} {x : Str} : ∀ l : List (Int × Str), putA (flD l) (.inl k) (.str x) = flD (putA l k x)
  | [] => rfl
  | (g, i) :: r => by
    show putA (((Sum.inl g : Key), D.str i) :: flD r) (.inl k) (.str x) = flD (putA ((g, i) :: r) k x)
    unfold putA
    by_cases h : g = k
    · rw [h, if_pos rfl, if_pos rfl]; rfl
    · rw [if_neg h, if_neg (fun e => h (by cases e; rfl))]
      show _ :: putA (flD r) _ _ = _ :: flD (putA r k x)
      rw [putA_flD r]
theorem merge_flD : ∀ (l acc : List (Int × Str)), mergeA (flD acc) (flD l) = flD (mergeI acc l)
  | [], _ => rfl
  | p :: r, acc => by
    show mergeA (putA (flD acc) (.inl p.1) (.str p.2)) (flD r) = _
    rw [putA_flD, merge_flD r]
    rfl
theorem putA_all {P : Int × Str → Prop} {k : Int} {x : Str} (hp : P (k, x)) : ∀ l : List (Int × Str), (∀ p ∈ l, P p) → (∀ p ∈ putA l k x, P p) ∧ (putA l k x).length ≤ l.length + 1
  | [], _ => ⟨fun p h => by
      have : p = (k, x) := by simpa [putA] using h
      rw [this]; exact hp, by simp [putA]⟩
  | (g, i) :: r, h => by
    unfold putA
    by_cases e : g = k
    · rw [if_pos e]
      refine ⟨fun p m => ?_, by simp⟩
      rcases List.mem_cons.mp m with z | z
      · rw [z, e]; exact hp
      · exact h p (List.mem_cons_of_mem _ z)
    · rw [if_neg e]
      obtain ⟨h1, h2⟩ := putA_all hp r fun p m => h p (List.mem_cons_of_mem _ m)
      refine ⟨fun p m => ?_, by simpa using h2⟩
      rcases List.mem_cons.mp m with z | z
      · rw [z]; exact h _ List.mem_cons_self
      · exact h1 p z
theorem mergeI_all {P : Int × Str → Prop} : ∀ (l acc : List (Int × Str)), (∀ p ∈ l, P p) → (∀ p ∈ acc, P p) → (∀ p ∈ mergeI acc l, P p) ∧ (mergeI acc l).length ≤ acc.length + l.length
  | [], acc, _, h => ⟨h, by simp [mergeI]⟩
  | p :: r, acc, h1, h2 => by
    obtain ⟨g1, g2⟩ := putA_all (h1 p List.mem_cons_self) acc h2
    obtain ⟨k1, k2⟩ := mergeI_all r (putA acc p.1 p.2) (fun q m => h1 q (List.mem_cons_of_mem _ m)) g1
    exact ⟨k1, by show (mergeI (putA acc p.1 p.2) r).length ≤ _; simp; omega⟩
theorem putA_nd {k : Int} {x : Str} : ∀ l : List (Int × Str), (l.map (·.1)).Nodup → ((putA l k x).map (·.1)).Nodup ∧ ∀ j, j ∈ (putA l k x).map (·.1) → j ∈ l.map (·.1) ∨ j = k
  | [], _ => ⟨by simp [putA], fun j h => by right; simpa [putA] using h⟩
  | (g, i) :: r, h => by
    rw [List.map_cons] at h
    obtain ⟨n1, n2⟩ := List.nodup_cons.mp h
    unfold putA
    by_cases e : g = k
    · rw [if_pos e]
      exact ⟨by rw [List.map_cons]; exact h, fun j hj => .inl hj⟩
    · rw [if_neg e]
      obtain ⟨h1, h2⟩ := putA_nd r n2 (k := k) (x := x)
      refine ⟨?_, fun j hj => ?_⟩
      · rw [List.map_cons, List.nodup_cons]
        exact ⟨fun m => (h2 _ m).elim n1 e, h1⟩
      · rw [List.map_cons] at hj
        rcases List.mem_cons.mp hj with z | z
        · left; rw [z]; exact List.mem_cons_self
        · exact (h2 _ z).imp (fun z => List.mem_cons_of_mem _ z) id
theorem mergeI_nd : ∀ (l acc : List (Int × Str)), (acc.map (·.1)).Nodup → ((mergeI acc l).map (·.1)).Nodup
  | [], acc, h => h
  | p :: r, acc, h => mergeI_nd r _ (putA_nd acc h).1
theorem dict_I {l : List (Int × Str)} (hl : l.length ≤ 1000) : dictF [.lst (l.map pairI)] S = some (.dic (flD (mergeI [] l)), S) := by
  unfold dictF dictB
  simp [pairsOf_I, lim5 hl]
  exact merge_flD l []
end
/-! ### what is drawn -/
theorem all2_nums {fs : List Str} {rs : List (Option D)} (h : All2 (fun d r => ∃ i : Int, -100 ≤ i ∧ i ≤ 100 ∧ r = some (.tup [d, .int i])) (fs.map D.str) rs) : ∃ n : List (Str × Int), rs.filterMap id = n.map pairN ∧ n.map (·.1) = fs ∧ NumOk n := by
  generalize hd : fs.map D.str = ds at h
  induction h generalizing fs with
  | nil => cases fs with
    | nil => exact ⟨[], rfl, rfl, fun p h => by simp at h⟩
    | cons x r => cases hd
  | cons q t ih =>
    cases fs with
    | nil => cases hd
    | cons x r =>
      rw [List.map_cons] at hd
      cases hd
      obtain ⟨n, e, s, k⟩ := ih rfl
      obtain ⟨i, i0, i1, rfl⟩ := q
      refine ⟨(x, i) :: n, by simpa [pairN] using e, by simp [s], fun p hp => ?_⟩
      rcases List.mem_cons.mp hp with z | z
      · rw [z]; exact ⟨i0, i1⟩
      · exact k p z
theorem all2_some {n : List (Str × Int)} {rs : List (Option D)} (h : All2 (fun d r => r = none ∨ ∃ p ∈ n, d = .str p.1 ∧ r = some (pairN p)) ((n.map (·.1)).map D.str) rs) (hnd : (n.map (·.1)).Nodup) : ∃ o : List (Str × Int), rs.filterMap id = o.map pairN ∧ o.Sublist n := by
  have all : ∀ (m : List (Str × Int)) (rs : List (Option D)), (∀ p ∈ m, p ∈ n) → All2 (fun d r => r = none ∨ ∃ p ∈ n, d = .str p.1 ∧ r = some (pairN p)) ((m.map (·.1)).map D.str) rs → ∃ o : List (Str × Int), rs.filterMap id = o.map pairN ∧ o.Sublist m := by
    intro m
    induction m with
    | nil => intro rs _ h; cases h; exact ⟨[], rfl, .slnil⟩
    | cons p r ih =>
      intro rs hm h
      cases h with
      | cons q t =>
        obtain ⟨o, e, s⟩ := ih _ (fun z hz => hm z (List.mem_cons_of_mem _ hz)) t
        rcases q with rfl | ⟨p', hp', e1, rfl⟩
        · exact ⟨o, by simpa using e, s.cons _⟩
        · have e2 : p.1 = p'.1 := D.str.inj e1
          have e3 : p = p' := by
            have a1 := getA_memS hnd (hm p List.mem_cons_self)
            have a2 := getA_memS hnd hp'
            rw [e2] at a1
            rw [a1] at a2
            exact Prod.ext e2 (Option.some.inj a2)
          exact ⟨p :: o, by rw [← e3]; simpa using e, s.cons₂ _⟩
  exact all n rs (fun p hp => hp) h
theorem all2_ints {ds : List D} {rs : List (Option D)} (h : All2 (fun _ r => ∃ (i : Int) (w : Str), 0 ≤ i ∧ (w = "no" ∨ w = "half") ∧ r = some (.tup [.int i, .str w])) ds rs) : ∃ l : List (Int × Str), rs.filterMap id = l.map pairI ∧ l.length = ds.length ∧ ∀ p ∈ l, 0 ≤ p.1 ∧ (p.2 = "no" ∨ p.2 = "half") := by
  induction h with
  | nil => exact ⟨[], rfl, rfl, fun p h => by simp at h⟩
  | cons q t ih =>
    obtain ⟨l, e, s, k⟩ := ih
    obtain ⟨i, w, i0, hw, rfl⟩ := q
    refine ⟨(i, w) :: l, by simpa [pairI] using e, by simp [s], fun p hp => ?_⟩
    rcases List.mem_cons.mp hp with z | z
    · rw [z]; exact ⟨i0, hw⟩
    · exact k p z
end KK
/-! P1m: the drawn deed. -/
namespace KK
open PySem L2 M3
section
variable {S : S3} {st : Nat} {ns : List Int} {b : Int} {ks : List (Str × List Str × List Str)}
theorem kindsD_len : (kindsD ks).length = ks.length := List.length_map _
theorem atI_in {xs : List D} {i : Int} (h0 : 0 ≤ i) (h1 : i < xs.length) : ∃ x ∈ xs, atI xs i = some x := by
  obtain ⟨n, rfl⟩ := Int.eq_ofNat_of_zero_le h0
  have hn : n < xs.length := by omega
  exact ⟨xs[n], List.getElem_mem hn, by rw [atI_k, List.getElem?_eq_getElem hn]⟩
/-- numbers for a kind's fields -/
theorem lc_nums {v2 v3 v5 v6 v7 v8 v9 v10 : Option D} {k : Str} {f : List Str × List Str} (hk : getA ks k = some f) (hl : f.1.length ≤ 1000) (R : RS S st ns b) : ∃ (n : List (Str × Int)) (S' : S3), lcM' [11] (anyS (b2 (b2 (xv 1) (xv 4) idxO) (xc (.int 0)) idxO)) (asgN 11) yesT (tupM (aCons (xv 11) (aCons (b2 (callM (aCons (xv 0) (aCons (xc (.int 9)) aNil)) m__law_next []) (xc (.int 4)) subF) aNil))) finT [some (.cell st), some (.dic (kindsD ks)), v2, v3, some (.str k), v5, v6, v7, v8, v9, v10, none, none] S =
    .ok (.lst (n.map pairN)) S' ∧ Dr st ns b S S' ∧ n.map (·.1) = f.1 ∧ NumOk n := by
  obtain ⟨rs, S', g1, g2, g3⟩ := lc_draw (t := asgN 11) (c := yesT) (el := tupM (aCons (xv 11) (aCons (b2 (callM (aCons (xv 0) (aCons (xc (.int 9)) aNil)) m__law_next []) (xc (.int 4)) subF) aNil))) (vs := [11]) (v := [some (.cell st), some (.dic (kindsD ks)), v2, v3, some (.str k), v5, v6, v7, v8, v9, v10, none, none]) (src := anyS (b2 (b2 (xv 1) (xv 4) idxO) (xc (.int 0)) idxO)) (ds := f.1.map .str)
    (Q := fun d r => ∃ i : Int, -100 ≤ i ∧ i ≤ 100 ∧ r = some (.tup [d, .int i])) R (by simp [getA_kindsD, hk, kindV, anyK_lst]) (by simp; exact lim5 hl) (fun d hd S' R' _ => by
    obtain ⟨i, S1, q1, q2, q3, q4⟩ := next_run R' (lm := 9) (by decide)
    exact ⟨_, S', by simp [wipeD]; rfl, R'.refl, .inr ⟨rfl, .tup [d, .int (i - 4)], S1, q2, by simp [q1], i - 4, by omega, by omega, rfl⟩⟩)
  obtain ⟨n, e, s, k⟩ := all2_nums g3
  exact ⟨n, S', by rw [g1, e], g2, s, k⟩
theorem lc_some {v1 v2 v3 v4 v6 v7 v8 v9 v10 : Option D} {n : List (Str × Int)} (hn : (n.map (·.1)).Nodup) (hl : n.length ≤ 1000) (R : RS S st ns b) : ∃ (o : List (Str × Int)) (S' : S3), lcM' [11] (anyS (xv 5)) (asgN 11) (b2 (callM (aCons (xv 0) (aCons (xc (.int 2)) aNil)) m__law_next []) (xc (.int 0)) eqO) (tupM (aCons (xv 11) (aCons (b2 (xv 5) (xv 11) idxO) aNil))) finT [some (.cell st), v1, v2, v3, v4, some (.dic (numsD n)), v6, v7, v8, v9, v10, none, none] S =
    .ok (.lst (o.map pairN)) S' ∧ Dr st ns b S S' ∧ o.Sublist n := by
  obtain ⟨rs, S', g1, g2, g3⟩ := lc_draw (t := asgN 11) (c := b2 (callM (aCons (xv 0) (aCons (xc (.int 2)) aNil)) m__law_next []) (xc (.int 0)) eqO) (el := tupM (aCons (xv 11) (aCons (b2 (xv 5) (xv 11) idxO) aNil))) (vs := [11]) (v := [some (.cell st), v1, v2, v3, v4, some (.dic (numsD n)), v6, v7, v8, v9, v10, none, none]) (src := anyS (xv 5)) (ds := (n.map (·.1)).map .str)
    (Q := fun d r => r = none ∨ ∃ p ∈ n, d = .str p.1 ∧ r = some (pairN p)) R (by
      have := keys_numsD n
      simp only [List.map_map] at this
      simp [anyK_dic, this]) (by simp; exact lim5 hl) (fun d hd S' R' _ => by
    obtain ⟨z, hz, rfl⟩ := List.mem_map.mp hd
    obtain ⟨p, hp, rfl⟩ := List.mem_map.mp hz
    have hg : getA n p.1 = some p.2 := getA_memS hn hp
    obtain ⟨i, S1, q1, q2, q3, q4⟩ := next_run R' (lm := 2) (by decide)
    refine ⟨_, S1, by simp [wipeD]; rfl, q2, ?_⟩
    by_cases h : i = 0
    · exact .inr ⟨by simp [q1, h], pairN p, S1, (R'.dr q2).refl, by simp [getA_numsD, hg, pairN], .inr ⟨p, hp, rfl, rfl⟩⟩
    · exact .inl ⟨by simp [q1, h], .inl rfl⟩)
  obtain ⟨o, e, s⟩ := all2_some g3 hn
  exact ⟨o, S', by rw [g1, e], g2, s⟩
theorem lc_counts {v1 v2 v3 v4 v5 v8 v9 v10 v11 : Option D} {m : Int} (h0 : 0 ≤ m) (h1 : m < 4) (R : RS S st ns b) : ∃ (l : List (Int × Str)) (S' : S3), lcM' [12] (rng1S (aCons (xv 6) aNil)) (asgN 12) yesT (tupM (aCons (callM (aCons (xv 0) (aCons (xc (.int 9)) aNil)) m__law_next []) (aCons (b2 (xv 7) (callM (aCons (xv 0) (aCons (xc (.int 2)) aNil)) m__law_next []) idxO) aNil))) finT [some (.cell st), v1, v2, v3, v4, v5, some (.int m), some (.tup [.str "no", .str "half"]), v8, v9, v10, v11, none] S =
    .ok (.lst (l.map pairI)) S' ∧ Dr st ns b S S' ∧ l.length ≤ 4 ∧ ∀ p ∈ l, 0 ≤ p.1 ∧ (p.2 = "no" ∨ p.2 = "half") := by
  have hf : fit62 m = true := by unfold fit62; exact decide_eq_true ⟨by omega, by omega⟩
  obtain ⟨rs, S', g1, g2, g3⟩ := lc_draw (t := asgN 12) (c := yesT) (el := tupM (aCons (callM (aCons (xv 0) (aCons (xc (.int 9)) aNil)) m__law_next []) (aCons (b2 (xv 7) (callM (aCons (xv 0) (aCons (xc (.int 2)) aNil)) m__law_next []) idxO) aNil))) (vs := [12]) (v := [some (.cell st), v1, v2, v3, v4, v5, some (.int m), some (.tup [.str "no", .str "half"]), v8, v9, v10, v11, none]) (src := rng1S (aCons (xv 6) aNil)) (ds := intsD 0 1 m.toNat)
    (Q := fun _ r => ∃ (i : Int) (w : Str), 0 ≤ i ∧ (w = "no" ∨ w = "half") ∧ r = some (.tup [.int i, .str w])) R (by simp [hf]) (by unfold intsD; rw [List.length_map, List.length_range]; exact lim5 (show m.toNat ≤ 1000 by omega)) (fun d hd S' R' _ => by
    obtain ⟨i, S1, q1, q2, q3, q4⟩ := next_run R' (lm := 9) (by decide)
    obtain ⟨j, S2, p1, p2, p3, p4⟩ := next_run (R'.dr q2) (lm := 2) (by decide)
    have hj : j = 0 ∨ j = 1 := by omega
    rcases hj with rfl | rfl
    · exact ⟨_, S', by simp [wipeD]; rfl, R'.refl, .inr ⟨rfl, .tup [.int i, .str "no"], S2, q2.trans p2, by simp [q1, p1], i, "no", q3, .inl rfl, rfl⟩⟩
    · exact ⟨_, S', by simp [wipeD]; rfl, R'.refl, .inr ⟨rfl, .tup [.int i, .str "half"], S2, q2.trans p2, by simp [q1, p1], i, "half", q3, .inr rfl, rfl⟩⟩)
  obtain ⟨l, e, s, k⟩ := all2_ints g3
  exact ⟨l, S', by rw [g1, e], g2, by rw [s]; simp [intsD]; omega, k⟩
theorem deed_run (R : RS S st ns b) (K : KindsOk ks) {made : Int} (hm : 0 ≤ made) : ∃ dd S', m__law_deed [.cell st, .dic (kindsD ks), .int made] S = .ok (deedD dd) S' ∧ Dr st ns b S S' ∧ DeedOk ks dd := by
  obtain ⟨so, S1, a1, a2, a3, a4⟩ := next_run R (lm := 9) (by decide)
  have R1 := R.dr a2
  have hkl : 0 < (ks.length : Int) := by have := K.l1; omega
  obtain ⟨kx, S2, b1, b2, b3, b4⟩ := next_run R1 (lm := ks.length) hkl
  have R2 := R1.dr b2
  obtain ⟨kd, hkd, c1⟩ := atI_in (xs := (ks.map (·.1)).map .str) b3 (by simpa using b4)
  obtain ⟨k, hk, rfl⟩ := List.mem_map.mp hkd
  obtain ⟨p, hp, rfl⟩ := List.mem_map.mp hk
  have hg : getA ks p.1 = some p.2 := getA_memS K.nd hp
  have hko := (K.nm p hp).2
  have hf5 := hko.l5
  obtain ⟨n, S3', d1, d2, d3, d4⟩ := lc_nums (v2 := some (.int made)) (v3 := some (.int so)) (v5 := none) (v6 := none) (v7 := none) (v8 := none) (v9 := none) (v10 := none) hg (by omega) R2
  have R3 := R2.dr d2
  have hnd : (n.map (·.1)).Nodup := by rw [d3]; exact hko.d1
  have hnl : n.length = p.2.1.length := by rw [← d3, List.length_map]
  have hn0 : n ≠ [] := fun e => by have := hko.l1; rw [e] at hnl; simp at hnl; omega
  have dn := dict_N (S := S3') hnd (by omega)
  have hkk := keys_kindsD ks
  have hdr := (a2.trans b2).trans d2
  by_cases s1 : so < 4
  · obtain ⟨j, S4, e1, e2, e3, e4⟩ := next_run R3 (lm := 5) (by decide)
    have hj : j = 0 ∨ j = 1 ∨ j = 2 ∨ j = 3 ∨ j = 4 := by omega
    have key : ∃ key : Option Str, atI [.non, .non, .str "x", .str "y", .str (repS "k" 9)] j = some (keyV key) := by
      rcases hj with rfl | rfl | rfl | rfl | rfl
      · exact ⟨none, rfl⟩
      · exact ⟨none, rfl⟩
      · exact ⟨some "x", rfl⟩
      · exact ⟨some "y", rfl⟩
      · exact ⟨some (repS "k" 9), rfl⟩
    obtain ⟨key, hkey⟩ := key
    have hmul : ∀ S : S3, mulG (.str "k") (.int 9) S = some (.str (repS "k" 9), S) := fun S => rfl
    refine ⟨.make p.1 n key, S4, ?_, hdr.trans e2, ⟨fun k' n' key' e => ?_, fun _ _ e => (nomatch e), fun _ e => (nomatch e)⟩⟩
    · simp [m__law_deed, b__law_deed, a1, kindsD_len, b1, hkk, c1, d1, dn, s1, e1, hmul, hkey, deedD, -List.map_map]
    · cases e; exact ⟨⟨p.2, hg, d3⟩, d4⟩
  · by_cases s2 : so = 8
    · subst s2
      obtain ⟨m, S4, e1, e2, e3, e4⟩ := next_run R3 (lm := 4) (by decide)
      have R4 := R3.dr e2
      obtain ⟨l, S5, f1, f2, f3, f4⟩ := lc_counts (v1 := some (.dic (kindsD ks))) (v2 := some (.int made)) (v3 := some (.int 8)) (v4 := some (.str p.1)) (v5 := some (.dic (numsD n))) (v8 := none) (v9 := none) (v10 := none) (v11 := none) e3 e4 R4
      have di := dict_I (S := S5) (l := l) (by omega)
      refine ⟨.fails (mergeI [] l), S5, ?_, (hdr.trans e2).trans f2, ⟨fun _ _ _ e => (nomatch e), fun _ _ e => (nomatch e), fun c e => ?_⟩⟩
      · simp [m__law_deed, b__law_deed, a1, kindsD_len, b1, hkk, c1, d1, dn, e1, f1, di, deedD, -List.map_map]
      · cases e
        obtain ⟨g1, g2⟩ := mergeI_all (P := fun p => 0 ≤ p.1 ∧ (p.2 = "no" ∨ p.2 = "half")) l [] f4 (fun p h => by simp at h)
        exact ⟨by simp at g2; omega, mergeI_nd l [] (by simp), g1⟩
    · obtain ⟨t, S4, e1, e2, e3, e4⟩ := next_run R3 (lm := made + 1) (by omega)
      have R4 := R3.dr e2
      obtain ⟨o, S5, f1, f2, f3⟩ := lc_some (v1 := some (.dic (kindsD ks))) (v2 := some (.int made)) (v3 := some (.int so)) (v4 := some (.str p.1)) (v6 := none) (v7 := none) (v8 := none) (v9 := some (.int t)) (v10 := none) hnd (by omega) R4
      have hod : (o.map (·.1)).Nodup := hnd.sublist (f3.map _)
      have hol : o.length ≤ 1000 := Nat.le_trans f3.length_le (by omega)
      have do_ := dict_N (S := S5) hod hol
      have hdr2 := (hdr.trans e2).trans f2
      by_cases s3 : so = 7
      · subst s3
        refine ⟨.take t, S5, ?_, hdr2, ⟨fun _ _ _ e => (nomatch e), fun _ _ e => (nomatch e), fun _ e => (nomatch e)⟩⟩
        simp [m__law_deed, b__law_deed, a1, kindsD_len, b1, hkk, c1, d1, dn, e1, f1, do_, deedD, -List.map_map]
      · by_cases ho : o = []
        · refine ⟨.change t n, S5, ?_, hdr2, ⟨fun _ _ _ e => (nomatch e), fun i o' e => ?_, fun _ e => (nomatch e)⟩⟩
          · have hoe : (numsD o).isEmpty = true := by rw [ho]; rfl
            simp [m__law_deed, b__law_deed, a1, kindsD_len, b1, hkk, c1, d1, dn, s1, s2, e1, f1, do_, s3, deedD, ne_dnil, hoe, -List.map_map]
          · cases e; exact ⟨hn0, by omega, hnd, d4⟩
        · have hoe : (numsD o).isEmpty = false := by cases o with | nil => exact absurd rfl ho | cons x r => rfl
          refine ⟨.change t o, S5, ?_, hdr2, ⟨fun _ _ _ e => (nomatch e), fun i o' e => ?_, fun _ e => (nomatch e)⟩⟩
          · simp [m__law_deed, b__law_deed, a1, kindsD_len, b1, hkk, c1, d1, dn, s1, s2, e1, f1, do_, s3, deedD, ne_dnil, hoe, -List.map_map]
          · cases e; exact ⟨ho, hol, hod, fun q hq => d4 q (f3.subset hq)⟩
end
end KK
/-! P1n: texts of short lists. -/
namespace KK
open PySem L2 M3
/-- flat data of a short text -/
def Short (d : D) : Prop := ∃ p, pdFlat d = some p ∧ p.shown.length ≤ 50
theorem textFrom_len2 : ∀ (ts : List Str) (k : Nat) (acc : Str), (∀ t ∈ ts, t.length ≤ 50) → (textFrom k acc ts).length ≤ acc.length + 52 * ts.length
  | [], k, acc, _ => by show acc.length ≤ acc.length + 52 * 0; omega
  | t :: r, k, acc, h => by
    show (textFrom (k + 1) (acc ++ (if k > 0 then ", " else "" : String) ++ t) r).length ≤ _
    have ih := textFrom_len2 r (k + 1) (acc ++ (if k > 0 then ", " else "" : String) ++ t) fun x hx => h x (List.mem_cons_of_mem _ hx)
    have ht := h t List.mem_cons_self
    have e : (acc ++ (if k > 0 then ", " else "" : String) ++ t : Str).length ≤ acc.length + 2 + t.length := by
      rw [Str.length_append, Str.length_append]
      have : (Str.ofString (if k > 0 then ", " else "" : String)).length ≤ 2 := by
        by_cases hk : k > 0
        · rw [if_pos hk]; decide
        · rw [if_neg hk]; decide
      omega
    rw [List.length_cons]
    omega
theorem listText_len {ts : List Str} (h : ∀ t ∈ ts, t.length ≤ 50) : (listText ts).length ≤ 52 * ts.length + 2 := by
  unfold listText
  have := textFrom_len2 ts 0 "[" h
  rw [Str.length_append]
  have e1 : (Str.ofString "[").length = 1 := by decide
  have e2 : (Str.ofString "]").length = 1 := by decide
  omega
theorem pdN_flat {S : S3} {n : Nat} {d : D} {p : PyData} (h : pdFlat d = some p) : pdN S (n + 1) d = some p := by
  unfold pdN
  rw [h]
theorem pdAll_short {S : S3} {n : Nat} : ∀ ds : List D, (∀ d ∈ ds, Short d) → ∃ ps, (∀ S n, pdAll (pdN S (n + 1)) ds = some ps) ∧ (PyData.shownAll ps).length = ds.length ∧ ∀ t ∈ PyData.shownAll ps, t.length ≤ 50
  | [], _ => ⟨[], fun _ _ => rfl, by simp [PyData.shownAll], fun t h => by simp [PyData.shownAll] at h⟩
  | d :: r, h => by
    obtain ⟨p, hp, hl⟩ := h d List.mem_cons_self
    obtain ⟨ps, h1, h2, h3⟩ := pdAll_short (S := S) (n := n) r fun x hx => h x (List.mem_cons_of_mem _ hx)
    refine ⟨p :: ps, fun S n => ?_, by simp [PyData.shownAll, h2], fun t ht => ?_⟩
    · unfold pdAll
      rw [pdN_flat hp, h1]
    · simp only [PyData.shownAll, List.mem_cons] at ht
      rcases ht with z | z
      · rw [z]; exact hl
      · exact h3 t z
/-- the text of a short list: it hangs on the list alone -/
theorem str_list {ds : List D} (h : ∀ d ∈ ds, Short d) (hl : ds.length ≤ 1000) : ∃ z : Str, (∀ S : S3, strF [.lst ds] S = some (.str z, S)) ∧ ∀ (S : S3) (n : Nat), S.cs n = some (.lst ds) → strF [.cell n] S = some (.str z, S) := by
  obtain ⟨ps, h1, h2, h3⟩ := pdAll_short (S := S0) (n := 0) ds h
  have hz : (PyData.list ps).shown.length ≤ lim := by
    simp only [PyData.shown]
    have := listText_len h3
    rw [h2] at this
    exact Nat.le_trans this (Nat.le_trans (show 52 * ds.length + 2 ≤ 60000 by omega) (by decide))
  refine ⟨(PyData.list ps).shown, fun S => ?_, fun S n hn => ?_⟩
  · have e : pdOf S (.lst ds) = some (.list ps) := by
      show pdN S 6 (.lst ds) = _
      show (pdAll (pdN S 5) ds).map PyData.list = _
      rw [h1]
      rfl
    show (match pdFlat (.lst ds) with
      | some _ => none
      | none => match pdOf S (.lst ds) with
        | some p => if p.shown.length ≤ lim then some (D.str p.shown, S) else none
        | none => _) = _
    rw [e]
    show (if (PyData.list ps).shown.length ≤ lim then _ else _) = _
    rw [if_pos hz]
  · have e : pdOf S (.cell n) = some (.list ps) := by
      unfold pdOf
      simp only [dicOf_cell, hn]
      unfold pdN
      simp only [pdFlat, lstOf_cell, hn]
      rw [h1]
      rfl
    show (match pdFlat (.cell n) with
      | some _ => none
      | none => match pdOf S (.cell n) with
        | some p => if p.shown.length ≤ lim then some (D.str p.shown, S) else none
        | none => _) = _
    rw [e]
    show (if (PyData.list ps).shown.length ≤ lim then _ else _) = _
    rw [if_pos hz]
theorem short_non : Short .non := ⟨_, rfl, by simp only [PyData.shown]; decide⟩
theorem short_int {i : Int} (h0 : -100 ≤ i) (h1 : i < 10 ^ 9) : Short (.int i) := by
  have hz : i.natAbs.log2 < 1920 := by
    have h : i.natAbs < 2 ^ 1920 := by
      have : i.natAbs < 2 ^ 31 := by omega
      exact Nat.lt_of_lt_of_le this (Nat.pow_le_pow_right (by decide) (by decide))
    by_cases e : i.natAbs = 0
    · rw [e]; decide
    · exact (Nat.log2_lt e).mpr h
  refine ⟨.int i, by show (if i.natAbs.log2 < 1920 then some (PyData.int i) else none) = _; rw [if_pos hz], ?_⟩
  simp only [PyData.shown]
  by_cases hn : 0 ≤ i
  · have := PyProof.Rows.toString_length_le hn (by decide : 0 < 9) h1
    exact Nat.le_trans this (by decide)
  · obtain ⟨n, rfl⟩ : ∃ n : Nat, i = Int.negSucc n := by
      cases i with
      | ofNat n => exact absurd (Int.natCast_nonneg n) hn
      | negSucc n => exact ⟨n, rfl⟩
    have hn2 : n < 100 := by omega
    have all : ∀ n : Fin 100, (Str.ofString (toString (Int.negSucc n.1))).length ≤ 50 := by decide +kernel
    exact all ⟨n, hn2⟩
theorem short_thing : Short (.str "thing") := ⟨_, rfl, by simp only [PyData.shown]; decide +kernel⟩
theorem short_fields : Short (.str "fields") := ⟨_, rfl, by simp only [PyData.shown]; decide +kernel⟩
theorem short_failed : Short (.str "failed") := ⟨_, rfl, by simp only [PyData.shown]; decide +kernel⟩
end KK
/-! P1o: the looks are right. -/
namespace KK
open PySem L2 M3
/-- what is in bounds -/
structure Bnd (A : LandA) (k : Nat) : Prop where
  th : ∀ p ∈ A.ts, 0 ≤ p.1 ∧ p.1 < 100000 ∧ 0 ≤ p.2.tim ∧ p.2.tim ≤ k + 1 ∧ NumOk p.2.nums
  ln : A.ts.length ≤ k
  md : 0 ≤ A.made ∧ A.made ≤ k
section
variable {S S' : S3} {l tc h tc' : Nat} {A : LandA} {ks ks' : List (Key × D)} {fp fp' : List Nat}
theorem eqs_strs {n : Nat} : ∀ zs : List Str, eqs (eqF S (n + 1)) (zs.map .str) (zs.map .str) = some true
  | [] => rfl
  | z :: r => by
    have e : eqF S (n + 1) (.str z) (.str z) = some true := by simp [eqF, symEq, scal]
    show (match eqF S (n + 1) (D.str z) (D.str z), eqs (eqF S (n + 1)) (r.map .str) (r.map .str) with
      | some a, some b => some (a && b)
      | _, _ => none) = _
    rw [e, eqs_strs r]
    rfl
theorem ne_strs {zs : List Str} : neO (.lst (zs.map .str)) (.lst (zs.map .str)) S = some (.bl false, S) := by
  unfold neO
  rw [eqF_ll, if_pos rfl, eqs_strs]
  rfl
theorem RL.new (R : RL S l A tc ks fp) (o : Ob) : RL (S.new o) l A tc ks fp := R.frame (fun n hn => by
  have := R.lt n hn
  have : ¬ n = S.nx := by omega
  simp [this]) (Nat.le_succ _) R.fr fun n hn => Nat.lt_succ_of_lt (R.lk n hn)
theorem RH.new (R : RH S l A tc ks fp) (o : Ob) : RH (S.new o) l A tc ks fp := R.frame (fun n hn => by
  have := R.lt n hn
  have : ¬ n = S.nx := by omega
  simp [this]) (Nat.le_succ _) R.fr fun n hn => Nat.lt_succ_of_lt (R.lk n hn)
theorem fm_all {α β : Type} {g : α → Option β} {f : α → β} : ∀ l : List α, (∀ p ∈ l, g p = some (f p)) → l.filterMap g = l.map f
  | [], _ => rfl
  | p :: r, h => by rw [List.filterMap_cons, h p List.mem_cons_self, List.map_cons, fm_all r fun q hq => h q (List.mem_cons_of_mem _ hq)]
/-- all numbers of a told dict -/
theorem lc_found {v0 v1 v2 v3 v4 v5 v6 v8 v9 : Option D} {c : Nat} {n : List (Str × Int)} (hc : S.cs c = some (.dic (numsD n))) (hn : (n.map (·.1)).Nodup) (hl : n.length ≤ 1000) :
    lcM' [10] (anyS (xv 7)) (asgN 10) yesT (b2 (xv 7) (xv 10) idxO) finT [v0, v1, v2, v3, v4, v5, v6, some (.cell c), v8, v9, none] S = .ok (.lst (n.map fun p => .int p.2)) S := by
  have hw : Walks (anyS (xv 7)) [v0, v1, v2, v3, v4, v5, v6, some (.cell c), v8, v9, none] S ((n.map (·.1)).map .str) := by
    have := walks_dicC (m := xv 7) (v := [v0, v1, v2, v3, v4, v5, v6, some (.cell c), v8, v9, none]) (S := S) (n := c) (by simp) hc
    rwa [keys_numsD] at this
  rw [lc_pure (f := fun d => match d with | .str z => some (.int ((getA n z).getD 0)) | _ => none) hw (by simp; exact lim5 hl) fun S' h1 h2 h3 d hd => ?_]
  · rw [finT_ap]
    have e : (((n.map (·.1)).map D.str).filterMap fun d => match d with | .str z => some (D.int ((getA n z).getD 0)) | _ => none) = n.map fun p => .int p.2 := by
      rw [List.filterMap_map, List.filterMap_map]
      have : ∀ p ∈ n, ((fun d => match d with | D.str z => some (D.int ((getA n z).getD 0)) | _ => none) ∘ D.str ∘ fun x : Str × Int => x.1) p = some (D.int p.2) := fun p hp => by
        have hg : getA n p.1 = some p.2 := getA_memS hn hp
        simp [hg]
      exact fm_all n this
    rw [e]
  · obtain ⟨z, hz, rfl⟩ := List.mem_map.mp hd
    obtain ⟨p, hp, rfl⟩ := List.mem_map.mp hz
    have hg : getA n p.1 = some p.2 := getA_memS hn hp
    have hc' : S'.cs c = some (.dic (numsD n)) := by rw [h1]; exact hc
    exact ⟨_, by simp [wipeD]; rfl, rfl, by simp [hc', getA_numsD, hg]⟩
theorem lc_mine {v0 v1 v2 v3 v4 v5 v8 v9 : Option D} {c c1 f : Nat} {a1 a2 a3 : D} {n : List (Str × Int)} (hc : S.cs c = some (.dic (numsD n))) (hn : (n.map (·.1)).Nodup) (hl : n.length ≤ 1000) (h1 : S.cs c1 = some (.dic (othKs a1 (.cell f) a2 a3))) (hf : S.cs f = some (.dic (numsD n))) :
    lcM' [10] (anyS (xv 7)) (asgN 10) yesT (b2 (b2 (xv 6) (xc (.str "fields")) idxO) (xv 10) idxO) finT [v0, v1, v2, v3, v4, v5, some (.cell c1), some (.cell c), v8, v9, none] S = .ok (.lst (n.map fun p => .int p.2)) S := by
  have hw : Walks (anyS (xv 7)) [v0, v1, v2, v3, v4, v5, some (.cell c1), some (.cell c), v8, v9, none] S ((n.map (·.1)).map .str) := by
    have := walks_dicC (m := xv 7) (v := [v0, v1, v2, v3, v4, v5, some (.cell c1), some (.cell c), v8, v9, none]) (S := S) (n := c) (by simp) hc
    rwa [keys_numsD] at this
  rw [lc_pure (f := fun d => match d with | .str z => some (.int ((getA n z).getD 0)) | _ => none) hw (by simp; exact lim5 hl) fun S' g1 h2 h3 d hd => ?_]
  · rw [finT_ap]
    have e : (((n.map (·.1)).map D.str).filterMap fun d => match d with | .str z => some (D.int ((getA n z).getD 0)) | _ => none) = n.map fun p => .int p.2 := by
      rw [List.filterMap_map, List.filterMap_map]
      have : ∀ p ∈ n, ((fun d => match d with | D.str z => some (D.int ((getA n z).getD 0)) | _ => none) ∘ D.str ∘ fun x : Str × Int => x.1) p = some (D.int p.2) := fun p hp => by
        have hg : getA n p.1 = some p.2 := getA_memS hn hp
        simp [hg]
      exact fm_all n this
    rw [e]
  · obtain ⟨z, hz, rfl⟩ := List.mem_map.mp hd
    obtain ⟨p, hp, rfl⟩ := List.mem_map.mp hz
    have hg : getA n p.1 = some p.2 := getA_memS hn hp
    have hc' : S'.cs c1 = some (.dic (othKs a1 (.cell f) a2 a3)) := by rw [g1]; exact h1
    have hf' : S'.cs f = some (.dic (numsD n)) := by rw [g1]; exact hf
    exact ⟨_, by simp [wipeD]; rfl, rfl, by simp [hc', hf', getA_numsD, hg]⟩
/-- a thing looked at -/
theorem thing_turn (RP : RL S l A tc ks fp) (RO : RH S h A tc' ks' fp') (W : WFA A) {k : Nat} (B : Bnd A k) (hk : k ≤ 1000) {i : Int} {t : Th} (ht : getA A.ts i = some t) {v3 v4 v6 v7 v8 v9 : Option D} :
    ∃ c, (seqM (asgS (tupM (aCons (b2 (b2 (xv 1) (xc (.str "things")) idxO) (xv 5) idxO) (aCons (methM 15 "fields" (xv 0) (aCons (xv 5) aNil) m_Land_fields []) aNil))) (asgT 2 (asgCons (asgN 6) (asgCons (asgN 7) asgNil))))
 (seqM (ifS (orM (b2 (methM 15 "kind" (xv 0) (aCons (xv 5) aNil) m_Land_kind []) (b2 (xv 6) (xc (.str "kind")) idxO) neO) (b2 (cb (aCons (xv 7) aNil) listF) (b2 (b2 (xv 2) (b2 (xv 6) (xc (.str "kind")) idxO) idxO) (xc (.int 0)) idxO) neO)) (retM (xc (.bl false))) nxM)
 (seqM (ifS (b2 (cb (aCons (lstM (aCons (methM 15 "touched" (xv 0) (aCons (xv 5) aNil) m_Land_touched []) aNil)) aNil) strF) (cb (aCons (lstM (aCons (b2 (xv 6) (xc (.str "touched")) idxO) aNil)) aNil) strF) neO) (retM (xc (.bl false))) nxM)
 (seqM (ifS (b2 (cb (aCons (lcM' [10] (anyS (xv 7)) (asgN 10) yesT (b2 (xv 7) (xv 10) idxO) finT) aNil) strF) (cb (aCons (lcM' [10] (anyS (xv 7)) (asgN 10) yesT (b2 (b2 (xv 6) (xc (.str "fields")) idxO) (xv 10) idxO) finT) aNil) strF) neO) (retM (xc (.bl false))) nxM)
 (exprM (clrD (xv 7))))))) [some (.cell l), some (.cell h), some (.dic (kindsD A.kinds)), v3, v4, some (.int i), v6, v7, v8, v9, none] S =
   .nx [some (.cell l), some (.cell h), some (.dic (kindsD A.kinds)), v3, v4, some (.int i), some (.cell c), some (.cell S.nx), v8, v9, none] (S.new (.dic [])) := by
  rcases RO.ts.get (i := i) with ⟨h1, _⟩ | ⟨t', c, e, h1, h2, ⟨f, hea, hb, hf⟩, h4⟩
  · rw [ht] at h1; cases h1
  · rw [ht] at h1; cases h1
    have hm := getA_some_mem ht
    obtain ⟨b1', b2', b3, b4, b5⟩ := B.th _ hm
    have b3' : 0 ≤ t.tim := b3
    have b4' : t.tim ≤ k + 1 := b4
    obtain ⟨fk, hfk, hkn⟩ := W.kd i t hm
    obtain ⟨fnd, fl5⟩ := W.kn _ _ hfk
    have tnd : (t.nums.map (·.1)).Nodup := by rw [hkn]; exact fnd
    have tl : t.nums.length ≤ 1000 := by
      have e : t.nums.length = fk.1.length := by rw [← hkn, List.length_map]
      omega
    subst hea
    have hfields := fields_run RP W ht
    have RP1 := RP.new (.dic (numsD t.nums))
    have RO1 := RO.new (.dic (numsD t.nums))
    have hcl : c < S.nx := RO.lt c (by simp [h4])
    have hfl : f < S.nx := RO.lt f (by simp [h4])
    have hb1 : (S.new (.dic (numsD t.nums))).cs c = some (.dic (othKs (.str t.kind) (.cell f) (keyV t.key) (.int t.tim))) := by
      have : ¬ c = S.nx := by omega
      simp [this]
      exact hb
    have hf1 : (S.new (.dic (numsD t.nums))).cs f = some (.dic (numsD t.nums)) := by
      have : ¬ f = S.nx := by omega
      simp [this]
      exact hf
    have hn1 : (S.new (.dic (numsD t.nums))).cs S.nx = some (.dic (numsD t.nums)) := by simp
    have hnl : S.nx ∉ S.lk := fun m => by have := RP.lk _ m; omega
    have hkind := kind_run RP1 ht
    have htou := touched_run RP1 ht
    have e1 := list_cellD hn1
    rw [keys_numsD, hkn] at e1
    have e2 := lc_found (v0 := some (.cell l)) (v1 := some (.cell h)) (v2 := some (.dic (kindsD A.kinds))) (v3 := v3) (v4 := v4) (v5 := some (.int i)) (v6 := some (.cell c)) (v8 := v8) (v9 := v9) hn1 tnd tl
    have e3 := lc_mine (v0 := some (.cell l)) (v1 := some (.cell h)) (v2 := some (.dic (kindsD A.kinds))) (v3 := v3) (v4 := v4) (v5 := some (.int i)) (v8 := v8) (v9 := v9) hn1 tnd tl hb1 hf1
    obtain ⟨z1, s1, _⟩ := str_list (ds := [.int t.tim]) (fun d hd => by
      have : d = .int t.tim := by simpa using hd
      rw [this]
      exact short_int (by omega) (by omega)) (by simp)
    obtain ⟨z2, s2, _⟩ := str_list (ds := t.nums.map fun p => .int p.2) (fun d hd => by
      obtain ⟨p, hp, rfl⟩ := List.mem_map.mp hd
      have := b5 p hp
      exact short_int (by omega) (by omega)) (by simp; exact tl)
    have hlo := ho' RO
    have htb := RO.tb
    have nl : ¬ l = S.nx := by have := RP.lt l (by simp); omega
    have nc : ¬ c = S.nx := by omega
    have hbb : S.cs c = some (.dic (othKs (.str t.kind) (.cell f) (keyV t.key) (.int t.tim))) := hb
    refine ⟨c, ?_⟩
    simp [hlo, htb, h2, lo' RP, hfields, hkind, htou, hbb, nl, nc, e1, getA_kindsD, hfk, kindV, ne_strs, s1, s2, e2, e3, hnl]
end
end KK
/-! P1p: all looks. -/
namespace KK
open PySem L2 M3
section
variable {S S' : S3} {l tc h tc' : Nat} {A : LandA} {ks ks' : List (Key × D)} {fp fp' : List Nat}
theorem RL.lock (R : RL S l A tc ks fp) {n : Nat} (hn : n < S.nx) (hf : n ∉ l :: tc :: fp) : RL (S.lock n) l A tc ks fp := R.frame (fun _ _ => rfl) (Nat.le_refl _) (fun m hm z => (List.mem_cons.mp z).elim (fun e => hf (e ▸ hm)) fun z => R.fr m hm z) fun m hm => (List.mem_cons.mp hm).elim (fun e => e ▸ hn) fun z => R.lk m z
theorem RH.lock (R : RH S l A tc ks fp) {n : Nat} (hn : n < S.nx) (hf : n ∉ l :: tc :: fp) : RH (S.lock n) l A tc ks fp := R.frame (fun _ _ => rfl) (Nat.le_refl _) (fun m hm z => (List.mem_cons.mp z).elim (fun e => hf (e ▸ hm)) fun z => R.fr m hm z) fun m hm => (List.mem_cons.mp hm).elim (fun e => e ▸ hn) fun z => R.lk m z
abbrev bThing : SC := (seqM (asgS (tupM (aCons (b2 (b2 (xv 1) (xc (.str "things")) idxO) (xv 5) idxO) (aCons (methM 15 "fields" (xv 0) (aCons (xv 5) aNil) m_Land_fields []) aNil))) (asgT 2 (asgCons (asgN 6) (asgCons (asgN 7) asgNil))))
 (seqM (ifS (orM (b2 (methM 15 "kind" (xv 0) (aCons (xv 5) aNil) m_Land_kind []) (b2 (xv 6) (xc (.str "kind")) idxO) neO) (b2 (cb (aCons (xv 7) aNil) listF) (b2 (b2 (xv 2) (b2 (xv 6) (xc (.str "kind")) idxO) idxO) (xc (.int 0)) idxO) neO)) (retM (xc (.bl false))) nxM)
 (seqM (ifS (b2 (cb (aCons (lstM (aCons (methM 15 "touched" (xv 0) (aCons (xv 5) aNil) m_Land_touched []) aNil)) aNil) strF) (cb (aCons (lstM (aCons (b2 (xv 6) (xc (.str "touched")) idxO) aNil)) aNil) strF) neO) (retM (xc (.bl false))) nxM)
 (seqM (ifS (b2 (cb (aCons (lcM' [10] (anyS (xv 7)) (asgN 10) yesT (b2 (xv 7) (xv 10) idxO) finT) aNil) strF) (cb (aCons (lcM' [10] (anyS (xv 7)) (asgN 10) yesT (b2 (b2 (xv 6) (xc (.str "fields")) idxO) (xv 10) idxO) finT) aNil) strF) neO) (retM (xc (.bl false))) nxM)
 (exprM (clrD (xv 7)))))))
theorem things_loop (W : WFA A) {k : Nat} (B : Bnd A k) (hk : k ≤ 1000) {v3 v4 v8 v9 : Option D} : ∀ (is : List Int) (S : S3) (v5 v6 v7 : Option D), (∀ i ∈ is, ∃ t, getA A.ts i = some t) → RL S l A tc ks fp → RH S h A tc' ks' fp' →
    ∃ S' v5' v6' v7', forL (asgN 5) bThing (is.map .int) [some (.cell l), some (.cell h), some (.dic (kindsD A.kinds)), v3, v4, v5, v6, v7, v8, v9, none] S = .nx [some (.cell l), some (.cell h), some (.dic (kindsD A.kinds)), v3, v4, v5', v6', v7', v8, v9, none] S' ∧ RL S' l A tc ks fp ∧ RH S' h A tc' ks' fp' ∧ Fr S S' []
  | [], S, v5, v6, v7, _, RP, RO => ⟨S, v5, v6, v7, rfl, RP, RO, .refl _ _⟩
  | i :: is, S, v5, v6, v7, hi, RP, RO => by
    obtain ⟨t, ht⟩ := hi i List.mem_cons_self
    obtain ⟨c, q⟩ := thing_turn RP RO W B hk ht (v3 := v3) (v4 := v4) (v6 := v6) (v7 := v7) (v8 := v8) (v9 := v9)
    obtain ⟨S', v5', v6', v7', g1, g2, g3, g4⟩ := things_loop W B hk is (S.new (.dic [])) (some (.int i)) (some (.cell c)) (some (.cell S.nx)) (fun j hj => hi j (List.mem_cons_of_mem _ hj)) (RP.new _) (RO.new _)
    refine ⟨S', v5', v6', v7', ?_, g2, g3, (new_fr S _ []).trans g4 fun n hn => .inl hn⟩
    rw [List.map_cons]
    unfold forL
    rw [asgN_ap]
    show (match bThing [some (.cell l), some (.cell h), some (.dic (kindsD A.kinds)), v3, v4, some (.int i), v6, v7, v8, v9, none] S with
      | .nx v2 S2 => forL (asgN 5) bThing (is.map .int) v2 S2
      | .ct v2 S2 => forL (asgN 5) bThing (is.map .int) v2 S2
      | .bk v2 S2 => .nx v2 S2
      | r => r) = _
    have q' : bThing [some (.cell l), some (.cell h), some (.dic (kindsD A.kinds)), v3, v4, some (.int i), v6, v7, v8, v9, none] S = _ := q
    rw [q']
    exact g1
/-- the ids under a key, by the own land -/
theorem lc_tag (z : Str) {v0 v2 v3 v4 v5 v6 v7 v9 v10 : Option D} (R : RH S h A tc ks fp) (hnd : (A.ts.map (·.1)).Nodup) (hl : ks.length ≤ lim) :
    lcM' [5] (anyS (b2 (xv 1) (xc (.str "things")) idxO)) (asgN 5) (b2 (b2 (b2 (b2 (xv 1) (xc (.str "things")) idxO) (xv 5) idxO) (xc (.str "key")) idxO) (xv 8) eqO) (xv 5) finT [v0, some (.cell h), v2, v3, v4, v5, v6, v7, some (.str z), v9, v10] S =
      .ok (.lst ((A.ts.filter fun p => keyHit (some z) p.2).map fun p => .int p.1)) S := by
  have hw : Walks (anyS (b2 (xv 1) (xc (.str "things")) idxO)) [v0, some (.cell h), v2, v3, v4, v5, v6, v7, some (.str z), v9, v10] S (A.ts.map fun p => .int p.1) := by
    have := walks_dicC (m := b2 (xv 1) (xc (.str "things")) idxO) (v := [v0, some (.cell h), v2, v3, v4, v5, v6, v7, some (.str z), v9, v10]) (S := S) (n := tc) (by simp [ho' R]) R.tb
    rwa [R.ts.keys] at this
  rw [lc_pure (f := fun d => match d with | .int i => (if (match getA A.ts i with | some t => keyHit (some z) t | none => false) then some (.int i) else none) | _ => none) hw (by rw [List.length_map, ← R.ts.len]; exact hl) fun S' h1 h2 h3 dd hd => ?_]
  · rw [finT_ap]
    congr 2
    rw [List.filterMap_map]
    have e : ∀ (l : List (Int × Th)), (∀ p ∈ l, p ∈ A.ts) → l.filterMap ((fun d => match d with | D.int i => (if (match getA A.ts i with | some t => keyHit (some z) t | none => false) then some (D.int i) else none) | _ => none) ∘ fun p : Int × Th => D.int p.1) = (l.filter fun p => keyHit (some z) p.2).map fun p => D.int p.1 := by
      intro l
      induction l with
      | nil => intro _; rfl
      | cons p r ih =>
        intro h
        have hg : getA A.ts p.1 = some p.2 := getA_memS hnd (h p List.mem_cons_self)
        rw [List.filterMap_cons, List.filter_cons, ih fun q hq => h q (List.mem_cons_of_mem _ hq)]
        by_cases hk : keyHit (some z) p.2 = true
        · simp [hg, hk]
        · simp [hg, hk]
    exact e A.ts fun p hp => hp
  · obtain ⟨p, hp, rfl⟩ := List.mem_map.mp hd
    have hg : getA A.ts p.1 = some p.2 := getA_memS hnd hp
    rcases R.ts.get (i := p.1) with ⟨h1', _⟩ | ⟨t', c, e, h1', h2', ⟨f, h3a, h3b, h3c⟩, _⟩
    · rw [hg] at h1'; cases h1'
    · rw [hg] at h1'; cases h1'
      have lo : S'.cs h = some (.dic (hereKs (.dic (kindsD A.kinds)) (.cell tc) (.int A.made) (.dic (flD A.fl)) (.int A.asked))) := by rw [h1]; exact ho' R
      have tb : S'.cs tc = some (.dic ks) := by rw [h1]; exact R.tb
      have hc : S'.cs c = some (.dic (othKs (.str p.2.kind) (.cell f) (keyV p.2.key) (.int p.2.tim))) := by rw [h1]; exact h3b
      refine ⟨_, by simp [wipeD]; rfl, ?_⟩
      cases e : p.2.key with
      | none => simp [keyHit, keyV, hg, e, lo, tb, h2', hc]
      | some j =>
        by_cases hj : j = z
        · simp [keyHit, keyV, hg, e, lo, tb, h2', hc, hj]
        · simp [keyHit, keyV, hg, e, lo, tb, h2', hc, hj]
abbrev bTag : SC := (seqM (asgS (lcM' [5] (anyS (b2 (xv 1) (xc (.str "things")) idxO)) (asgN 5) (b2 (b2 (b2 (b2 (xv 1) (xc (.str "things")) idxO) (xv 5) idxO) (xc (.str "key")) idxO) (xv 8) eqO) (xv 5) finT) (asgN 9))
 (ifS (b2 (cb (aCons (lstM (aCons (methM 15 "made_by" (xv 0) (aCons (xv 8) aNil) m_Land_made_by []) aNil)) aNil) strF) (cb (aCons (lstM (aCons (ifM (b2 (xv 9) (lstM aNil) neO) (b2 (xv 9) (xc (.int 0)) idxO) (xc .non)) aNil)) aNil) strF) neO) (retM (xc (.bl false))) nxM))
theorem tag_turn (RP : RL S l A tc ks fp) (RO : RH S h A tc' ks' fp') (W : WFA A) {k : Nat} (B : Bnd A k) (hk : k ≤ 1000) {z : Str} {v2 v3 v4 v5 v6 v7 v9 v10 : Option D} : ∃ v9', bTag [some (.cell l), some (.cell h), v2, v3, v4, v5, v6, v7, some (.str z), v9, v10] S = .nx [some (.cell l), some (.cell h), v2, v3, v4, v5, v6, v7, some (.str z), v9', v10] S := by
  have hkl : ks'.length ≤ lim := by rw [RO.ts.len]; exact lim5 (by have := B.ln; omega)
  have h1 := lc_tag z (v0 := some (.cell l)) (v2 := v2) (v3 := v3) (v4 := v4) (v5 := v5) (v6 := v6) (v7 := v7) (v9 := v9) (v10 := v10) RO W.nd hkl
  have h2 := made_by_run RP (k := z)
  cases hf : A.ts.find? fun p => keyHit (some z) p.2 with
  | none =>
    rw [hf] at h2
    have he : (A.ts.filter fun p => keyHit (some z) p.2) = [] := by
      rw [find_filter] at hf
      cases h : A.ts.filter fun p => keyHit (some z) p.2 with
      | nil => rfl
      | cons x r => rw [h] at hf; cases hf
    rw [he] at h1
    obtain ⟨z1, s1, _⟩ := str_list (ds := [.non]) (fun d hd => by
      have : d = .non := by simpa using hd
      rw [this]; exact short_non) (by simp)
    refine ⟨some (.lst []), ?_⟩
    simp [h1, h2, lo' RP, ne_nil, s1]
  | some p =>
    rw [hf] at h2
    obtain ⟨r, he⟩ : ∃ r, (A.ts.filter fun p => keyHit (some z) p.2) = p :: r := by
      rw [find_filter] at hf
      cases h : A.ts.filter fun p => keyHit (some z) p.2 with
      | nil => rw [h] at hf; cases hf
      | cons x r => rw [h] at hf; cases hf; exact ⟨r, rfl⟩
    rw [he] at h1
    have hb := B.th p (List.mem_of_find?_eq_some hf)
    obtain ⟨z1, s1, _⟩ := str_list (ds := [.int p.1]) (fun d hd => by
      have : d = .int p.1 := by simpa using hd
      rw [this]; exact short_int (by omega) (by omega)) (by simp)
    refine ⟨some (.lst ((p :: r).map fun p => .int p.1)), ?_⟩
    simp [h1, h2, lo' RP, ne_nil, s1]
theorem tags_loop (RP : RL S l A tc ks fp) (RO : RH S h A tc' ks' fp') (W : WFA A) {k : Nat} (B : Bnd A k) (hk : k ≤ 1000) {v2 v3 v4 v5 v6 v7 v10 : Option D} : ∀ (zs : List Str) (v8 v9 : Option D),
    ∃ v8' v9', forL (asgN 8) bTag (zs.map .str) [some (.cell l), some (.cell h), v2, v3, v4, v5, v6, v7, v8, v9, v10] S = .nx [some (.cell l), some (.cell h), v2, v3, v4, v5, v6, v7, v8', v9', v10] S
  | [], v8, v9 => ⟨v8, v9, rfl⟩
  | z :: zs, v8, v9 => by
    obtain ⟨w9, q⟩ := tag_turn RP RO W B hk (z := z) (v2 := v2) (v3 := v3) (v4 := v4) (v5 := v5) (v6 := v6) (v7 := v7) (v9 := v9) (v10 := v10)
    obtain ⟨v8', v9', g⟩ := tags_loop RP RO W B hk (v2 := v2) (v3 := v3) (v4 := v4) (v5 := v5) (v6 := v6) (v7 := v7) (v10 := v10) zs (some (.str z)) w9
    refine ⟨v8', v9', ?_⟩
    rw [List.map_cons]
    unfold forL
    rw [asgN_ap]
    show (match bTag [some (.cell l), some (.cell h), v2, v3, v4, v5, v6, v7, some (.str z), v9, v10] S with
      | .nx v2 S2 => forL (asgN 8) bTag (zs.map .str) v2 S2
      | .ct v2 S2 => forL (asgN 8) bTag (zs.map .str) v2 S2
      | .bk v2 S2 => .nx v2 S2
      | r => r) = _
    rw [q]
    exact g
theorem srt_mem {α : Type} {le : α → α → Bool} : ∀ (l : List α) (x : α), x ∈ srtB le l → x ∈ l := by
  have ins : ∀ (l : List α) (x y : α), x ∈ insB le y l → x = y ∨ x ∈ l := by
    intro l
    induction l with
    | nil => intro x y h; left; simpa [insB] using h
    | cons a r ih =>
      intro x y h
      unfold insB at h
      split at h
      · rcases List.mem_cons.mp h with z | z
        · exact .inl z
        · exact .inr z
      · rcases List.mem_cons.mp h with z | z
        · exact .inr (by rw [z]; exact List.mem_cons_self)
        · exact (ih x y z).imp id fun z => List.mem_cons_of_mem _ z
  intro l
  induction l with
  | nil => intro x h; simp [srtB] at h
  | cons a r ih =>
    intro x h
    unfold srtB at h
    rcases ins _ x a h with z | z
    · rw [z]; exact List.mem_cons_self
    · exact List.mem_cons_of_mem _ (ih x z)
theorem srt_len {α : Type} {le : α → α → Bool} : ∀ (l : List α), (srtB le l).length = l.length := by
  have ins : ∀ (l : List α) (y : α), (insB le y l).length = l.length + 1 := by
    intro l
    induction l with
    | nil => intro y; rfl
    | cons a r ih =>
      intro y
      unfold insB
      split
      · rfl
      · rw [List.length_cons, ih, List.length_cons]
  intro l
  induction l with
  | nil => rfl
  | cons a r ih =>
    unfold srtB
    rw [ins, ih, List.length_cons]
abbrev bLooks : SC := (seqM (asgS (methM 15 "ids" (xv 0) aNil m_Land_ids []) (asgN 4))
 (seqM (ifS (b2 (cb (aCons (xv 4) aNil) strF) (cb (aCons (cb (aCons (cb (aCons (b2 (xv 1) (xc (.str "things")) idxO) aNil) listF) aNil) sortF) aNil) strF) neO) (retM (xc (.bl false))) nxM)
 (seqM (forM (anyS (xv 4)) (asgN 5) bThing)
 (seqM (exprM (lmM appF (xv 4) (aCons (xc (.int 99)) aNil)))
 (forM (anyS (tupM (aCons (xc (.str "x")) (aCons (xc (.str "y")) (aCons (b2 (xc (.str "k")) (xc (.int 9)) mulG) (aCons (xc (.str "none")) aNil)))))) (asgN 8) bTag)))))
theorem looks_turn (RP : RL S l A tc ks fp) (RO : RH S h A tc' ks' fp') (W : WFA A) {k : Nat} (B : Bnd A k) (hk : k ≤ 900) {v3 v4 v5 v6 v7 v8 v9 : Option D} :
    ∃ S' v4' v5' v6' v7' v8' v9', bLooks [some (.cell l), some (.cell h), some (.dic (kindsD A.kinds)), v3, v4, v5, v6, v7, v8, v9, none] S = .nx [some (.cell l), some (.cell h), some (.dic (kindsD A.kinds)), v3, v4', v5', v6', v7', v8', v9', none] S' ∧ RL S' l A tc ks fp ∧ RH S' h A tc' ks' fp' ∧ Fr S S' [] := by
  have hids := ids_run RP
  let is := srtB leI (A.ts.map (·.1))
  have isl : is.length = A.ts.length := by show (srtB leI _).length = _; rw [srt_len, List.length_map]
  have hbl := B.ln
  have hnl : S.nx ∉ S.lk := fun m => by have := RP.lk _ m; omega
  have hlist : ∀ S1 : S3, S1.cs tc' = some (.dic ks') → listF [.cell tc'] S1 = some (.lst ((A.ts.map (·.1)).map .int), S1) := fun S1 h1 => by
    rw [list_cellD h1, RO.ts.keys, List.map_map]; rfl
  have hshort : ∀ d ∈ is.map D.int, Short d := fun d hd => by
    obtain ⟨i, hi, rfl⟩ := List.mem_map.mp hd
    obtain ⟨p, hp, rfl⟩ := List.mem_map.mp (srt_mem _ _ hi)
    have := B.th p hp
    exact short_int (by omega) (by omega)
  obtain ⟨z1, s1, s2⟩ := str_list hshort (by rw [List.length_map, isl]; omega)
  let S1 := S.new (.lst (is.map .int))
  have RP1 : RL S1 l A tc ks fp := RP.new _
  have RO1 : RH S1 h A tc' ks' fp' := RO.new _
  have hn1 : S1.cs S.nx = some (.lst (is.map .int)) := by simp [S1]
  have hmP : S.nx ∉ l :: tc :: fp := fun m => by have := RP.lt _ m; omega
  have hmO : S.nx ∉ h :: tc' :: fp' := fun m => by have := RO.lt _ m; omega
  obtain ⟨S2, w5, w6, w7, g1, g2, g3, g4⟩ := things_loop W B (by omega) is (S1.lock S.nx) v5 v6 v7 (fun i hi => by
    obtain ⟨p, hp, rfl⟩ := List.mem_map.mp (srt_mem _ _ hi)
    exact ⟨p.2, getA_memS W.nd hp⟩) (RP1.lock (Nat.lt_succ_self _) hmP) (RO1.lock (Nat.lt_succ_self _) hmO) (v3 := v3) (v4 := some (.cell S.nx)) (v8 := v8) (v9 := v9)
  have hlk2 : S2.lk = S.nx :: S.lk := g4.lk
  have hin2 : S.nx ∈ S2.lk := by rw [hlk2]; exact List.mem_cons_self
  have hu : (S2.unlock S.nx).lk = S.lk := by
    show (S2.lk.filter fun m => decide (m ≠ S.nx)) = S.lk
    rw [hlk2, List.filter_cons]
    simp
    exact fun a ha e => hnl (e ▸ ha)
  have hnx2 : S.nx < S2.nx := Nat.lt_of_lt_of_le (Nat.lt_succ_self _) g4.nx
  have hcs2 : (S2.unlock S.nx).cs S.nx = some (.lst (is.map .int)) := by
    show S2.cs S.nx = _
    rw [g4.cs S.nx (Nat.lt_succ_self _) (by simp)]
    exact hn1
  let S3' := (S2.unlock S.nx).set S.nx (.lst (is.map .int ++ [.int 99]))
  have old : ∀ n, n < S.nx → S3'.cs n = S.cs n := fun n hn => by
    have e : ¬ n = S.nx := by omega
    show ((S2.unlock S.nx).set S.nx _).cs n = _
    rw [set_cs, if_neg e]
    show S2.cs n = _
    rw [g4.cs n (Nat.lt_succ_of_lt hn) (by simp)]
    show S1.cs n = _
    simp [S1, e]
  have lkk : S3'.lk = S.lk := hu
  have nxx : S.nx ≤ S3'.nx := Nat.le_of_lt hnx2
  have RP3 : RL S3' l A tc ks fp := RP.frame (fun n hn => old n (RP.lt n hn)) nxx (by rw [lkk]; exact RP.fr) (by rw [lkk]; exact fun n hn => Nat.lt_of_lt_of_le (RP.lk n hn) nxx)
  have RO3 : RH S3' h A tc' ks' fp' := RO.frame (fun n hn => old n (RO.lt n hn)) nxx (by rw [lkk]; exact RO.fr) (by rw [lkk]; exact fun n hn => Nat.lt_of_lt_of_le (RO.lk n hn) nxx)
  obtain ⟨w8, w9, t1⟩ := tags_loop RP3 RO3 W B (by omega) (v2 := some (.dic (kindsD A.kinds))) (v3 := v3) (v4 := some (.cell S.nx)) (v5 := w5) (v6 := w6) (v7 := w7) (v10 := none) ["x", "y", repS "k" 9, "none"] v8 v9
  refine ⟨S3', some (.cell S.nx), w5, w6, w7, w8, w9, ?_, RP3, RO3, ⟨lkk, nxx, fun n hn _ => old n hn⟩⟩
  have hmul : ∀ S : S3, mulG (.str "k") (.int 9) S = some (.str (repS "k" 9), S) := fun S => rfl
  have hlt : is.length < lim := by rw [isl]; exact Nat.lt_of_lt_of_le (show A.ts.length < 1000 by omega) (by decide)
  have hany : anyK (.cell S.nx) S1 = .ok (is.map .int, some S.nx) (S1.lock S.nx) := by
    unfold anyK
    simp only [dicOf_cell, hn1]
    unfold lkS
    simp only [cellOf_cell]
    rw [if_neg (show S.nx ∉ S1.lk from hnl)]
  have htup : ∀ S : S3, anyK (.tup [.str "x", .str "y", .str (repS "k" 9), .str "none"]) S = .ok ([.str "x", .str "y", .str (repS "k" 9), .str "none"], none) S := fun S => rfl
  have hst1 := s2 S1 S.nx hn1
  have hlo1 := ho' RO1
  have hli1 := hlist S1 RO1.tb
  have hso1 := sort_ints (S := S1) (l := A.ts.map (·.1))
  have hs1 : ∀ S : S3, strF [.lst ((srtB leI (A.ts.map (·.1))).map .int)] S = some (.str z1, S) := s1
  have hun : unl (some S.nx) (.nx [some (.cell l), some (.cell h), some (.dic (kindsD A.kinds)), v3, some (.cell S.nx), w5, w6, w7, v8, v9, none] S2) = .nx [some (.cell l), some (.cell h), some (.dic (kindsD A.kinds)), v3, some (.cell S.nx), w5, w6, w7, v8, v9, none] (S2.unlock S.nx) := by
    show (if S.nx ∈ S2.lk then _ else _) = _
    rw [if_pos hin2]
  have hnlu : S.nx ∉ (S2.unlock S.nx).lk := by rw [hu]; exact hnl
  simp only [List.map_cons, List.map_nil] at t1
  have e0 : bLooks [some (.cell l), some (.cell h), some (.dic (kindsD A.kinds)), v3, v4, v5, v6, v7, v8, v9, none] S = ((SR.nx [some (.cell l), some (.cell h), some (.dic (kindsD A.kinds)), v3, some (.cell S.nx), v5, v6, v7, v8, v9, none] S1).seq (seqM (ifS (b2 (cb (aCons (xv 4) aNil) strF) (cb (aCons (cb (aCons (cb (aCons (b2 (xv 1) (xc (.str "things")) idxO) aNil) listF) aNil) sortF) aNil) strF) neO) (retM (xc (.bl false))) nxM)
 (seqM (forM (anyS (xv 4)) (asgN 5) bThing)
 (seqM (exprM (lmM appF (xv 4) (aCons (xc (.int 99)) aNil)))
 (forM (anyS (tupM (aCons (xc (.str "x")) (aCons (xc (.str "y")) (aCons (b2 (xc (.str "k")) (xc (.int 9)) mulG) (aCons (xc (.str "none")) aNil)))))) (asgN 8) bTag))))) := by
    rw [show bLooks = seqM _ _ from rfl, seqM_ap]
    congr 1
    simp [lo' RP, hids, S1, is]
  rw [e0]
  generalize S1 = S1' at *
  simp [hst1, hlo1, hli1, hso1, hs1, hany, g1, hun, hcs2, hnlu, hlt, hmul, htup, -List.map_map]
  exact t1
end
end KK
/-! P1q: a turn of the law. -/
namespace KK
open PySem L2 M3
section
variable {S S' : S3} {l tc h tc' : Nat} {A : LandA} {ks ks' : List (Key × D)} {fp fp' : List Nat}
theorem looks_loop (W : WFA A) {k : Nat} (B : Bnd A k) (hk : k ≤ 900) : ∀ (ds : List D) (S : S3) (v3 v4 v5 v6 v7 v8 v9 : Option D), RL S l A tc ks fp → RH S h A tc' ks' fp' →
    ∃ S' v3' v4' v5' v6' v7' v8' v9', forL (asgN 3) bLooks ds [some (.cell l), some (.cell h), some (.dic (kindsD A.kinds)), v3, v4, v5, v6, v7, v8, v9, none] S = .nx [some (.cell l), some (.cell h), some (.dic (kindsD A.kinds)), v3', v4', v5', v6', v7', v8', v9', none] S' ∧ RL S' l A tc ks fp ∧ RH S' h A tc' ks' fp' ∧ Fr S S' []
  | [], S, v3, v4, v5, v6, v7, v8, v9, RP, RO => ⟨S, v3, v4, v5, v6, v7, v8, v9, rfl, RP, RO, .refl _ _⟩
  | d :: ds, S, v3, v4, v5, v6, v7, v8, v9, RP, RO => by
    obtain ⟨S1, w4, w5, w6, w7, w8, w9, q, RP1, RO1, f1⟩ := looks_turn RP RO W B hk (v3 := some d) (v4 := v4) (v5 := v5) (v6 := v6) (v7 := v7) (v8 := v8) (v9 := v9)
    obtain ⟨S2, u3, u4, u5, u6, u7, u8, u9, g, RP2, RO2, f2⟩ := looks_loop W B hk ds S1 (some d) w4 w5 w6 w7 w8 w9 RP1 RO1
    refine ⟨S2, u3, u4, u5, u6, u7, u8, u9, ?_, RP2, RO2, f1.trans f2 fun n hn => .inl hn⟩
    unfold forL
    rw [asgN_ap]
    show (match bLooks [some (.cell l), some (.cell h), some (.dic (kindsD A.kinds)), some d, v4, v5, v6, v7, v8, v9, none] S with
      | .nx v2 S2 => forL (asgN 3) bLooks ds v2 S2
      | .ct v2 S2 => forL (asgN 3) bLooks ds v2 S2
      | .bk v2 S2 => .nx v2 S2
      | r => r) = _
    rw [q]
    exact g
theorem looks_run (RP : RL S l A tc ks fp) (RO : RH S h A tc' ks' fp') (W : WFA A) {k : Nat} (B : Bnd A k) (hk : k ≤ 900) : ∃ S', m__law_looks_right [.cell l, .cell h, .dic (kindsD A.kinds)] S = .ok (.bl true) S' ∧ RL S' l A tc ks fp ∧ RH S' h A tc' ks' fp' ∧ Fr S S' [] := by
  obtain ⟨S1, u3, u4, u5, u6, u7, u8, u9, g, RP1, RO1, f1⟩ := looks_loop W B hk (intsD 0 1 2) S none none none none none none none RP RO
  refine ⟨S1, ?_, RP1, RO1, f1⟩
  have hf : fit62 2 = true := by decide
  have e : b__law_looks_right = seqM (M3.forM (rng1S (aCons (xc (.int 2)) aNil)) (asgN 3) bLooks) (retM (xc (.bl true))) := rfl
  have g' : forL (asgN 3) bLooks (intsD 0 1 2) [some (.cell l), some (.cell h), some (.dic (kindsD A.kinds)), none, none, none, none, none, none, none, none] S = _ := g
  generalize bLooks = bl at e g'
  simp [m__law_looks_right, e, hf, g']
end
/-! ### what a deed keeps -/
theorem NumOk.set {o n : List (Str × Int)} (ho : NumOk o) (hn : NumOk n) : NumOk (setNums o n) := fun p hp => by
  obtain ⟨q, hq, rfl⟩ := List.mem_map.mp hp
  show -100 ≤ (getA o q.1).getD q.2 ∧ (getA o q.1).getD q.2 ≤ 100
  cases e : getA o q.1 with
  | none => exact hn q hq
  | some x => exact ho _ (getA_some_mem e)
theorem asked1_keep {A : LandA} {k : Nat} (W : WFA A) (B : Bnd A k) : WFA (asked1 A) ∧ Bnd (asked1 A) k := ⟨⟨W.kd, W.lt, W.nd, W.kn⟩, ⟨B.th, B.ln, B.md⟩⟩
theorem Bnd.up {A : LandA} {k : Nat} (B : Bnd A k) : Bnd A (k + 1) := ⟨fun p hp => by have := B.th p hp; refine ⟨this.1, this.2.1, this.2.2.1, by omega, this.2.2.2.2⟩, by have := B.ln; omega, by have := B.md; omega⟩
theorem failing_keep {A : LandA} {k : Nat} {f : LandA → Res × LandA} (W : WFA A) (B : Bnd A k) (h : ∀ A', A'.ts = A.ts → A'.kinds = A.kinds → A'.made = A.made → WFA (f A').2 ∧ Bnd (f A').2 (k + 1) ∧ (f A').2.kinds = A.kinds) : WFA (failing A f).2 ∧ Bnd (failing A f).2 (k + 1) ∧ (failing A f).2.kinds = A.kinds := by
  obtain ⟨W1, B1⟩ := asked1_keep W B
  unfold failing
  split
  · exact ⟨W1, B1.up, rfl⟩
  · split
    · exact h (asked1 A) rfl rfl rfl
    · exact h (asked1 A) rfl rfl rfl
theorem step_keep {A : LandA} {k : Nat} {dd : Dd} (W : WFA A) (B : Bnd A k) (hk : k < 900) (hd : DeedOk A.kinds dd) : WFA (stepA A dd).2 ∧ Bnd (stepA A dd).2 (k + 1) ∧ (stepA A dd).2.kinds = A.kinds := by
  cases dd with
  | make kd n key =>
    obtain ⟨⟨f, hf, hn⟩, hno⟩ := hd.ma _ _ _ rfl
    refine failing_keep W B fun A' h1 h2 h3 => ?_
    cases hc : A'.ts.find? fun p => keyHit key p.2 with
    | some p =>
      rw [doMake_some hc]
      exact ⟨⟨by rw [h1, h2]; exact W.kd, by rw [h1, h3]; exact W.lt, by rw [h1]; exact W.nd, by rw [h2]; exact W.kn⟩, Bnd.up ⟨by rw [h1]; exact B.th, by rw [h1]; exact B.ln, by rw [h3]; exact B.md⟩, h2⟩
    | none =>
      rw [doMake_none hc]
      have hmd := B.md
      refine ⟨⟨fun i t ht => ?_, fun p hp => ?_, ?_, by rw [h2]; exact W.kn⟩, ⟨fun p hp => ?_, ?_, ?_⟩, h2⟩
      · have ht : (i, t) ∈ A'.ts ++ [(A'.made, (⟨kd, n, key, 1⟩ : Th))] := ht
        rcases List.mem_append.mp ht with z | z
        · rw [h1] at z
          have := W.kd i t z
          show ∃ f, getA A'.kinds t.kind = some f ∧ _
          rw [h2]; exact this
        · have : (i, t) = (A'.made, (⟨kd, n, key, 1⟩ : Th)) := by simpa using z
          cases this
          exact ⟨f, by show getA A'.kinds kd = some f; rw [h2]; exact hf, hn⟩
      · have hp : p ∈ A'.ts ++ [(A'.made, (⟨kd, n, key, 1⟩ : Th))] := hp
        show p.1 < A'.made + 1
        rcases List.mem_append.mp hp with z | z
        · rw [h1] at z
          have := W.lt p z
          rw [h3]; omega
        · have : p = (A'.made, (⟨kd, n, key, 1⟩ : Th)) := by simpa using z
          rw [this]
          show A'.made < A'.made + 1
          omega
      · show ((A'.ts ++ [(A'.made, (⟨kd, n, key, 1⟩ : Th))]).map (·.1)).Nodup
        rw [List.map_append, List.nodup_append]
        refine ⟨by rw [h1]; exact W.nd, by simp, fun a ha b hb e => ?_⟩
        have hb : b = A'.made := by simpa using hb
        obtain ⟨p, hp, rfl⟩ := List.mem_map.mp ha
        rw [h1] at hp
        have := W.lt p hp
        rw [h3] at hb
        omega
      · have hp : p ∈ A'.ts ++ [(A'.made, (⟨kd, n, key, 1⟩ : Th))] := hp
        rcases List.mem_append.mp hp with z | z
        · rw [h1] at z
          have := B.th p z
          exact ⟨this.1, this.2.1, this.2.2.1, by omega, this.2.2.2.2⟩
        · have : p = (A'.made, (⟨kd, n, key, 1⟩ : Th)) := by simpa using z
          rw [this]
          refine ⟨by show 0 ≤ A'.made; rw [h3]; exact hmd.1, by show A'.made < 100000; rw [h3]; omega, by show (0 : Int) ≤ 1; omega, by show (1 : Int) ≤ _; omega, hno⟩
      · show (A'.ts ++ [(A'.made, (⟨kd, n, key, 1⟩ : Th))]).length ≤ k + 1
        rw [List.length_append, h1]
        have := B.ln
        simp
        omega
      · show 0 ≤ A'.made + 1 ∧ A'.made + 1 ≤ ((k + 1 : Nat) : Int)
        rw [h3]
        omega
  | take i =>
    rw [show stepA A (.take i) = if (getA A.ts i).isSome then failing A (doTake i) else (.thing, A) from rfl]
    split
    · refine failing_keep W B fun A' h1 h2 h3 => ?_
      refine ⟨⟨fun j t ht => ?_, fun p hp => ?_, ?_, by show ∀ k f, getA A'.kinds k = some f → _; rw [h2]; exact W.kn⟩, Bnd.up ⟨fun p hp => ?_, ?_, by show 0 ≤ A'.made ∧ A'.made ≤ _; rw [h3]; exact B.md⟩, h2⟩
      · have ht : (j, t) ∈ A'.ts.filter _ := ht
        have := W.kd j t (h1 ▸ (List.mem_filter.mp ht).1)
        show ∃ f, getA A'.kinds t.kind = some f ∧ _
        rw [h2]; exact this
      · have hp : p ∈ A'.ts.filter _ := hp
        show p.1 < A'.made
        rw [h3]
        exact W.lt p (h1 ▸ (List.mem_filter.mp hp).1)
      · show ((A'.ts.filter _).map (·.1)).Nodup
        rw [h1]
        exact W.nd.sublist (List.filter_sublist.map _)
      · have hp : p ∈ A'.ts.filter _ := hp
        exact B.th p (h1 ▸ (List.mem_filter.mp hp).1)
      · show (A'.ts.filter _).length ≤ k
        rw [h1]
        exact Nat.le_trans (List.length_filter_le _ _) B.ln
    · exact ⟨W, B.up, rfl⟩
  | change i o =>
    obtain ⟨_, _, _, hno⟩ := hd.ch _ _ rfl
    rw [show stepA A (.change i o) = if (getA A.ts i).isSome then (if changeOk A i o then failing A (doChange i o) else (.fields, A)) else (.thing, A) from rfl]
    split
    · split
      · refine failing_keep W B fun A' h1 h2 h3 => ?_
        have hk2 : ((A'.ts.map fun p => if p.1 = i then (p.1, { p.2 with nums := setNums o p.2.nums, tim := p.2.tim + 1 }) else p).map (·.1)) = A.ts.map (·.1) := by
          rw [List.map_map, h1]
          refine List.map_congr_left fun p hp => ?_
          show (if p.1 = i then (p.1, ({ p.2 with nums := setNums o p.2.nums, tim := p.2.tim + 1 } : Th)) else p).1 = p.1
          by_cases e : p.1 = i
          · rw [if_pos e]
          · rw [if_neg e]
        refine ⟨⟨fun j t ht => ?_, fun p hp => ?_, by show (List.map _ (List.map _ _)).Nodup; rw [hk2]; exact W.nd, by show ∀ k f, getA A'.kinds k = some f → _; rw [h2]; exact W.kn⟩, ⟨fun p hp => ?_, ?_, by show 0 ≤ A'.made ∧ A'.made ≤ _; rw [h3]; have := B.md; omega⟩, h2⟩
        · have ht : (j, t) ∈ A'.ts.map _ := ht
          obtain ⟨q, hq, e⟩ := List.mem_map.mp ht
          rw [h1] at hq
          have := W.kd q.1 q.2 hq
          show ∃ f, getA A'.kinds t.kind = some f ∧ _
          rw [h2]
          by_cases z : q.1 = i
          · rw [if_pos z] at e
            cases e
            obtain ⟨f, g1, g2⟩ := this
            exact ⟨f, g1, by rw [setNums_nd]; exact g2⟩
          · rw [if_neg z] at e
            cases e
            exact this
        · have hp : p ∈ A'.ts.map _ := hp
          obtain ⟨q, hq, e⟩ := List.mem_map.mp hp
          rw [h1] at hq
          have := W.lt q hq
          show p.1 < A'.made
          rw [h3]
          by_cases z : q.1 = i
          · rw [if_pos z] at e; cases e; exact this
          · rw [if_neg z] at e; cases e; exact this
        · have hp : p ∈ A'.ts.map _ := hp
          obtain ⟨q, hq, e⟩ := List.mem_map.mp hp
          rw [h1] at hq
          have := B.th q hq
          by_cases z : q.1 = i
          · rw [if_pos z] at e
            cases e
            exact ⟨this.1, this.2.1, by show 0 ≤ q.2.tim + 1; omega, by show q.2.tim + 1 ≤ _; omega, hno.set this.2.2.2.2⟩
          · rw [if_neg z] at e
            cases e
            exact ⟨this.1, this.2.1, this.2.2.1, by omega, this.2.2.2.2⟩
        · show (A'.ts.map _).length ≤ k + 1
          rw [List.length_map, h1]
          have := B.ln
          omega
      · exact ⟨W, B.up, rfl⟩
    · exact ⟨W, B.up, rfl⟩
  | fails c => exact ⟨⟨W.kd, W.lt, W.nd, W.kn⟩, Bnd.up ⟨B.th, B.ln, B.md⟩, rfl⟩
end KK
/-! P1r: the law's turn, the law. -/
namespace KK
open PySem L2 M3
theorem resV_id {A : LandA} {k : Nat} {dd : Dd} (B : Bnd A k) (hk : k ≤ 900) : Short (resV (stepA A dd).1) := by
  have fl : ∀ f : LandA → Res × LandA, Short (resV (f (asked1 A)).1) → Short (resV (failing A f).1) := fun f h => by
    unfold failing
    split
    · exact short_failed
    · split
      · exact short_failed
      · exact h
  cases dd with
  | make kd n key =>
    refine fl _ ?_
    cases hc : (asked1 A).ts.find? fun p => keyHit key p.2 with
    | some p =>
      rw [doMake_some hc]
      have hp : p ∈ A.ts := List.mem_of_find?_eq_some hc
      have := B.th p hp
      exact short_int (by omega) (by omega)
    | none =>
      rw [doMake_none hc]
      have := B.md
      exact short_int (show -100 ≤ A.made by omega) (show A.made < 10 ^ 9 by omega)
  | take i =>
    rw [show stepA A (.take i) = if (getA A.ts i).isSome then failing A (doTake i) else (.thing, A) from rfl]
    split
    · exact fl _ short_non
    · exact short_thing
  | change i o =>
    rw [show stepA A (.change i o) = if (getA A.ts i).isSome then (if changeOk A i o then failing A (doChange i o) else (.fields, A)) else (.thing, A) from rfl]
    split
    · split
      · exact fl _ short_non
      · exact short_fields
    · exact short_thing
  | fails c => exact short_non
section
variable {S : S3}
theorem eqF_flat {n : Nat} {d : D} {v : V} (h : flatD d = some v) (hs : scal v v = true) : eqF S (n + 1) d d = some true := by
  unfold eqF
  split
  · rfl
  · rw [h]
    simp [hs]
theorem eqk_same {n : Nat} {ks : List (Key × D)} : ∀ l : List (Key × D), (∀ p ∈ l, getA ks p.1 = some p.2 ∧ eqF S n p.2 p.2 = some true) → eqk (eqF S n) l ks = some true
  | [], _ => rfl
  | (k, v) :: r, h => by
    obtain ⟨h1, h2⟩ := h (k, v) List.mem_cons_self
    have h1 : getA ks k = some v := h1
    have h2 : eqF S n v v = some true := h2
    show (match getA ks k with
      | none => (eqk (eqF S n) r ks).map fun _ => false
      | some y => match eqF S n v y, eqk (eqF S n) r ks with
        | some a, some c => some (a && c)
        | _, _ => none) = _
    rw [h1]
    show (match eqF S n v v, eqk (eqF S n) r ks with
      | some a, some c => some (a && c)
      | _, _ => none) = _
    rw [h2, eqk_same r fun p hp => h p (List.mem_cons_of_mem _ hp)]
    rfl
theorem eqF_numsD {n : Nat} {l : List (Str × Int)} (hn : (l.map (·.1)).Nodup) : eqF S (n + 2) (.dic (numsD l)) (.dic (numsD l)) = some true := by
  rw [eqF_dd, eqk_same (numsD l) fun p hp => ?_]
  · simp
  · obtain ⟨q, hq, rfl⟩ := List.mem_map.mp hp
    exact ⟨by rw [getA_numsD, getA_memS hn hq]; rfl, eqF_flat rfl rfl⟩
theorem eqF_flD {n : Nat} {l : List (Int × Str)} (hn : (l.map (·.1)).Nodup) : eqF S (n + 2) (.dic (flD l)) (.dic (flD l)) = some true := by
  rw [eqF_dd, eqk_same (flD l) fun p hp => ?_]
  · simp
  · obtain ⟨q, hq, rfl⟩ := List.mem_map.mp hp
    exact ⟨by rw [getA_flD, getA_memS hn hq]; rfl, eqF_flat rfl rfl⟩
theorem ne_pair {a b : D} (ha : eqF S 9 a a = some true) (hb : eqF S 9 b b = some true) : neO (.tup [a, b]) (.tup [a, b]) S = some (.bl false, S) := by
  unfold neO
  rw [eqF_tt]
  show ((match eqF S 9 a a, (match eqF S 9 b b, (some true : Option Bool) with
      | some x, some y => some (x && y)
      | _, _ => none) with
    | some x, some y => some (x && y)
    | _, _ => none).map fun r => r && _).map _ = _
  rw [ha, hb]
  rfl
theorem slB_13 {a b c d : D} : slB (.tup [a, b, c, d]) (some 1) (some 3) S = some (.tup [b, c], S) := rfl
end
/-- all that stands between two turns -/
structure Std (S : S3) (st : Nat) (ns : List Int) (b : Int) (l h : Nat) (A : LandA) (k : Nat) : Prop where
  rs : RS S st ns b
  wf : WFA A
  bd : Bnd A k
  ko : KindsOk A.kinds
  ex : ∃ tc ks fp tc' ks' fp', RL S l A tc ks fp ∧ RH S h A tc' ks' fp' ∧ st ∉ l :: tc :: fp ∧ st ∉ h :: tc' :: fp' ∧ ∀ n ∈ l :: tc :: fp, n ∉ h :: tc' :: fp'
abbrev bTurn : SC := (seqM (asgS (callM (aCons (xv 2) (aCons (xv 3) (aCons (b2 (xv 5) (xc (.str "made")) idxO) aNil))) m__law_deed []) (asgN 7))
 (seqM (asgS (tupM (aCons (b2 (xv 7) (xc (.int 0)) idxO) (aCons (b2 (xv 7) (xc (.int 1)) idxO) (aCons (ifM (b2 (b2 (xv 7) (xc (.int 2)) idxO) (xc .non) isNotF2) (cb (aCons (b2 (xv 7) (xc (.int 2)) idxO) aNil) dictF) (xc .non)) (aCons (b2 (xv 7) (xc (.int 3)) idxO) aNil))))) (asgN 8))
 (seqM (ifS (b2 (b2 (xv 7) (xc (.int 0)) idxO) (xc (.str "fails")) eqO) (asgS (tupM (aCons (b2 (xv 7) (xc (.int 0)) idxO) (aCons (cb (aCons (b2 (xv 7) (xc (.int 1)) idxO) aNil) dictF) (aCons (xc .non) (aCons (xc .non) aNil))))) (asgN 8)) nxM)
 (seqM (ifS (orM (b2 (cb (aCons (lstM (aCons (callM (aCons (xv 4) (aCons (xv 8) aNil)) m__law_ask []) aNil)) aNil) strF) (cb (aCons (lstM (aCons (callM (aCons (xv 5) (aCons (xv 7) aNil)) m__law_own []) aNil)) aNil) strF) neO) (notM (callM (aCons (xv 4) (aCons (xv 5) (aCons (xv 3) aNil))) m__law_looks_right []))) (retM (xc (.bl false))) nxM)
 (ifS (b2 (slM (xv 8) (oSo (xc (.int 1))) (oSo (xc (.int 3)))) (slM (xv 7) (oSo (xc (.int 1))) (oSo (xc (.int 3)))) neO) (retM (xc (.bl false))) nxM)))))
section
variable {S : S3} {st : Nat} {ns : List Int} {b : Int} {l h : Nat} {A : LandA} {k : Nat}
theorem ask_any {tc : Nat} {ks : List (Key × D)} {fp : List Nat} (R : RL S l A tc ks fp) (W : WFA A) (B : Bnd A k) (hk : k < 900) {dd : Dd} (hd : DeedOk A.kinds dd) : ∃ S', m__law_ask [.cell l, deedD dd] S = .ok (resV (stepA A dd).1) S' ∧ Left S l tc fp (stepA A dd).2 S' := by
  have hl : A.ts.length < 1000 := by have := B.ln; omega
  cases dd with
  | make kd n key => obtain ⟨⟨f, hf, hn⟩, _⟩ := hd.ma _ _ _ rfl; exact ask_make R W hf hn hl
  | take i => exact ask_take R i
  | change i o => obtain ⟨h1, h2, h3, _⟩ := hd.ch _ _ rfl; exact ask_change R W i h1 h2 h3
  | fails c => obtain ⟨h1, _, h2⟩ := hd.fa _ rfl; exact ask_fails R h1 h2
theorem own_any {tc : Nat} {ks : List (Key × D)} {fp : List Nat} (R : RH S l A tc ks fp) (W : WFA A) (B : Bnd A k) (hk : k < 900) {dd : Dd} (hd : DeedOk A.kinds dd) : ∃ S', m__law_own [.cell l, deedD dd] S = .ok (resV (stepA A dd).1) S' ∧ LeftH S l tc fp (stepA A dd).2 S' := by
  have hl : A.ts.length < 1000 := by have := B.ln; omega
  cases dd with
  | make kd n key => exact own_make R W hl
  | take i => exact own_take R W i
  | change i o => obtain ⟨h1, h2, h3, _⟩ := hd.ch _ _ rfl; exact own_change R W i h1 h2 h3
  | fails c => exact own_fails R c
theorem turn_run (T : Std S st ns b l h A k) (hk : k < 900) {v0 v1 v6 v7 v8 : Option D} : ∃ S' A' v7' v8', bTurn [v0, v1, some (.cell st), some (.dic (kindsD A.kinds)), some (.cell l), some (.cell h), v6, v7, v8] S = .nx [v0, v1, some (.cell st), some (.dic (kindsD A.kinds)), some (.cell l), some (.cell h), v6, v7', v8'] S' ∧ Std S' st ns b l h A' (k + 1) ∧ A'.kinds = A.kinds ∧ S'.lk = S.lk := by
  obtain ⟨tc, ks, fp, tc', ks', fp', RP, RO, m1, m2, dj⟩ := T.ex
  obtain ⟨dd, S1, q1, q2, hd⟩ := deed_run T.rs T.ko T.bd.md.1
  have RS1 := T.rs.dr q2
  have RP1 : RL S1 l A tc ks fp := RP.frame (fun n hn => q2.cs fun e => m1 (e ▸ hn)) (by rw [q2.nx]; exact Nat.le_refl _) (by rw [q2.lk]; exact RP.fr) (by rw [q2.lk, q2.nx]; exact RP.lk)
  have RO1 : RH S1 h A tc' ks' fp' := RO.frame (fun n hn => q2.cs fun e => m2 (e ▸ hn)) (by rw [q2.nx]; exact Nat.le_refl _) (by rw [q2.lk]; exact RO.fr) (by rw [q2.lk, q2.nx]; exact RO.lk)
  obtain ⟨S2, p1, ks2, fp2, RP2, f2, n2⟩ := ask_any RP1 T.wf T.bd hk hd
  have RO2 : RH S2 h A tc' ks' fp' := RO1.frame (fun n hn => f2.cs n (RO1.lt n hn) fun m => dj n m hn) f2.nx (by rw [f2.lk]; exact RO1.fr) (by rw [f2.lk]; exact fun n hn => Nat.lt_of_lt_of_le (RO1.lk n hn) f2.nx)
  obtain ⟨S3', g1, ks3, fp3, RO3, f3, n3⟩ := own_any RO2 T.wf T.bd hk hd
  have ltl : ∀ n ∈ l :: tc :: fp2, n ∉ h :: tc' :: fp' := fun n hn m => by
    have hm := RO1.lt n m
    have z : n ∈ l :: tc :: fp ∨ S1.nx ≤ n := by
      rcases List.mem_cons.mp hn with e | hn
      · exact .inl (by rw [e]; exact List.mem_cons_self)
      · rcases List.mem_cons.mp hn with e | hn
        · exact .inl (by rw [e]; simp)
        · exact (n2 n hn).imp (fun z => List.mem_cons_of_mem _ (List.mem_cons_of_mem _ z)) id
    rcases z with z | z
    · exact dj n z m
    · omega
  have RP3 : RL S3' l (stepA A dd).2 tc ks2 fp2 := RP2.frame (fun n hn => f3.cs n (RP2.lt n hn) (ltl n hn)) f3.nx (by rw [f3.lk]; exact RP2.fr) (by rw [f3.lk]; exact fun n hn => Nat.lt_of_lt_of_le (RP2.lk n hn) f3.nx)
  obtain ⟨W', B', hkd⟩ := step_keep T.wf T.bd hk hd
  obtain ⟨S4, c1, RP4, RO4, f4⟩ := looks_run RP3 RO3 W' B' (by omega)
  rw [hkd] at c1
  have dj4 : ∀ n ∈ l :: tc :: fp2, n ∉ h :: tc' :: fp3 := fun n hn m => by
    have hm := RP2.lt n hn
    have z : n ∈ h :: tc' :: fp' ∨ S2.nx ≤ n := by
      rcases List.mem_cons.mp m with e | m
      · exact .inl (by rw [e]; exact List.mem_cons_self)
      · rcases List.mem_cons.mp m with e | m
        · exact .inl (by rw [e]; simp)
        · exact (n3 n m).imp (fun z => List.mem_cons_of_mem _ (List.mem_cons_of_mem _ z)) id
    rcases z with z | z
    · exact ltl n hn z
    · omega
  have s1lt : st < S1.nx := RS1.lt
  have m1' : st ∉ l :: tc :: fp2 := fun m => by
    rcases List.mem_cons.mp m with e | m
    · exact m1 (by rw [e]; exact List.mem_cons_self)
    · rcases List.mem_cons.mp m with e | m
      · exact m1 (by rw [e]; simp)
      · rcases n2 _ m with z | z
        · exact m1 (List.mem_cons_of_mem _ (List.mem_cons_of_mem _ z))
        · omega
  have m2' : st ∉ h :: tc' :: fp3 := fun m => by
    rcases List.mem_cons.mp m with e | m
    · exact m2 (by rw [e]; exact List.mem_cons_self)
    · rcases List.mem_cons.mp m with e | m
      · exact m2 (by rw [e]; simp)
      · rcases n3 _ m with z | z
        · exact m2 (List.mem_cons_of_mem _ (List.mem_cons_of_mem _ z))
        · have := f2.nx; omega
  have st4 : S4.cs st = S1.cs st := by
    rw [f4.cs st (Nat.lt_of_lt_of_le (Nat.lt_of_lt_of_le s1lt f2.nx) f3.nx) (by simp), f3.cs st (Nat.lt_of_lt_of_le s1lt f2.nx) m2, f2.cs st s1lt m1]
  have lk4 : S4.lk = S1.lk := by rw [f4.lk, f3.lk, f2.lk]
  have RS4 : RS S4 st ns b := by
    obtain ⟨c, e0, e1⟩ := RS1.ob
    exact ⟨⟨c, e0, by rw [st4]; exact e1⟩, by rw [lk4]; exact RS1.fr, Nat.lt_of_lt_of_le s1lt (Nat.le_trans f2.nx (Nat.le_trans f3.nx f4.nx)), RS1.b0⟩
  have T4 : Std S4 st ns b l h (stepA A dd).2 (k + 1) := ⟨RS4, W', B', by rw [hkd]; exact T.ko, tc, ks2, fp2, tc', ks3, fp3, RP4, RO4, m1', m2', dj4⟩
  obtain ⟨z, s1, _⟩ := str_list (ds := [resV (stepA A dd).1]) (fun d hd => by
    have : d = resV (stepA A dd).1 := by simpa using hd
    rw [this]; exact resV_id T.bd (by omega)) (by simp)
  have lo := ho' RO
  refine ⟨S4, (stepA A dd).2, some (deedD dd), some (deedD dd), ?_, T4, hkd, by rw [lk4, q2.lk]⟩
  cases dd with
  | make kd n key =>
    obtain ⟨⟨f, hf, hn⟩, _⟩ := hd.ma _ _ _ rfl
    have nd : (n.map (·.1)).Nodup := by rw [hn]; exact (T.wf.kn _ _ hf).1
    have hne := ne_pair (S := S4) (a := .str kd) (b := .dic (numsD n)) (eqF_flat rfl rfl) (eqF_numsD nd)
    simp only [deedD] at q1 p1 g1
    simp [lo, q1, p1, g1, s1, c1, deedD, slB_13, hne]
  | take i =>
    have hne := ne_pair (S := S4) (a := .int i) (b := .non) (eqF_flat rfl rfl) (eqF_flat rfl rfl)
    simp only [deedD] at q1 p1 g1
    simp [lo, q1, p1, g1, s1, c1, deedD, slB_13, hne]
  | change i o =>
    obtain ⟨h1, h2, h3, _⟩ := hd.ch _ _ rfl
    have hne := ne_pair (S := S4) (a := .int i) (b := .dic (numsD o)) (eqF_flat rfl rfl) (eqF_numsD h3)
    simp only [deedD] at q1 p1 g1
    simp [lo, q1, p1, g1, s1, c1, deedD, slB_13, hne]
  | fails c =>
    obtain ⟨h1, h2, h3⟩ := hd.fa _ rfl
    have hne := ne_pair (S := S4) (a := .dic (flD c)) (b := .non) (eqF_flD h2) (eqF_flat rfl rfl)
    simp only [deedD] at q1 p1 g1
    simp [lo, q1, p1, g1, s1, c1, deedD, slB_13, hne]
end
end KK
/-! P1s: the law. -/
namespace KK
open PySem L2 M3
@[simp] theorem mergeHere (a b c d e : D) : mergeA [] [((.inr "kinds" : Key), a), (.inr "things", b), (.inr "made", c), (.inr "fails", d), (.inr "asked", e)] = hereKs a b c d e := rfl
@[simp] theorem max2_ap {S : S3} {i j : Int} : max2F [.int i, .int j] S = some (.int (if j > i then j else i), S) := rfl
@[simp] theorem min2_ap {S : S3} {i j : Int} : min2F [.int i, .int j] S = some (.int (if j < i then j else i), S) := rfl
@[simp] theorem rng3_ap {S : S3} {ms : CA} {v : Ev} : rng3S ms v S = bd (ms v S) (fun xs S1 => match xs with
  | [.int i, .int j, .int c] => if decide (c ≠ 0) && decide (c.natAbs < 1073741824) && Builtin.Range.small i j c && decide (Builtin.Range.rangeSize i j c = ((Builtin.Range.rangeSize i j c).toNat : Int)) then .ok (intsD i c (Builtin.Range.rangeSize i j c).toNat, none) S1 else .bad
  | _ => .bad) .mk := rfl
theorem turns_loop {st : Nat} {ns : List Int} {b : Int} {l h : Nat} {v0 v1 : Option D} : ∀ (ds : List D) (S : S3) (A : LandA) (k : Nat) (v6 v7 v8 : Option D), Std S st ns b l h A k → k + ds.length ≤ 900 →
    ∃ S' v6' v7' v8', forL (asgN 6) bTurn ds [v0, v1, some (.cell st), some (.dic (kindsD A.kinds)), some (.cell l), some (.cell h), v6, v7, v8] S = .nx [v0, v1, some (.cell st), some (.dic (kindsD A.kinds)), some (.cell l), some (.cell h), v6', v7', v8'] S' ∧ S'.lk = S.lk
  | [], S, A, k, v6, v7, v8, T, hk => ⟨S, v6, v7, v8, rfl, rfl⟩
  | d :: ds, S, A, k, v6, v7, v8, T, hk => by
    rw [List.length_cons] at hk
    obtain ⟨S1, A1, w7, w8, q, T1, hkd, hlk⟩ := turn_run T (by omega) (v0 := v0) (v1 := v1) (v6 := some d) (v7 := v7) (v8 := v8)
    obtain ⟨S2, u6, u7, u8, g, gl⟩ := turns_loop ds S1 A1 (k + 1) (some d) w7 w8 T1 (by omega) (v0 := v0) (v1 := v1)
    rw [hkd] at g
    refine ⟨S2, u6, u7, u8, ?_, gl.trans hlk⟩
    unfold forL
    rw [asgN_ap]
    show (match bTurn [v0, v1, some (.cell st), some (.dic (kindsD A.kinds)), some (.cell l), some (.cell h), some d, v7, v8] S with
      | .nx v2 S2 => forL (asgN 6) bTurn ds v2 S2
      | .ct v2 S2 => forL (asgN 6) bTurn ds v2 S2
      | .bk v2 S2 => .nx v2 S2
      | r => r) = _
    rw [q]
    exact g
/-- the start -/
theorem std0 {S : S3} {st : Nat} {ns : List Int} {b : Int} {ks : List (Str × List Str × List Str)} (R : RS S st ns b) (K : KindsOk ks) (hl : S.lk = []) :
    Std ((((S.new (landO (land0 ks) (S.nx + 1))).new (.dic [])).new (.dic [])).new (hereO (land0 ks) (S.nx + 2))) st ns b S.nx (S.nx + 3) (land0 ks) 0 := by
  have h0 := R.lt
  refine ⟨?_, ⟨fun i t h => by simp [land0] at h, fun p h => by simp [land0] at h, by simp [land0], fun k f hf => ?_⟩, ⟨fun p h => by simp [land0] at h, by simp [land0], by simp [land0]⟩, K, S.nx + 1, [], [], S.nx + 2, [], [], ?_, ?_, ?_, ?_, ?_⟩
  · obtain ⟨c, e0, e1⟩ := R.ob
    have n0 : ¬ st = S.nx := by omega
    have n1 : ¬ st = S.nx + 1 := by omega
    have n2 : ¬ st = S.nx + 1 + 1 := by omega
    have n3 : ¬ st = S.nx + 1 + 1 + 1 := by omega
    exact ⟨⟨c, e0, by simp [n0, n1, n2, n3, e1]⟩, R.fr, by simp; omega, R.b0⟩
  · have hm := getA_some_mem hf
    have := (K.nm _ hm).2
    exact ⟨this.d1, this.l5⟩
  · refine ⟨?_, ?_, .nil, by simp, ?_, by simp [hl], by simp [hl]⟩
    · have n1 : ¬ S.nx = S.nx + 1 := by omega
      have n2 : ¬ S.nx = S.nx + 1 + 1 := by omega
      have n3 : ¬ S.nx = S.nx + 1 + 1 + 1 := by omega
      simp [n1, n2, n3]
    · have n2 : ¬ S.nx + 1 = S.nx + 1 + 1 := by omega
      have n3 : ¬ S.nx + 1 = S.nx + 1 + 1 + 1 := by omega
      simp [n2, n3]
    · intro n hn
      have : n = S.nx ∨ n = S.nx + 1 := by simpa using hn
      simp
      omega
  · refine ⟨?_, ?_, .nil, by simp, ?_, by simp [hl], by simp [hl]⟩
    · simp
    · have n3 : ¬ S.nx + 2 = S.nx + 1 + 1 + 1 := by omega
      simp
    · intro n hn
      have : n = S.nx + 3 ∨ n = S.nx + 2 := by simpa using hn
      simp
      omega
  · intro m
    have : st = S.nx ∨ st = S.nx + 1 := by simpa using m
    omega
  · intro m
    have : st = S.nx + 3 ∨ st = S.nx + 2 := by simpa using m
    omega
  · intro n hn m
    have h1 : n = S.nx ∨ n = S.nx + 1 := by simpa using hn
    have h2 : n = S.nx + 3 ∨ n = S.nx + 2 := by simpa using m
    omega
abbrev bLaw : SC := (seqM (asgS (lstMC (aCons (xv 0) (aCons (xv 1) (aCons (xc (.int 0)) aNil)))) (asgN 2))
 (seqM (asgS (callM (aCons (xv 2) aNil) m__law_kinds []) (asgN 3))
 (seqM (parM 4 5 (aCons (makeM 15 (aCons (xv 3) aNil) m_Land_init []) (aCons (dspMC (pCons (xc (.str "kinds")) (xv 3) (pCons (xc (.str "things")) dicMC (pCons (xc (.str "made")) (xc (.int 0)) (pCons (xc (.str "fails")) dicM (pCons (xc (.str "asked")) (xc (.int 0)) pNil)))))) aNil)))
 (forM (rng1S (aCons (xc (.int 40)) aNil)) (asgN 6) bTurn))))
theorem law_turn {S : S3} {ns : List Int} {b : Int} (hb : 0 ≤ b) (hl : S.lk = []) {v2 v3 v4 v5 v6 v7 v8 : Option D} : ∃ S' v2' v3' v4' v5' v6' v7' v8', bLaw [some (.scr (ns.map .int)), some (.int b), v2, v3, v4, v5, v6, v7, v8] S = .nx [some (.scr (ns.map .int)), some (.int b), v2', v3', v4', v5', v6', v7', v8'] S' ∧ S'.lk = [] := by
  let S1 := S.new (stO ns b 0)
  have R1 : RS S1 S.nx ns b := ⟨⟨0, by decide, by simp [S1]⟩, by simp [S1, hl], Nat.lt_succ_self _, hb⟩
  obtain ⟨ks, S2, q1, K, R2, h2, h3, h4⟩ := kinds_run R1 (by simp [S1, hl])
  have hl2 : S2.lk = [] := by rw [h2]; exact hl
  have hi := init_run (S := S2) K
  have T := std0 R2 K hl2
  let S4 := (((S2.new (landO (land0 ks) (S2.nx + 1))).new (.dic [])).new (.dic [])).new (hereO (land0 ks) (S2.nx + 2))
  obtain ⟨S5, w6, w7, w8, g, gl⟩ := turns_loop (v0 := some (.scr (ns.map .int))) (v1 := some (.int b)) (intsD 0 1 40) S4 (land0 ks) 0 v6 v7 v8 T (by decide)
  refine ⟨S5, some (.cell S.nx), some (.dic (kindsD ks)), some (.cell S2.nx), some (.cell (S2.nx + 3)), w6, w7, w8, ?_, by rw [gl]; exact hl2⟩
  have g' : forL (asgN 6) bTurn (intsD 0 1 40) [some (.scr (ns.map .int)), some (.int b), some (.cell S.nx), some (.dic (kindsD ks)), some (.cell S2.nx), some (.cell (S2.nx + 3)), v6, v7, v8] S4 = _ := g
  have hf : fit62 40 = true := by decide
  have q1' : m__law_kinds [.cell S.nx] (S.new (.lst [.scr (ns.map .int), .int b, .int 0])) = .ok (.dic (kindsD ks)) S2 := q1
  have hS4 : (((S2.new (landO (land0 ks) (S2.nx + 1))).new (.dic [])).new (.dic [])).new (.dic (hereKs (.dic (kindsD ks)) (.cell (S2.nx + 1 + 1)) (.int 0) (.dic []) (.int 0))) = S4 := rfl
  show (seqM _ (seqM _ (seqM _ (forM _ _ bTurn)))) _ S = _
  generalize bTurn = bt at g'
  simp [q1', hi, hf, hS4]
  exact g'
theorem law_loop {ns : List Int} : ∀ (is : List Int) (S : S3) (v1 v2 v3 v4 v5 v6 v7 v8 : Option D), (∀ i ∈ is, 0 ≤ i) → S.lk = [] → ∃ S' v1' v2' v3' v4' v5' v6' v7' v8', forL (asgN 1) bLaw (is.map .int) [some (.scr (ns.map .int)), v1, v2, v3, v4, v5, v6, v7, v8] S = .nx [some (.scr (ns.map .int)), v1', v2', v3', v4', v5', v6', v7', v8'] S'
  | [], S, v1, v2, v3, v4, v5, v6, v7, v8, _, _ => ⟨S, v1, v2, v3, v4, v5, v6, v7, v8, rfl⟩
  | i :: is, S, v1, v2, v3, v4, v5, v6, v7, v8, hi, hl => by
    obtain ⟨S1, w2, w3, w4, w5, w6, w7, w8, q, l1⟩ := law_turn (hi i List.mem_cons_self) hl (ns := ns) (v2 := v2) (v3 := v3) (v4 := v4) (v5 := v5) (v6 := v6) (v7 := v7) (v8 := v8)
    obtain ⟨S2, u1, u2, u3, u4, u5, u6, u7, u8, g⟩ := law_loop is S1 (some (.int i)) w2 w3 w4 w5 w6 w7 w8 (fun j hj => hi j (List.mem_cons_of_mem _ hj)) l1
    refine ⟨S2, u1, u2, u3, u4, u5, u6, u7, u8, ?_⟩
    rw [List.map_cons]
    unfold forL
    rw [asgN_ap]
    show (match bLaw [some (.scr (ns.map .int)), some (.int i), v2, v3, v4, v5, v6, v7, v8] S with
      | .nx v2 S2 => forL (asgN 1) bLaw (is.map .int) v2 S2
      | .ct v2 S2 => forL (asgN 1) bLaw (is.map .int) v2 S2
      | .bk v2 S2 => .nx v2 S2
      | r => r) = _
    rw [q]
    exact g
theorem rng_ok : ∀ j : Fin 37, 1 ≤ j.1 → (decide ((12 : Int) ≠ 0) && decide ((12 : Int).natAbs < 1073741824) && Builtin.Range.small 0 (j.1 : Int) 12 && decide (Builtin.Range.rangeSize 0 (j.1 : Int) 12 = ((Builtin.Range.rangeSize 0 (j.1 : Int) 12).toNat : Int))) = true := by decide +kernel
theorem ints_map (n : Nat) : intsD 0 12 n = ((List.range n).map fun i : Nat => (0 + (i : Int) * 12)).map .int := by unfold intsD; rw [List.map_map]; rfl
theorem plain (ns : List Int) (hn : ns.length ≤ 63) : ∃ S', m_law [.scr (ns.map .int)] S0 = .ok (.bl true) S' := by
  let m : Int := if (ns.length : Int) < 36 then ns.length else 36
  let j : Int := if m > 1 then m else 1
  have hm : 0 ≤ m ∧ m ≤ 36 := by
    show 0 ≤ (if (ns.length : Int) < 36 then (ns.length : Int) else 36) ∧ (if (ns.length : Int) < 36 then (ns.length : Int) else 36) ≤ 36
    by_cases h : (ns.length : Int) < 36
    · rw [if_pos h]; omega
    · rw [if_neg h]; omega
  have hj : 1 ≤ j ∧ j ≤ 36 := by
    show 1 ≤ (if m > 1 then m else 1) ∧ (if m > 1 then m else 1) ≤ 36
    by_cases h : m > 1
    · rw [if_pos h]; omega
    · rw [if_neg h]; omega
  have hr : (decide ((12 : Int) ≠ 0) && decide ((12 : Int).natAbs < 1073741824) && Builtin.Range.small 0 j 12 && decide (Builtin.Range.rangeSize 0 j 12 = ((Builtin.Range.rangeSize 0 j 12).toNat : Int))) = true := by
    have e : ((j.toNat : Nat) : Int) = j := by omega
    have := rng_ok ⟨j.toNat, by omega⟩ (by show 1 ≤ j.toNat; omega)
    rw [show (((⟨j.toNat, by omega⟩ : Fin 37).1 : Nat) : Int) = j from e] at this
    exact this
  obtain ⟨S2, u1, u2, u3, u4, u5, u6, u7, u8, g⟩ := law_loop (ns := ns) ((List.range (Builtin.Range.rangeSize 0 j 12).toNat).map fun i : Nat => (0 + (i : Int) * 12)) S0 none none none none none none none none (fun i hi => by
    obtain ⟨n, _, rfl⟩ := List.mem_map.mp hi
    omega) rfl
  rw [← ints_map] at g
  refine ⟨S2, ?_⟩
  have e : b_law = seqM (M3.forM (rng3S (aCons (xc (.int 0)) (aCons (cb (aCons (xc (.int 1)) (aCons (cb (aCons (xc (.int 36)) (aCons (cb (aCons (xv 0) aNil) lenF) aNil)) min2F) aNil)) max2F) (aCons (xc (.int 12)) aNil)))) (asgN 1) bLaw) (retM (xc (.bl true))) := rfl
  have hsrc : rng3S (aCons (xc (.int 0)) (aCons (cb (aCons (xc (.int 1)) (aCons (cb (aCons (xc (.int 36)) (aCons (cb (aCons (xv 0) aNil) lenF) aNil)) min2F) aNil)) max2F) (aCons (xc (.int 12)) aNil))) [some (.scr (ns.map .int)), none, none, none, none, none, none, none, none] S0 = .ok (intsD 0 12 (Builtin.Range.rangeSize 0 j 12).toNat, none) S0 := by
    simp only [rng3_ap, aCons_ap, xc_ap, cb_ap, xv_ap, aNil_ap, bd_ok, len_scr, List.length_map, lift_s, min2_ap, max2_ap, List.getElem?_cons_zero]
    show (if _ then _ else _) = _
    rw [if_pos hr]
  have g' : forL (asgN 1) bLaw (intsD 0 12 (Builtin.Range.rangeSize 0 j 12).toNat) [some (.scr (ns.map .int)), none, none, none, none, none, none, none, none] S0 = _ := g
  generalize bLaw = bl at e g'
  rw [show m_law = bodyM 1 9 b_law from rfl, e]
  simp [-rng3_ap, hsrc, g']
end KK
/-! The walks of the defs, printed by gen.py. -/
namespace KK
open PySem L2 M3

def noSt : Stmt := .Pass ⟨0, 0, 0, 0⟩
def top (i : Nat) : Stmt := PySem.Challenge.pw_wishedland_k01_whole_land.main.body.getD i noSt
def cbody : Stmt → List Stmt
  | .ClassDef (body := b) .. => b
  | _ => []
structure Fx (ca : CAK) (K : PySem.W.Frag) (mg : Str → Option Value) : Prop where
  hK : K = ca.K
  f_isinstance : mg "isinstance" = none
  f_int : mg "int" = none
  f_bool : mg "bool" = none
  f_str : mg "str" = none
  f_len : mg "len" = none
  k_LETTERS : ∃ t, mg "LETTERS" = some (.str "abcdefghijklmnopqrstuvwxyz" t)
  f_all : mg "all" = none
  f_list : mg "list" = none
  f_tuple : mg "tuple" = none
  k_MOST_FIELDS : ∃ t, mg "MOST_FIELDS" = some (.int 5 t)
  k_ID : ∃ t, mg "ID" = some (.str "id" t)
  c_Thing : Cls K (ca 14)
  n_Thing_number : NoAttr K (ca 14) "number"
  n_Thing_sort_of : NoAttr K (ca 14) "sort_of"
  f_dict : mg "dict" = none
  n_Thing_numbers : NoAttr K (ca 14) "numbers"
  n_Thing_key : NoAttr K (ca 14) "key"
  n_Thing_times : NoAttr K (ca 14) "times"
  k_MOST_KINDS : ∃ t, mg "MOST_KINDS" = some (.int 5 t)
  x_BadKinds : XC ca K mg 1 "BadKinds"
  c_Land : Cls K (ca 15)
  n_Land_kinds_there : NoAttr K (ca 15) "kinds_there"
  n_Land_things : NoAttr K (ca 15) "things"
  n_Land_made_so_far : NoAttr K (ca 15) "made_so_far"
  n_Land_deeds_done : NoAttr K (ca 15) "deeds_done"
  n_Land_failing : NoAttr K (ca 15) "failing"
  n_Land_asked : NoAttr K (ca 15) "asked"
  x_BadKind : XC ca K mg 2 "BadKind"
  x_NoThing : XC ca K mg 6 "NoThing"
  x_Failed : XC ca K mg 10 "Failed"
  x_BadFields : XC ca K mg 3 "BadFields"
  x_BadKey : XC ca K mg 4 "BadKey"
  x_BadFails : XC ca K mg 5 "BadFails"
  f_sorted : mg "sorted" = none
  f_range : mg "range" = none
  e_0_1_2_3_4_5_6_10 : ∀ q, ([0, 1, 2, 3, 4, 5, 6, 10] : List Nat).contains q = true → ExcC K (ca q)
  t_Failed : ∀ q, ([0, 1, 2, 3, 4, 5, 6, 10] : List Nat).contains q = true → PySem.W.kitOne K (.ref (ca q)) (.ref (ca 10)) = some (([10] : List Nat).contains q)
  m_Failed : mg "Failed" = some (.ref (ca 10))
  t_BadFields : ∀ q, ([0, 1, 2, 3, 4, 5, 6, 10] : List Nat).contains q = true → PySem.W.kitOne K (.ref (ca q)) (.ref (ca 3)) = some (([3] : List Nat).contains q)
  m_BadFields : mg "BadFields" = some (.ref (ca 3))
  t_NoThing : ∀ q, ([0, 1, 2, 3, 4, 5, 6, 10] : List Nat).contains q = true → PySem.W.kitOne K (.ref (ca q)) (.ref (ca 6)) = some (([6] : List Nat).contains q)
  m_NoThing : mg "NoThing" = some (.ref (ca 6))
  y_LandError : ∀ q, ([0, 1, 2, 3, 4, 5, 6, 10] : List Nat).contains q = true → PySem.W.exmOne K (.ref (ca q)) (.ref (ca 0)) = some true
  o_LandError : ∀ q, ([] : List Nat).contains q = true → PySem.W.exmOne K (.ref (ca q)) (.ref (ca 0)) = some false
  m_LandError : mg "LandError" = some (.ref (ca 0))
  f_min : mg "min" = none
  f_max : mg "max" = none
section
variable {ca : CAK} {P : Program} {w : World} {K : PySem.W.Frag} {mg : Str → Option Value} {base : Heap} {f : Addr} {fd : FuncData}
abbrev s_is_whole : Stmt := top 12
theorem sc_is_whole : FnScope N_is_whole ["thing"] (defScope s_is_whole) := ⟨rfl, rfl, rfl, by decide +kernel, rfl, by decide +kernel, by decide +kernel⟩
set_option maxRecDepth 100000 in
theorem ok_is_whole (fx : Fx ca K mg) (F : FunD K "is_whole" "is_whole" (defArgs s_is_whole) (defBody s_is_whole) (defScope s_is_whole) [] [] f fd)  : FnOk P w K mg base (L2N.CX P w) 1 f fd ["thing"] (spM ca m_is_whole) :=
  fn_okM fx.hK F sc_is_whole rfl fun cdv A outer s H E ct => have c := ct.toCO; (ss_one (ss_ret (sd_bool (sdb_and (sd_isi sd_var rfl fx.f_isinstance rfl fx.f_int (by decide +kernel)) (sdb_and1 (sd_not (sd_isi sd_var rfl fx.f_isinstance rfl fx.f_bool (by decide +kernel))))))))
abbrev s_is_name : Stmt := top 13
theorem sc_is_name : FnScope N_is_name ["thing"] (defScope s_is_name) := ⟨rfl, rfl, rfl, by decide +kernel, rfl, by decide +kernel, by decide +kernel⟩
set_option maxRecDepth 100000 in
theorem ok_is_name (fx : Fx ca K mg) (F : FunD K "is_name" "is_name" (defArgs s_is_name) (defBody s_is_name) (defScope s_is_name) [] [] f fd)  : FnOk P w K mg base (L2N.CX P w) 1 f fd ["thing"] (spM ca m_is_name) :=
  fn_okM fx.hK F sc_is_name rfl fun cdv A outer s H E ct => have c := ct.toCO; (ss_one (ss_ret (sd_bool (sdb_and (sd_isi sd_var rfl fx.f_isinstance rfl fx.f_str (by decide +kernel)) (sdb_and (sd_chain op_leF op_leF sd_int (sd_callB (call_lenF c.hK) rfl fx.f_len (by decide +kernel) (sda_cons sd_var sda_nil)) sd_int) (sdb_and1 (sd_callB (call_allF c.calm) rfl fx.f_all (by decide +kernel) (sda_cons (sd_lc (own := [("sign", 1)]) finT_ok c.calm c.nd (pi_any c.hK sd_var) (by rfl) (fun s1 H1 C1 cl1 fp1 => (sg_n (c.blk s1 H1 _ _ fp1).nd)) (fun s1 H1 C1 cl1 fp1 => sdt_nil) (fun s1 H1 C1 cl1 fp1 => (sd_cmp (op_inO (c.blk s1 H1 _ _ fp1).hK (c.blk s1 H1 _ _ fp1).hu) sd_var (sd_gstr rfl fx.k_LETTERS) (by rfl)))) sda_nil))))))))
abbrev s_are_unlike_names : Stmt := top 14
theorem sc_are_unlike_names : FnScope N_are_unlike_names ["thing"] (defScope s_are_unlike_names) := ⟨rfl, rfl, rfl, by decide +kernel, rfl, by decide +kernel, by decide +kernel⟩
set_option maxRecDepth 100000 in
theorem ok_are_unlike_names (fx : Fx ca K mg) (F : FunD K "are_unlike_names" "are_unlike_names" (defArgs s_are_unlike_names) (defBody s_are_unlike_names) (defScope s_are_unlike_names) [] [] f fd) (h_is_name : CalF ca P w K mg base 1 "is_name" m_is_name []) : FnOk P w K mg base (L2N.CX P w) 2 f fd ["thing"] (spM ca m_are_unlike_names) :=
  fn_okM fx.hK F sc_are_unlike_names rfl fun cdv A outer s H E ct => have c := ct.toCO; (ss_cons (ss_if (sd_bool (sdb_or (sd_not (sd_isi sd_var rfl fx.f_isinstance rfl fx.f_list (by decide +kernel))) (sdb_or1 (sd_not (sd_callB (call_allF c.calm) rfl fx.f_all (by decide +kernel) (sda_cons (sd_lc (own := [("one", 1)]) finT_ok c.calm c.nd (pi_any c.hK sd_var) (by rfl) (fun s2 H2 C2 cl2 fp2 => (sg_n (c.blk s2 H2 _ _ fp2).nd)) (fun s2 H2 C2 cl2 fp2 => sdt_nil) (fun s2 H2 C2 cl2 fp2 => (sd_callF (c.blk s2 H2 _ _ fp2) h_is_name (by decide) (sda_cons sd_var sda_nil)))) sda_nil)))))) (ss_one (ss_ret sd_bl)) ss_nil)
 (ss_one (ss_ret (sd_cmp (op_eqO c.hu64) (sd_lenSt (own := [("one", 1)]) c.calm c.nd (pi_any c.hK sd_var) (by rfl) (fun s3 H3 C3 cl3 fp3 => (sg_n (c.blk s3 H3 _ _ fp3).nd)) (fun s3 H3 C3 cl3 fp3 => sd_var) rfl fx.f_len (by decide +kernel)) (sd_callB (call_lenF c.hK) rfl fx.f_len (by decide +kernel) (sda_cons sd_var sda_nil)) (by rfl)))))
abbrev s_is_kind : Stmt := top 18
theorem sc_is_kind : FnScope N_is_kind ["thing"] (defScope s_is_kind) := ⟨rfl, rfl, rfl, by decide +kernel, rfl, by decide +kernel, by decide +kernel⟩
set_option maxRecDepth 100000 in
theorem ok_is_kind (fx : Fx ca K mg) (F : FunD K "is_kind" "is_kind" (defArgs s_is_kind) (defBody s_is_kind) (defScope s_is_kind) [] [] f fd) (h_are_unlike_names : CalF ca P w K mg base 2 "are_unlike_names" m_are_unlike_names []) : FnOk P w K mg base (L2N.CX P w) 3 f fd ["thing"] (spM ca m_is_kind) :=
  fn_okM fx.hK F sc_is_kind rfl fun cdv A outer s H E ct => have c := ct.toCO; (ss_cons (ss_if (sd_bool (sdb_or (sd_not (sd_isi sd_var rfl fx.f_isinstance rfl fx.f_tuple (by decide +kernel))) (sdb_or1 (sd_cmp (op_neO c.hu64) (sd_callB (call_lenF c.hK) rfl fx.f_len (by decide +kernel) (sda_cons sd_var sda_nil)) sd_int (by rfl))))) (ss_one (ss_ret sd_bl)) ss_nil)
 (ss_cons (ss_asg sd_var (sg_t c.calm (sgs_cons (sg_n c.nd) (sgs_cons (sg_n c.nd) (sgs_nil (sl := []))))))
 (ss_cons (ss_if (sd_bool (sdb_or (sd_not (sd_callF c h_are_unlike_names (by decide) (sda_cons sd_var sda_nil))) (sdb_or1 (sd_not (sd_callF c h_are_unlike_names (by decide) (sda_cons sd_var sda_nil)))))) (ss_one (ss_ret sd_bl)) ss_nil)
 (ss_one (ss_ret (sd_bool (sdb_and (sd_chain op_leF op_leF sd_int (sd_callB (call_lenF c.hK) rfl fx.f_len (by decide +kernel) (sda_cons sd_var sda_nil)) (sd_gint rfl fx.k_MOST_FIELDS)) (sdb_and (sd_cmp (op_notInO c.hK c.hu) (sd_gstr rfl fx.k_ID) sd_var (by rfl)) (sdb_and1 (sd_callB (call_allF c.calm) rfl fx.f_all (by decide +kernel) (sda_cons (sd_lc (own := [("field", 3)]) finT_ok c.calm c.nd (pi_any c.hK sd_var) (by rfl) (fun s4 H4 C4 cl4 fp4 => (sg_n (c.blk s4 H4 _ _ fp4).nd)) (fun s4 H4 C4 cl4 fp4 => sdt_nil) (fun s4 H4 C4 cl4 fp4 => (sd_cmp (op_inO (c.blk s4 H4 _ _ fp4).hK (c.blk s4 H4 _ _ fp4).hu) sd_var sd_var (by rfl)))) sda_nil)))))))))))
abbrev s_Thing_init : Stmt := cbody (top 19) |>.getD 0 noSt
theorem sc_Thing_init : FnScope N_Thing_init ["self", "number", "kind", "numbers", "key"] (defScope s_Thing_init) := ⟨rfl, rfl, rfl, by decide +kernel, rfl, by decide +kernel, by decide +kernel⟩
set_option maxRecDepth 100000 in
theorem ok_Thing_init (fx : Fx ca K mg) (F : FunD K "__init__" "Thing.__init__" (defArgs s_Thing_init) (defBody s_Thing_init) (defScope s_Thing_init) [] [] f fd)  : FnOk P w K mg base (L2N.CX P w) 1 f fd ["self", "number", "kind", "numbers", "key"] (spM ca m_Thing_init) :=
  fn_okM fx.hK F sc_Thing_init rfl fun cdv A outer s H E ct => have c := ct.toCO; (ss_cons (ss_fld sd_var sd_var (hC1 fx.c_Thing fx.n_Thing_number))
 (ss_cons (ss_fld sd_var sd_var (hC1 fx.c_Thing fx.n_Thing_sort_of))
 (ss_cons (ss_fld sd_var (sd_callT (call_dictF c.calm) rfl fx.f_dict (by decide +kernel) (sda_cons sd_var sda_nil)) (hC1 fx.c_Thing fx.n_Thing_numbers))
 (ss_cons (ss_fld sd_var sd_var (hC1 fx.c_Thing fx.n_Thing_key))
 (ss_one (ss_fld sd_var sd_int (hC1 fx.c_Thing fx.n_Thing_times)))))))
abbrev s_Land_init : Stmt := cbody (top 20) |>.getD 0 noSt
theorem sc_Land_init : FnScope N_Land_init ["self", "kinds"] (defScope s_Land_init) := ⟨rfl, rfl, rfl, by decide +kernel, rfl, by decide +kernel, by decide +kernel⟩
set_option maxRecDepth 100000 in
theorem ok_Land_init (fx : Fx ca K mg) (F : FunD K "__init__" "Land.__init__" (defArgs s_Land_init) (defBody s_Land_init) (defScope s_Land_init) [] [] f fd) (h_is_name : CalF ca P w K mg base 1 "is_name" m_is_name []) (h_is_kind : CalF ca P w K mg base 3 "is_kind" m_is_kind []) : FnOk P w K mg base (L2N.CX P w) 4 f fd ["self", "kinds"] (spM ca m_Land_init) :=
  fn_okM fx.hK F sc_Land_init rfl fun cdv A outer s H E ct => have c := ct.toCO; (ss_cons (ss_if (sd_bool (sdb_or (sd_not (sd_isi sd_var rfl fx.f_isinstance rfl fx.f_dict (by decide +kernel))) (sdb_or1 (sd_not (sd_chain op_leF op_leF sd_int (sd_callB (call_lenF c.hK) rfl fx.f_len (by decide +kernel) (sda_cons sd_var sda_nil)) (sd_gint rfl fx.k_MOST_KINDS)))))) (ss_one (ss_raiseO c fx.x_BadKinds)) ss_nil)
 (ss_cons (ss_if (sd_not (sd_callB (call_allF c.calm) rfl fx.f_all (by decide +kernel) (sda_cons (sd_lc (own := [("kind", 2)]) finT_ok c.calm c.nd (pi_any c.hK sd_var) (by rfl) (fun s5 H5 C5 cl5 fp5 => (sg_n (c.blk s5 H5 _ _ fp5).nd)) (fun s5 H5 C5 cl5 fp5 => sdt_nil) (fun s5 H5 C5 cl5 fp5 => (sd_bool (sdb_and (sd_callF (c.blk s5 H5 _ _ fp5) h_is_name (by decide) (sda_cons sd_var sda_nil)) (sdb_and1 (sd_callF (c.blk s5 H5 _ _ fp5) h_is_kind (by decide) (sda_cons (sd_sub (c.blk s5 H5 _ _ fp5).hK (c.blk s5 H5 _ _ fp5).hu sd_var sd_var) sda_nil))))))) sda_nil))) (ss_one (ss_raiseO c fx.x_BadKinds)) ss_nil)
 (ss_cons (ss_fld sd_var (sd_dc (own := [("kind", 2)]) finDT_ok c.calm c.nd (pi_any c.hK sd_var) (by rfl) (fun s6 H6 C6 cl6 fp6 => (sg_n (c.blk s6 H6 _ _ fp6).nd)) (fun s6 H6 C6 cl6 fp6 => sdt_nil) (fun s6 H6 C6 cl6 fp6 => sd_var) (fun s6 H6 C6 cl6 fp6 => (sd_tup (sda_cons (sd_callT (call_listF (c.blk s6 H6 _ _ fp6).hK (c.blk s6 H6 _ _ fp6).calm) rfl fx.f_list (by decide +kernel) (sda_cons (sd_sub (c.blk s6 H6 _ _ fp6).hK (c.blk s6 H6 _ _ fp6).hu (sd_sub (c.blk s6 H6 _ _ fp6).hK (c.blk s6 H6 _ _ fp6).hu sd_var sd_var) sd_int) sda_nil)) (sda_cons (sd_callT (call_listF (c.blk s6 H6 _ _ fp6).hK (c.blk s6 H6 _ _ fp6).calm) rfl fx.f_list (by decide +kernel) (sda_cons (sd_sub (c.blk s6 H6 _ _ fp6).hK (c.blk s6 H6 _ _ fp6).hu (sd_sub (c.blk s6 H6 _ _ fp6).hK (c.blk s6 H6 _ _ fp6).hu sd_var sd_var) sd_int) sda_nil)) sda_nil))))) (hC1 fx.c_Land fx.n_Land_kinds_there))
 (ss_cons (ss_fld sd_var sd_dicC (hC1 fx.c_Land fx.n_Land_things))
 (ss_cons (ss_fld sd_var sd_int (hC1 fx.c_Land fx.n_Land_made_so_far))
 (ss_cons (ss_fld sd_var sd_int (hC1 fx.c_Land fx.n_Land_deeds_done))
 (ss_cons (ss_fld sd_var sd_dic (hC1 fx.c_Land fx.n_Land_failing))
 (ss_one (ss_fld sd_var sd_int (hC1 fx.c_Land fx.n_Land_asked))))))))))
abbrev s_Land_check_kind : Stmt := cbody (top 20) |>.getD 1 noSt
theorem sc_Land_check_kind : FnScope N_Land_check_kind ["self", "kind"] (defScope s_Land_check_kind) := ⟨rfl, rfl, rfl, by decide +kernel, rfl, by decide +kernel, by decide +kernel⟩
set_option maxRecDepth 100000 in
theorem ok_Land_check_kind (fx : Fx ca K mg) (F : FunD K "check_kind" "Land.check_kind" (defArgs s_Land_check_kind) (defBody s_Land_check_kind) (defScope s_Land_check_kind) [] [] f fd)  : FnOk P w K mg base (L2N.CX P w) 1 f fd ["self", "kind"] (spM ca m_Land_check_kind) :=
  fn_okM fx.hK F sc_Land_check_kind rfl fun cdv A outer s H E ct => have c := ct.toCO; (ss_one (ss_if (sd_bool (sdb_or (sd_not (sd_isi sd_var rfl fx.f_isinstance rfl fx.f_str (by decide +kernel))) (sdb_or1 (sd_cmp (op_notInO c.hK c.hu) sd_var (sd_fld sd_var (hC1 fx.c_Land fx.n_Land_kinds_there)) (by rfl))))) (ss_one (ss_raiseO c fx.x_BadKind)) ss_nil))
abbrev s_Land_thing_of : Stmt := cbody (top 20) |>.getD 2 noSt
theorem sc_Land_thing_of : FnScope N_Land_thing_of ["self", "thing"] (defScope s_Land_thing_of) := ⟨rfl, rfl, rfl, by decide +kernel, rfl, by decide +kernel, by decide +kernel⟩
set_option maxRecDepth 100000 in
theorem ok_Land_thing_of (fx : Fx ca K mg) (F : FunD K "thing_of" "Land.thing_of" (defArgs s_Land_thing_of) (defBody s_Land_thing_of) (defScope s_Land_thing_of) [] [] f fd) (h_is_whole : CalF ca P w K mg base 1 "is_whole" m_is_whole []) : FnOk P w K mg base (L2N.CX P w) 2 f fd ["self", "thing"] (spM ca m_Land_thing_of) :=
  fn_okM fx.hK F sc_Land_thing_of rfl fun cdv A outer s H E ct => have c := ct.toCO; (ss_cons (ss_if (sd_bool (sdb_or (sd_not (sd_callF c h_is_whole (by decide) (sda_cons sd_var sda_nil))) (sdb_or1 (sd_cmp (op_notInO c.hK c.hu) sd_var (sd_fld sd_var (hC1 fx.c_Land fx.n_Land_things)) (by rfl))))) (ss_one (ss_raiseO c fx.x_NoThing)) ss_nil)
 (ss_one (ss_ret (sd_sub c.hK c.hu (sd_fld sd_var (hC1 fx.c_Land fx.n_Land_things)) sd_var))))
abbrev s_Land_next_word : Stmt := cbody (top 20) |>.getD 3 noSt
theorem sc_Land_next_word : FnScope N_Land_next_word ["self"] (defScope s_Land_next_word) := ⟨rfl, rfl, rfl, by decide +kernel, rfl, by decide +kernel, by decide +kernel⟩
set_option maxRecDepth 100000 in
theorem ok_Land_next_word (fx : Fx ca K mg) (F : FunD K "next_word" "Land.next_word" (defArgs s_Land_next_word) (defBody s_Land_next_word) (defScope s_Land_next_word) [] [] f fd)  : FnOk P w K mg base (L2N.CX P w) 1 f fd ["self"] (spM ca m_Land_next_word) :=
  fn_okM fx.hK F sc_Land_next_word rfl fun cdv A outer s H E ct => have c := ct.toCO; (ss_cons (ss_asgN (sd_get1 c.hu (sd_fld sd_var (hC1 fx.c_Land fx.n_Land_failing)) (sd_fld sd_var (hC1 fx.c_Land fx.n_Land_asked)) ⟨rfl, rfl, rfl, rfl⟩) c.nd)
 (ss_cons (ss_fldaug sd_var sd_int in_addF (hC1 fx.c_Land fx.n_Land_asked))
 (ss_cons (ss_if (sd_cmp (op_eqO c.hu64) sd_var sd_str (by rfl)) (ss_one (ss_raiseO c fx.x_Failed)) ss_nil)
 (ss_one (ss_ret sd_var)))))
abbrev s_Land_ended : Stmt := cbody (top 20) |>.getD 4 noSt
theorem sc_Land_ended : FnScope N_Land_ended ["self", "word"] (defScope s_Land_ended) := ⟨rfl, rfl, rfl, by decide +kernel, rfl, by decide +kernel, by decide +kernel⟩
set_option maxRecDepth 100000 in
theorem ok_Land_ended (fx : Fx ca K mg) (F : FunD K "ended" "Land.ended" (defArgs s_Land_ended) (defBody s_Land_ended) (defScope s_Land_ended) [] [] f fd)  : FnOk P w K mg base (L2N.CX P w) 1 f fd ["self", "word"] (spM ca m_Land_ended) :=
  fn_okM fx.hK F sc_Land_ended rfl fun cdv A outer s H E ct => have c := ct.toCO; (ss_one (ss_if (sd_cmp (op_eqO c.hu64) sd_var sd_str (by rfl)) (ss_one (ss_raiseO c fx.x_Failed)) ss_nil))
abbrev s_Land_make : Stmt := cbody (top 20) |>.getD 5 noSt
theorem sc_Land_make : FnScope N_Land_make ["self", "kind", "fields", "key"] (defScope s_Land_make) := ⟨rfl, rfl, rfl, by decide +kernel, rfl, by decide +kernel, by decide +kernel⟩
set_option maxRecDepth 100000 in
theorem ok_Land_make (fx : Fx ca K mg) (F : FunD K "make" "Land.make" (defArgs s_Land_make) (defBody s_Land_make) (defScope s_Land_make) [] [("key", .non)] f fd) (h_Land_check_kind : CalM ca P w K mg base 1 15 "check_kind" m_Land_check_kind []) (h_is_whole : CalF ca P w K mg base 1 "is_whole" m_is_whole []) (h_Land_next_word : CalM ca P w K mg base 1 15 "next_word" m_Land_next_word []) (h_Thing_init : CalC ca P w K mg base 1 14 "Thing" m_Thing_init []) (h_Land_ended : CalM ca P w K mg base 1 15 "ended" m_Land_ended []) : FnOk P w K mg base (L2N.CX P w) 3 f fd ["self", "kind", "fields", "key"] (spM ca m_Land_make) :=
  fn_okM fx.hK F sc_Land_make rfl fun cdv A outer s H E ct => have c := ct.toCO; (ss_cons (ss_expr (sd_methF c h_Land_check_kind (by decide) sd_var (sda_cons sd_var sda_nil)))
 (ss_cons (ss_asgN (sd_sub c.hK c.hu (sd_sub c.hK c.hu (sd_fld sd_var (hC1 fx.c_Land fx.n_Land_kinds_there)) sd_var) sd_int) c.nd)
 (ss_cons (ss_if (sd_bool (sdb_or (sd_not (sd_isi sd_var rfl fx.f_isinstance rfl fx.f_dict (by decide +kernel))) (sdb_or1 (sd_cmp (op_neO c.hu64) (sd_callB (call_lenF c.hK) rfl fx.f_len (by decide +kernel) (sda_cons sd_var sda_nil)) (sd_callB (call_lenF c.hK) rfl fx.f_len (by decide +kernel) (sda_cons sd_var sda_nil)) (by rfl))))) (ss_one (ss_raiseO c fx.x_BadFields)) ss_nil)
 (ss_cons (ss_if (sd_not (sd_callB (call_allF c.calm) rfl fx.f_all (by decide +kernel) (sda_cons (sd_lc (own := [("field", 7)]) finT_ok c.calm c.nd (pi_any c.hK sd_var) (by rfl) (fun s7 H7 C7 cl7 fp7 => (sg_n (c.blk s7 H7 _ _ fp7).nd)) (fun s7 H7 C7 cl7 fp7 => sdt_nil) (fun s7 H7 C7 cl7 fp7 => (sd_bool (sdb_and (sd_cmp (op_inO (c.blk s7 H7 _ _ fp7).hK (c.blk s7 H7 _ _ fp7).hu) sd_var sd_var (by rfl)) (sdb_and1 (sd_callF (c.blk s7 H7 _ _ fp7) h_is_whole (by decide) (sda_cons (sd_sub (c.blk s7 H7 _ _ fp7).hK (c.blk s7 H7 _ _ fp7).hu sd_var sd_var) sda_nil))))))) sda_nil))) (ss_one (ss_raiseO c fx.x_BadFields)) ss_nil)
 (ss_cons (ss_if (sd_bool (sdb_and (sd_cmp op_isNotF2 sd_var sd_non (by rfl)) (sdb_and1 (sd_not (sd_isi sd_var rfl fx.f_isinstance rfl fx.f_str (by decide +kernel)))))) (ss_one (ss_raiseO c fx.x_BadKey)) ss_nil)
 (ss_cons (ss_asgN (sd_methF0 c h_Land_next_word (by decide) sd_var) c.nd)
 (ss_cons (ss_setLc (own := [("thing", 8)]) finT_ok c.calm c.nd (pi_val (sd_fld sd_var (hC1 fx.c_Land fx.n_Land_things))) (by rfl) (fun s8 H8 C8 cl8 fp8 => (sg_n (c.blk s8 H8 _ _ fp8).nd)) (fun s8 H8 C8 cl8 fp8 => (sdt_one (sd_bool (sdb_and (sd_cmp op_isNotF2 sd_var sd_non (by rfl)) (sdb_and1 (sd_cmp (op_eqO (c.blk s8 H8 _ _ fp8).hu64) (sd_fld sd_var (hC1 fx.c_Thing fx.n_Thing_key)) sd_var (by rfl))))))) (fun s8 H8 C8 cl8 fp8 => sd_var))
 (ss_cons (ss_if (sd_cmp (op_eqO c.hu64) sd_var (sd_lst sda_nil) (by rfl)) (ss_cons (ss_asgN (sd_lst (sda_cons (sd_makeF c h_Thing_init (by decide) (sda_cons (sd_fld sd_var (hC1 fx.c_Land fx.n_Land_made_so_far)) (sda_cons sd_var (sda_cons sd_var (sda_cons sd_var sda_nil))))) sda_nil)) c.nd)
 (ss_cons (ss_asg (sd_sub c.hK c.hu sd_var sd_int) (sg_sub (W := WF) c.hu (sd_fld sd_var (hC1 fx.c_Land fx.n_Land_things)) (sd_fld sd_var (hC1 fx.c_Land fx.n_Land_made_so_far))))
 (ss_cons (ss_fldaug sd_var sd_int in_addF (hC1 fx.c_Land fx.n_Land_made_so_far))
 (ss_one (ss_fldaug sd_var sd_int in_addF (hC1 fx.c_Land fx.n_Land_deeds_done)))))) ss_nil)
 (ss_cons (ss_expr (sd_methF c h_Land_ended (by decide) sd_var (sda_cons sd_var sda_nil)))
 (ss_one (ss_ret (sd_fld (sd_sub c.hK c.hu sd_var sd_int) (hC1 fx.c_Thing fx.n_Thing_number)))))))))))))
abbrev s_Land_change : Stmt := cbody (top 20) |>.getD 6 noSt
theorem sc_Land_change : FnScope N_Land_change ["self", "thing", "fields"] (defScope s_Land_change) := ⟨rfl, rfl, rfl, by decide +kernel, rfl, by decide +kernel, by decide +kernel⟩
set_option maxRecDepth 100000 in
theorem ok_Land_change (fx : Fx ca K mg) (F : FunD K "change" "Land.change" (defArgs s_Land_change) (defBody s_Land_change) (defScope s_Land_change) [] [] f fd) (h_Land_thing_of : CalM ca P w K mg base 2 15 "thing_of" m_Land_thing_of []) (h_is_whole : CalF ca P w K mg base 1 "is_whole" m_is_whole []) (h_Land_next_word : CalM ca P w K mg base 1 15 "next_word" m_Land_next_word []) (h_Land_ended : CalM ca P w K mg base 1 15 "ended" m_Land_ended []) : FnOk P w K mg base (L2N.CX P w) 3 f fd ["self", "thing", "fields"] (spM ca m_Land_change) :=
  fn_okM fx.hK F sc_Land_change rfl fun cdv A outer s H E ct => have c := ct.toCO; (ss_cons (ss_asgN (sd_methF c h_Land_thing_of (by decide) sd_var (sda_cons sd_var sda_nil)) c.nd)
 (ss_cons (ss_asg (sd_sub c.hK c.hu (sd_fld sd_var (hC1 fx.c_Land fx.n_Land_kinds_there)) (sd_fld sd_var (hC1 fx.c_Thing fx.n_Thing_sort_of))) (sg_t c.calm (sgs_cons (sg_n c.nd) (sgs_cons (sg_n c.nd) (sgs_nil (sl := []))))))
 (ss_cons (ss_if (sd_bool (sdb_or (sd_not (sd_isi sd_var rfl fx.f_isinstance rfl fx.f_dict (by decide +kernel))) (sdb_or1 (sd_cmp (op_eqO c.hu64) sd_var sd_dic (by rfl))))) (ss_one (ss_raiseO c fx.x_BadFields)) ss_nil)
 (ss_cons (ss_if (sd_not (sd_callB (call_allF c.calm) rfl fx.f_all (by decide +kernel) (sda_cons (sd_lc (own := [("field", 7)]) finT_ok c.calm c.nd (pi_any c.hK sd_var) (by rfl) (fun s9 H9 C9 cl9 fp9 => (sg_n (c.blk s9 H9 _ _ fp9).nd)) (fun s9 H9 C9 cl9 fp9 => sdt_nil) (fun s9 H9 C9 cl9 fp9 => (sd_bool (sdb_and (sd_cmp (op_inO (c.blk s9 H9 _ _ fp9).hK (c.blk s9 H9 _ _ fp9).hu) sd_var sd_var (by rfl)) (sdb_and (sd_cmp (op_notInO (c.blk s9 H9 _ _ fp9).hK (c.blk s9 H9 _ _ fp9).hu) sd_var sd_var (by rfl)) (sdb_and1 (sd_callF (c.blk s9 H9 _ _ fp9) h_is_whole (by decide) (sda_cons (sd_sub (c.blk s9 H9 _ _ fp9).hK (c.blk s9 H9 _ _ fp9).hu sd_var sd_var) sda_nil)))))))) sda_nil))) (ss_one (ss_raiseO c fx.x_BadFields)) ss_nil)
 (ss_cons (ss_asgN (sd_methF0 c h_Land_next_word (by decide) sd_var) c.nd)
 (ss_cons (ss_fld sd_var (sd_dc (own := [("field", 7)]) finDT_ok c.calm c.nd (pi_any c.hK (sd_fld sd_var (hC1 fx.c_Thing fx.n_Thing_numbers))) (by rfl) (fun s10 H10 C10 cl10 fp10 => (sg_n (c.blk s10 H10 _ _ fp10).nd)) (fun s10 H10 C10 cl10 fp10 => sdt_nil) (fun s10 H10 C10 cl10 fp10 => sd_var) (fun s10 H10 C10 cl10 fp10 => (sd_get2 (c.blk s10 H10 _ _ fp10).hu sd_var sd_var (sd_sub (c.blk s10 H10 _ _ fp10).hK (c.blk s10 H10 _ _ fp10).hu (sd_fld sd_var (hC1 fx.c_Thing fx.n_Thing_numbers)) sd_var) ⟨rfl, rfl, rfl, rfl⟩))) (hC1 fx.c_Thing fx.n_Thing_numbers))
 (ss_cons (ss_fldaug sd_var sd_int in_addF (hC1 fx.c_Thing fx.n_Thing_times))
 (ss_cons (ss_fldaug sd_var sd_int in_addF (hC1 fx.c_Land fx.n_Land_deeds_done))
 (ss_one (ss_expr (sd_methF c h_Land_ended (by decide) sd_var (sda_cons sd_var sda_nil))))))))))))
abbrev s_Land_take : Stmt := cbody (top 20) |>.getD 7 noSt
theorem sc_Land_take : FnScope N_Land_take ["self", "thing"] (defScope s_Land_take) := ⟨rfl, rfl, rfl, by decide +kernel, rfl, by decide +kernel, by decide +kernel⟩
set_option maxRecDepth 100000 in
theorem ok_Land_take (fx : Fx ca K mg) (F : FunD K "take" "Land.take" (defArgs s_Land_take) (defBody s_Land_take) (defScope s_Land_take) [] [] f fd) (h_Land_thing_of : CalM ca P w K mg base 2 15 "thing_of" m_Land_thing_of []) (h_Land_next_word : CalM ca P w K mg base 1 15 "next_word" m_Land_next_word []) (h_Land_ended : CalM ca P w K mg base 1 15 "ended" m_Land_ended []) : FnOk P w K mg base (L2N.CX P w) 3 f fd ["self", "thing"] (spM ca m_Land_take) :=
  fn_okM fx.hK F sc_Land_take rfl fun cdv A outer s H E ct => have c := ct.toCO; (ss_cons (ss_expr (sd_methF c h_Land_thing_of (by decide) sd_var (sda_cons sd_var sda_nil)))
 (ss_cons (ss_asgN (sd_methF0 c h_Land_next_word (by decide) sd_var) c.nd)
 (ss_cons (ss_expr (sd_pop1 (sd_fld sd_var (hC1 fx.c_Land fx.n_Land_things)) sd_var ⟨rfl, rfl, rfl, rfl⟩))
 (ss_cons (ss_fldaug sd_var sd_int in_addF (hC1 fx.c_Land fx.n_Land_deeds_done))
 (ss_one (ss_expr (sd_methF c h_Land_ended (by decide) sd_var (sda_cons sd_var sda_nil))))))))
abbrev s_Land_fails : Stmt := cbody (top 20) |>.getD 8 noSt
theorem sc_Land_fails : FnScope N_Land_fails ["self", "counts"] (defScope s_Land_fails) := ⟨rfl, rfl, rfl, by decide +kernel, rfl, by decide +kernel, by decide +kernel⟩
set_option maxRecDepth 100000 in
theorem ok_Land_fails (fx : Fx ca K mg) (F : FunD K "fails" "Land.fails" (defArgs s_Land_fails) (defBody s_Land_fails) (defScope s_Land_fails) [] [] f fd) (h_is_whole : CalF ca P w K mg base 1 "is_whole" m_is_whole []) : FnOk P w K mg base (L2N.CX P w) 2 f fd ["self", "counts"] (spM ca m_Land_fails) :=
  fn_okM fx.hK F sc_Land_fails rfl fun cdv A outer s H E ct => have c := ct.toCO; (ss_cons (ss_if (sd_bool (sdb_or (sd_not (sd_isi sd_var rfl fx.f_isinstance rfl fx.f_dict (by decide +kernel))) (sdb_or1 (sd_not (sd_callB (call_allF c.calm) rfl fx.f_all (by decide +kernel) (sda_cons (sd_lc (own := [("count", 2)]) finT_ok c.calm c.nd (pi_any c.hK sd_var) (by rfl) (fun s11 H11 C11 cl11 fp11 => (sg_n (c.blk s11 H11 _ _ fp11).nd)) (fun s11 H11 C11 cl11 fp11 => sdt_nil) (fun s11 H11 C11 cl11 fp11 => (sd_bool (sdb_and (sd_callF (c.blk s11 H11 _ _ fp11) h_is_whole (by decide) (sda_cons sd_var sda_nil)) (sdb_and1 (sd_cmp op_geF sd_var sd_int (by rfl))))))) sda_nil)))))) (ss_one (ss_raiseO c fx.x_BadFails)) ss_nil)
 (ss_cons (ss_if (sd_not (sd_callB (call_allF c.calm) rfl fx.f_all (by decide +kernel) (sda_cons (sd_lc (own := [("word", 3)]) finT_ok c.calm c.nd (pi_val sd_var) (by rfl) (fun s12 H12 C12 cl12 fp12 => (sg_n (c.blk s12 H12 _ _ fp12).nd)) (fun s12 H12 C12 cl12 fp12 => sdt_nil) (fun s12 H12 C12 cl12 fp12 => (sd_bool (sdb_and (sd_isi sd_var rfl fx.f_isinstance rfl fx.f_str (by decide +kernel)) (sdb_and1 (sd_cmp (op_inO (c.blk s12 H12 _ _ fp12).hK (c.blk s12 H12 _ _ fp12).hu) sd_var (sd_tup (sda_cons sd_str (sda_cons sd_str sda_nil))) (by rfl))))))) sda_nil))) (ss_one (ss_raiseO c fx.x_BadFails)) ss_nil)
 (ss_cons (ss_fld sd_var (sd_callT (call_dictF c.calm) rfl fx.f_dict (by decide +kernel) (sda_cons sd_var sda_nil)) (hC1 fx.c_Land fx.n_Land_failing))
 (ss_one (ss_fld sd_var sd_int (hC1 fx.c_Land fx.n_Land_asked))))))
abbrev s_Land_ids : Stmt := cbody (top 20) |>.getD 9 noSt
theorem sc_Land_ids : FnScope N_Land_ids ["self"] (defScope s_Land_ids) := ⟨rfl, rfl, rfl, by decide +kernel, rfl, by decide +kernel, by decide +kernel⟩
set_option maxRecDepth 100000 in
theorem ok_Land_ids (fx : Fx ca K mg) (F : FunD K "ids" "Land.ids" (defArgs s_Land_ids) (defBody s_Land_ids) (defScope s_Land_ids) [] [] f fd)  : FnOk P w K mg base (L2N.CX P w) 1 f fd ["self"] (spM ca m_Land_ids) :=
  fn_okM fx.hK F sc_Land_ids rfl fun cdv A outer s H E ct => have c := ct.toCO; (ss_one (ss_ret (sd_callB call_sortC rfl fx.f_sorted (by decide +kernel) (sda_cons (sd_callT (call_listF c.hK c.calm) rfl fx.f_list (by decide +kernel) (sda_cons (sd_fld sd_var (hC1 fx.c_Land fx.n_Land_things)) sda_nil)) sda_nil))))
abbrev s_Land_kind : Stmt := cbody (top 20) |>.getD 10 noSt
theorem sc_Land_kind : FnScope N_Land_kind ["self", "thing"] (defScope s_Land_kind) := ⟨rfl, rfl, rfl, by decide +kernel, rfl, by decide +kernel, by decide +kernel⟩
set_option maxRecDepth 100000 in
theorem ok_Land_kind (fx : Fx ca K mg) (F : FunD K "kind" "Land.kind" (defArgs s_Land_kind) (defBody s_Land_kind) (defScope s_Land_kind) [] [] f fd) (h_Land_thing_of : CalM ca P w K mg base 2 15 "thing_of" m_Land_thing_of []) : FnOk P w K mg base (L2N.CX P w) 3 f fd ["self", "thing"] (spM ca m_Land_kind) :=
  fn_okM fx.hK F sc_Land_kind rfl fun cdv A outer s H E ct => have c := ct.toCO; (ss_one (ss_ret (sd_fld (sd_methF c h_Land_thing_of (by decide) sd_var (sda_cons sd_var sda_nil)) (hC1 fx.c_Thing fx.n_Thing_sort_of))))
abbrev s_Land_fields : Stmt := cbody (top 20) |>.getD 11 noSt
theorem sc_Land_fields : FnScope N_Land_fields ["self", "thing"] (defScope s_Land_fields) := ⟨rfl, rfl, rfl, by decide +kernel, rfl, by decide +kernel, by decide +kernel⟩
set_option maxRecDepth 100000 in
theorem ok_Land_fields (fx : Fx ca K mg) (F : FunD K "fields" "Land.fields" (defArgs s_Land_fields) (defBody s_Land_fields) (defScope s_Land_fields) [] [] f fd) (h_Land_thing_of : CalM ca P w K mg base 2 15 "thing_of" m_Land_thing_of []) : FnOk P w K mg base (L2N.CX P w) 3 f fd ["self", "thing"] (spM ca m_Land_fields) :=
  fn_okM fx.hK F sc_Land_fields rfl fun cdv A outer s H E ct => have c := ct.toCO; (ss_cons (ss_asgN (sd_methF c h_Land_thing_of (by decide) sd_var (sda_cons sd_var sda_nil)) c.nd)
 (ss_one (ss_ret (sd_dc (own := [("field", 3)]) finDC_ok c.calm c.nd (pi_any c.hK (sd_sub c.hK c.hu (sd_sub c.hK c.hu (sd_fld sd_var (hC1 fx.c_Land fx.n_Land_kinds_there)) (sd_fld sd_var (hC1 fx.c_Thing fx.n_Thing_sort_of))) sd_int)) (by rfl) (fun s13 H13 C13 cl13 fp13 => (sg_n (c.blk s13 H13 _ _ fp13).nd)) (fun s13 H13 C13 cl13 fp13 => sdt_nil) (fun s13 H13 C13 cl13 fp13 => sd_var) (fun s13 H13 C13 cl13 fp13 => (sd_sub (c.blk s13 H13 _ _ fp13).hK (c.blk s13 H13 _ _ fp13).hu (sd_fld sd_var (hC1 fx.c_Thing fx.n_Thing_numbers)) sd_var))))))
abbrev s_Land_touched : Stmt := cbody (top 20) |>.getD 12 noSt
theorem sc_Land_touched : FnScope N_Land_touched ["self", "thing"] (defScope s_Land_touched) := ⟨rfl, rfl, rfl, by decide +kernel, rfl, by decide +kernel, by decide +kernel⟩
set_option maxRecDepth 100000 in
theorem ok_Land_touched (fx : Fx ca K mg) (F : FunD K "touched" "Land.touched" (defArgs s_Land_touched) (defBody s_Land_touched) (defScope s_Land_touched) [] [] f fd) (h_Land_thing_of : CalM ca P w K mg base 2 15 "thing_of" m_Land_thing_of []) : FnOk P w K mg base (L2N.CX P w) 3 f fd ["self", "thing"] (spM ca m_Land_touched) :=
  fn_okM fx.hK F sc_Land_touched rfl fun cdv A outer s H E ct => have c := ct.toCO; (ss_one (ss_ret (sd_fld (sd_methF c h_Land_thing_of (by decide) sd_var (sda_cons sd_var sda_nil)) (hC1 fx.c_Thing fx.n_Thing_times))))
abbrev s_Land_made_by : Stmt := cbody (top 20) |>.getD 13 noSt
theorem sc_Land_made_by : FnScope N_Land_made_by ["self", "key"] (defScope s_Land_made_by) := ⟨rfl, rfl, rfl, by decide +kernel, rfl, by decide +kernel, by decide +kernel⟩
set_option maxRecDepth 100000 in
theorem ok_Land_made_by (fx : Fx ca K mg) (F : FunD K "made_by" "Land.made_by" (defArgs s_Land_made_by) (defBody s_Land_made_by) (defScope s_Land_made_by) [] [] f fd)  : FnOk P w K mg base (L2N.CX P w) 1 f fd ["self", "key"] (spM ca m_Land_made_by) :=
  fn_okM fx.hK F sc_Land_made_by rfl fun cdv A outer s H E ct => have c := ct.toCO; (ss_cons (ss_if (sd_not (sd_isi sd_var rfl fx.f_isinstance rfl fx.f_str (by decide +kernel))) (ss_one (ss_raiseO c fx.x_BadKey)) ss_nil)
 (ss_cons (ss_for c.ow c.calm (pi_val (sd_fld sd_var (hC1 fx.c_Land fx.n_Land_things))) (sg_n c.nd) (ss_one (ss_if (sd_cmp (op_eqO c.hu64) (sd_fld sd_var (hC1 fx.c_Thing fx.n_Thing_key)) sd_var (by rfl)) (ss_one (ss_ret (sd_fld sd_var (hC1 fx.c_Thing fx.n_Thing_number)))) ss_nil)))
 (ss_one (ss_ret sd_non))))
abbrev s__law_cell_at : Stmt := top 22
theorem sc__law_cell_at : FnScope N__law_cell_at ["_law_script", "_law_k"] (defScope s__law_cell_at) := ⟨rfl, rfl, rfl, by decide +kernel, rfl, by decide +kernel, by decide +kernel⟩
set_option maxRecDepth 100000 in
theorem ok__law_cell_at (fx : Fx ca K mg) (F : FunD K "_law_cell_at" "_law_cell_at" (defArgs s__law_cell_at) (defBody s__law_cell_at) (defScope s__law_cell_at) [] [] f fd)  : FnOk P w K mg base (L2N.CX P w) 1 f fd ["_law_script", "_law_k"] (spM ca m__law_cell_at) :=
  fn_okM fx.hK F sc__law_cell_at rfl fun cdv A outer s H E ct => have c := ct.toCO; (ss_cons (ss_if (sd_cmp op_ltF sd_var (sd_callB (call_lenF c.hK) rfl fx.f_len (by decide +kernel) (sda_cons sd_var sda_nil)) (by rfl)) (ss_one (ss_ret (sd_sub c.hK c.hu sd_var sd_var))) ss_nil)
 (ss_one (ss_ret sd_int)))
abbrev s__law_draw : Stmt := top 23
theorem sc__law_draw : FnScope N__law_draw ["_law_cell", "_law_k", "_law_most"] (defScope s__law_draw) := ⟨rfl, rfl, rfl, by decide +kernel, rfl, by decide +kernel, by decide +kernel⟩
set_option maxRecDepth 100000 in
theorem ok__law_draw (fx : Fx ca K mg) (F : FunD K "_law_draw" "_law_draw" (defArgs s__law_draw) (defBody s__law_draw) (defScope s__law_draw) [] [] f fd)  : FnOk P w K mg base (L2N.CX P w) 1 f fd ["_law_cell", "_law_k", "_law_most"] (spM ca m__law_draw) :=
  fn_okM fx.hK F sc__law_draw rfl fun cdv A outer s H E ct => have c := ct.toCO; (ss_cons (ss_asgN (sd_tup (sda_cons sd_int (sda_cons sd_int (sda_cons sd_int (sda_cons sd_int (sda_cons sd_int (sda_cons sd_int (sda_cons sd_int (sda_cons sd_int (sda_cons sd_int (sda_cons sd_int (sda_cons sd_int (sda_cons sd_int (sda_cons sd_int (sda_cons sd_int (sda_cons sd_int (sda_cons sd_int sda_nil))))))))))))))))) c.nd)
 (ss_one (ss_ret (sd_bin op_modF (sd_bin op_modF (sd_bin op_addF (sd_bin op_mulG sd_var sd_int) (sd_bin op_mulG sd_var sd_int)) (sd_sub c.hK c.hu sd_var (sd_bin op_modF sd_var sd_int))) sd_var))))
abbrev s__law_number : Stmt := top 24
theorem sc__law_number : FnScope N__law_number ["_law_cell", "_law_k", "_law_limit"] (defScope s__law_number) := ⟨rfl, rfl, rfl, by decide +kernel, rfl, by decide +kernel, by decide +kernel⟩
set_option maxRecDepth 100000 in
theorem ok__law_number (fx : Fx ca K mg) (F : FunD K "_law_number" "_law_number" (defArgs s__law_number) (defBody s__law_number) (defScope s__law_number) [] [] f fd) (h__law_draw : CalF ca P w K mg base 1 "_law_draw" m__law_draw []) : FnOk P w K mg base (L2N.CX P w) 2 f fd ["_law_cell", "_law_k", "_law_limit"] (spM ca m__law_number) :=
  fn_okM fx.hK F sc__law_number rfl fun cdv A outer s H E ct => have c := ct.toCO; (ss_cons (ss_asgN (sd_bin op_subF sd_var (sd_bin op_powF sd_int sd_int)) c.nd)
 (ss_cons (ss_for c.ow c.calm (pi_rng1 rfl fx.f_range (sda_cons (sd_bin op_modF sd_var sd_int) sda_nil)) (sg_n c.nd) (ss_one (ss_asgN (sd_bin op_fdivF sd_var sd_int) c.nd)))
 (ss_cons (ss_if (sd_cmp op_gtF sd_var sd_int (by rfl)) (ss_one (ss_ret (sd_bin op_modF (sd_bin op_modF sd_var sd_int) sd_var))) ss_nil)
 (ss_cons (ss_asgN (sd_bin op_modF sd_var sd_int) c.nd)
 (ss_one (ss_ret (sd_bin op_modF (sd_callF c h__law_draw (by decide) (sda_cons (sd_bin op_mulG (sd_bin op_addF sd_var (sd_bin op_mulG sd_int sd_var)) (sd_bin op_addF (sd_bin op_addF sd_var (sd_bin op_mulG sd_int sd_var)) sd_int)) (sda_cons (sd_bin op_addF (sd_bin op_modF sd_var sd_int) sd_int) (sda_cons sd_int sda_nil)))) sd_var)))))))
abbrev s__law_next : Stmt := top 25
theorem sc__law_next : FnScope N__law_next ["_law_state", "_law_limit"] (defScope s__law_next) := ⟨rfl, rfl, rfl, by decide +kernel, rfl, by decide +kernel, by decide +kernel⟩
set_option maxRecDepth 100000 in
theorem ok__law_next (fx : Fx ca K mg) (F : FunD K "_law_next" "_law_next" (defArgs s__law_next) (defBody s__law_next) (defScope s__law_next) [] [] f fd) (h__law_cell_at : CalF ca P w K mg base 1 "_law_cell_at" m__law_cell_at []) (h__law_number : CalF ca P w K mg base 2 "_law_number" m__law_number []) : FnOk P w K mg base (L2N.CX P w) 3 f fd ["_law_state", "_law_limit"] (spM ca m__law_next) :=
  fn_okM fx.hK F sc__law_next rfl fun cdv A outer s H E ct => have c := ct.toCO; (ss_cons (ss_asg (sd_bin op_addF (sd_sub c.hK c.hu sd_var sd_int) sd_int) (sg_sub (W := WF) c.hu sd_var sd_int))
 (ss_cons (ss_asgN (sd_bin op_fdivF (sd_sub c.hK c.hu sd_var sd_int) sd_int) c.nd)
 (ss_cons (ss_asgN (sd_bin op_addF (sd_callF c h__law_cell_at (by decide) (sda_cons (sd_sub c.hK c.hu sd_var sd_int) (sda_cons (sd_bin op_addF (sd_sub c.hK c.hu sd_var sd_int) sd_var) sda_nil))) (sd_bin op_mulG sd_int sd_var)) c.nd)
 (ss_one (ss_ret (sd_callF c h__law_number (by decide) (sda_cons sd_var (sda_cons (sd_bin op_addF (sd_bin op_modF (sd_sub c.hK c.hu sd_var sd_int) sd_int) sd_int) (sda_cons sd_var sda_nil)))))))))
abbrev s__law_kinds : Stmt := top 26
theorem sc__law_kinds : FnScope N__law_kinds ["_law_state"] (defScope s__law_kinds) := ⟨rfl, rfl, rfl, by decide +kernel, rfl, by decide +kernel, by decide +kernel⟩
set_option maxRecDepth 100000 in
theorem ok__law_kinds (fx : Fx ca K mg) (F : FunD K "_law_kinds" "_law_kinds" (defArgs s__law_kinds) (defBody s__law_kinds) (defScope s__law_kinds) [] [] f fd) (h__law_next : CalF ca P w K mg base 3 "_law_next" m__law_next []) : FnOk P w K mg base (L2N.CX P w) 4 f fd ["_law_state"] (spM ca m__law_kinds) :=
  fn_okM fx.hK F sc__law_kinds rfl fun cdv A outer s H E ct => have c := ct.toCO; (ss_cons (ss_par (sda_cons sd_dicC (sda_cons (sd_lst (sda_cons sd_str (sda_cons sd_str (sda_cons sd_str (sda_cons sd_str (sda_cons sd_str sda_nil)))))) sda_nil)) c.calm c.nd)
 (ss_cons (ss_for c.ow c.calm (pi_any c.hK (sd_slice c.hK (sd_lst (sda_cons sd_str (sda_cons sd_str (sda_cons sd_str (sda_cons sd_str (sda_cons sd_str sda_nil)))))) sp_no (sp_so (sd_bin op_addF sd_int (sd_callF c h__law_next (by decide) (sda_cons sd_var (sda_cons sd_int sda_nil))))))) (sg_n c.nd) (ss_cons (ss_asgN (sd_slice c.hK (sd_slice c.hK sd_var (sp_so (sd_callF c h__law_next (by decide) (sda_cons sd_var (sda_cons sd_int sda_nil)))) sp_no) sp_no (sp_so (sd_bin op_addF sd_int (sd_callF c h__law_next (by decide) (sda_cons sd_var (sda_cons sd_int sda_nil)))))) c.nd)
 (ss_one (ss_asg (sd_tup (sda_cons sd_var (sda_cons (sd_lc (own := [("_law_field", 5)]) finT_ok c.calm c.nd (pi_any c.hK sd_var) (by rfl) (fun s14 H14 C14 cl14 fp14 => (sg_n (c.blk s14 H14 _ _ fp14).nd)) (fun s14 H14 C14 cl14 fp14 => (sdt_one (sd_cmp (op_eqO (c.blk s14 H14 _ _ fp14).hu64) (sd_callF (c.blk s14 H14 _ _ fp14) h__law_next (by decide) (sda_cons sd_var (sda_cons sd_int sda_nil))) sd_int (by rfl)))) (fun s14 H14 C14 cl14 fp14 => sd_var)) sda_nil))) (sg_sub (W := WF) c.hu sd_var sd_var)))))
 (ss_one (ss_ret (sd_frz sd_var)))))
abbrev s__law_done : Stmt := top 28
theorem sc__law_done : FnScope N__law_done ["_law_here", "_law_deed_here"] (defScope s__law_done) := ⟨rfl, rfl, rfl, by decide +kernel, rfl, by decide +kernel, by decide +kernel⟩
set_option maxRecDepth 100000 in
theorem ok__law_done (fx : Fx ca K mg) (F : FunD K "_law_done" "_law_done" (defArgs s__law_done) (defBody s__law_done) (defScope s__law_done) [] [] f fd)  : FnOk P w K mg base (L2N.CX P w) 1 f fd ["_law_here", "_law_deed_here"] (spM ca m__law_done) :=
  fn_okM fx.hK F sc__law_done rfl fun cdv A outer s H E ct => have c := ct.toCO; (ss_cons (ss_asg sd_var (sg_t c.calm (sgs_cons (sg_n c.nd) (sgs_cons (sg_n c.nd) (sgs_cons (sg_n c.nd) (sgs_cons (sg_n c.nd) (sgs_nil (sl := []))))))))
 (ss_cons (ss_if (sd_cmp (op_eqO c.hu64) sd_var sd_str (by rfl)) (ss_cons (ss_expr (sd_pop1 (sd_sub c.hK c.hu sd_var sd_str) sd_var ⟨rfl, rfl, rfl, rfl⟩))
 (ss_one (ss_ret sd_non))) ss_nil)
 (ss_cons (ss_if (sd_cmp (op_eqO c.hu64) sd_var sd_str (by rfl)) (ss_cons (ss_asgN (sd_sub c.hK c.hu (sd_sub c.hK c.hu sd_var sd_str) sd_var) c.nd)
 (ss_cons (ss_for c.ow c.calm (pi_any c.hK sd_var) (sg_n c.nd) (ss_one (ss_asg (sd_sub c.hK c.hu sd_var sd_var) (sg_sub (W := WF) c.hu (sd_sub c.hK c.hu sd_var sd_str) sd_var))))
 (ss_cons (ss_asg (sd_bin op_addF (sd_sub c.hK c.hu sd_var sd_str) sd_int) (sg_sub (W := WF) c.hu sd_var sd_str))
 (ss_one (ss_ret sd_non))))) ss_nil)
 (ss_cons (ss_setLc (own := [("_law_number_here", 9)]) finT_ok c.calm c.nd (pi_any c.hK (sd_sub c.hK c.hu sd_var sd_str)) (by rfl) (fun s16 H16 C16 cl16 fp16 => (sg_n (c.blk s16 H16 _ _ fp16).nd)) (fun s16 H16 C16 cl16 fp16 => (sdt_one (sd_bool (sdb_and (sd_cmp op_isNotF2 sd_var sd_non (by rfl)) (sdb_and1 (sd_cmp (op_eqO (c.blk s16 H16 _ _ fp16).hu64) (sd_sub (c.blk s16 H16 _ _ fp16).hK (c.blk s16 H16 _ _ fp16).hu (sd_sub (c.blk s16 H16 _ _ fp16).hK (c.blk s16 H16 _ _ fp16).hu (sd_sub (c.blk s16 H16 _ _ fp16).hK (c.blk s16 H16 _ _ fp16).hu sd_var sd_str) sd_var) sd_str) sd_var (by rfl))))))) (fun s16 H16 C16 cl16 fp16 => sd_var))
 (ss_cons (ss_if (sd_cmp (op_eqO c.hu64) sd_var (sd_lst sda_nil) (by rfl)) (ss_cons (ss_asgN (sd_lst (sda_cons (sd_sub c.hK c.hu sd_var sd_str) sda_nil)) c.nd)
 (ss_cons (ss_asg (sd_dspC (sdp_cons sd_str sd_var (sdp_cons sd_str (sd_callT (call_dictC c.calm) rfl fx.f_dict (by decide +kernel) (sda_cons sd_var sda_nil)) (sdp_cons sd_str sd_var (sdp_cons sd_str sd_int sdp_nil))))) (sg_sub (W := WF) c.hu (sd_sub c.hK c.hu sd_var sd_str) (sd_sub c.hK c.hu sd_var sd_str)))
 (ss_one (ss_asg (sd_bin op_addF (sd_sub c.hK c.hu sd_var sd_str) sd_int) (sg_sub (W := WF) c.hu sd_var sd_str))))) ss_nil)
 (ss_one (ss_ret (sd_sub c.hK c.hu sd_var sd_int))))))))
abbrev s__law_own : Stmt := top 27
theorem sc__law_own : FnScope N__law_own ["_law_here", "_law_deed_here"] (defScope s__law_own) := ⟨rfl, rfl, rfl, by decide +kernel, rfl, by decide +kernel, by decide +kernel⟩
set_option maxRecDepth 100000 in
theorem ok__law_own (fx : Fx ca K mg) (F : FunD K "_law_own" "_law_own" (defArgs s__law_own) (defBody s__law_own) (defScope s__law_own) [] [] f fd) (h__law_done : CalF ca P w K mg base 1 "_law_done" m__law_done []) : FnOk P w K mg base (L2N.CX P w) 2 f fd ["_law_here", "_law_deed_here"] (spM ca m__law_own) :=
  fn_okM fx.hK F sc__law_own rfl fun cdv A outer s H E ct => have c := ct.toCO; (ss_cons (ss_asg sd_var (sg_t c.calm (sgs_cons (sg_n c.nd) (sgs_cons (sg_n c.nd) (sgs_cons (sg_n c.nd) (sgs_cons (sg_n c.nd) (sgs_nil (sl := []))))))))
 (ss_cons (ss_if (sd_cmp (op_eqO c.hu64) sd_var sd_str (by rfl)) (ss_cons (ss_asg (sd_tup (sda_cons sd_var (sda_cons sd_int sda_nil))) (sg_t c.calm (sgs_cons (sg_sub (W := WF) c.hu sd_var sd_str) (sgs_cons (sg_sub (W := WF) c.hu sd_var sd_str) (sgs_nil (sl := []))))))
 (ss_one (ss_ret sd_non))) ss_nil)
 (ss_cons (ss_if (sd_bool (sdb_and (sd_cmp (op_neO c.hu64) sd_var sd_str (by rfl)) (sdb_and1 (sd_cmp (op_notInO c.hK c.hu) sd_var (sd_sub c.hK c.hu sd_var sd_str) (by rfl))))) (ss_one (ss_ret sd_str)) ss_nil)
 (ss_cons (ss_if (sd_cmp (op_eqO c.hu64) sd_var sd_str (by rfl)) (ss_cons (ss_asg (sd_sub c.hK c.hu (sd_sub c.hK c.hu sd_var sd_str) (sd_sub c.hK c.hu (sd_sub c.hK c.hu (sd_sub c.hK c.hu sd_var sd_str) sd_var) sd_str)) (sg_t c.calm (sgs_cons (sg_n c.nd) (sgs_cons (sg_n c.nd) (sgs_nil (sl := []))))))
 (ss_one (ss_if (sd_not (sd_callB (call_allF c.calm) rfl fx.f_all (by decide +kernel) (sda_cons (sd_lc (own := [("_law_field", 10)]) finT_ok c.calm c.nd (pi_any c.hK sd_var) (by rfl) (fun s15 H15 C15 cl15 fp15 => (sg_n (c.blk s15 H15 _ _ fp15).nd)) (fun s15 H15 C15 cl15 fp15 => sdt_nil) (fun s15 H15 C15 cl15 fp15 => (sd_bool (sdb_and (sd_cmp (op_inO (c.blk s15 H15 _ _ fp15).hK (c.blk s15 H15 _ _ fp15).hu) sd_var sd_var (by rfl)) (sdb_and1 (sd_cmp (op_notInO (c.blk s15 H15 _ _ fp15).hK (c.blk s15 H15 _ _ fp15).hu) sd_var sd_var (by rfl))))))) sda_nil))) (ss_one (ss_ret sd_str)) ss_nil))) ss_nil)
 (ss_cons (ss_asgN (sd_get2 c.hu (sd_sub c.hK c.hu sd_var sd_str) (sd_sub c.hK c.hu sd_var sd_str) sd_str ⟨rfl, rfl, rfl, rfl⟩) c.nd)
 (ss_cons (ss_asg (sd_bin op_addF (sd_sub c.hK c.hu sd_var sd_str) sd_int) (sg_sub (W := WF) c.hu sd_var sd_str))
 (ss_cons (ss_if (sd_cmp (op_eqO c.hu64) sd_var sd_str (by rfl)) (ss_one (ss_ret sd_str)) ss_nil)
 (ss_cons (ss_asgN (sd_callF c h__law_done (by decide) (sda_cons sd_var (sda_cons sd_var sda_nil))) c.nd)
 (ss_one (ss_ret (sd_if (sd_cmp (op_eqO c.hu64) sd_var sd_str (by rfl)) sd_str sd_var)))))))))))
abbrev s__law_ask : Stmt := top 29
theorem sc__law_ask : FnScope N__law_ask ["_law_land", "_law_deed_here"] (defScope s__law_ask) := ⟨rfl, rfl, rfl, by decide +kernel, rfl, by decide +kernel, by decide +kernel⟩
set_option maxRecDepth 100000 in
theorem ok__law_ask (fx : Fx ca K mg) (F : FunD K "_law_ask" "_law_ask" (defArgs s__law_ask) (defBody s__law_ask) (defScope s__law_ask) [] [] f fd) (h_Land_make : CalM ca P w K mg base 3 15 "make" m_Land_make [.non]) (hk_Land_make : CalMK ca P w K mg base 3 15 "make" m_Land_make 3 ["key"]) (h_Land_fails : CalM ca P w K mg base 2 15 "fails" m_Land_fails []) (h_Land_take : CalM ca P w K mg base 3 15 "take" m_Land_take []) (h_Land_change : CalM ca P w K mg base 3 15 "change" m_Land_change []) : FnOk P w K mg base (L2N.CX P w) 4 f fd ["_law_land", "_law_deed_here"] (spM ca m__law_ask) :=
  fn_okM fx.hK F sc__law_ask rfl fun cdv A outer s H E ct => have c := ct.toCO; (ss_cons (ss_asg sd_var (sg_t c.calm (sgs_cons (sg_n c.nd) (sgs_cons (sg_n c.nd) (sgs_cons (sg_n c.nd) (sgs_cons (sg_n c.nd) (sgs_nil (sl := []))))))))
 (ss_cons (ss_tryAs ct rfl rfl ⟨rfl, by decide, .inl fx.m_LandError⟩ fx.y_LandError fx.o_LandError (fun W17 pn17 xe17 ct17 => (ss_one (ss_if (sd_cmp (op_eqO (ct17).toCO.hu64) sd_var sd_str (by rfl)) (ss_one (ss_asgN (sd_if (sd_cmp op_isF2 sd_var sd_non (by rfl)) (sd_methF (ct17).toCO h_Land_make (by decide) sd_var (sda_cons sd_var (sda_cons sd_var sda_nil))) (sd_methK (ct17).toCO hk_Land_make (by decide) sd_var (sda_cons sd_var (sda_cons sd_var sda_nil)) (sdk_cons sd_var sdk_nil))) (ct17).toCO.nd)) (ss_one (ss_if (sd_cmp (op_eqO (ct17).toCO.hu64) sd_var sd_str (by rfl)) (ss_one (ss_asgN (sd_methF (ct17).toCO h_Land_fails (by decide) sd_var (sda_cons sd_var sda_nil)) (ct17).toCO.nd)) (ss_one (ss_asgN (sd_if (sd_cmp (op_eqO (ct17).toCO.hu64) sd_var sd_str (by rfl)) (sd_methF (ct17).toCO h_Land_take (by decide) sd_var (sda_cons sd_var sda_nil)) (sd_methF (ct17).toCO h_Land_change (by decide) sd_var (sda_cons sd_var (sda_cons sd_var sda_nil)))) (ct17).toCO.nd))))))) (fun a17 oe17 q pn17 hq hz hf => have cs17 := COS.of c a17 ((a17, oe17) :: pn17); (ssu_cons (stu_asgN (sdu_lst (pau_cons (sdu_isE (fx.e_0_1_2_3_4_5_6_10 q hq) hz hf fx.f_isinstance fx.m_NoThing (fx.t_NoThing q hq)) (pau_cons (sdu_isE (fx.e_0_1_2_3_4_5_6_10 q hq) hz hf fx.f_isinstance fx.m_BadFields (fx.t_BadFields q hq)) (pau_cons (sdu_isE (fx.e_0_1_2_3_4_5_6_10 q hq) hz hf fx.f_isinstance fx.m_Failed (fx.t_Failed q hq)) pau_nil)))) cs17.nd)
 (ss_one (ss_ret (sd_if (sd_cmp (op_eqO cs17.hu64) (sd_lcount cs17.hK sd_var sd_bl) sd_int (by rfl)) (sd_sub cs17.hK cs17.hu (sd_tup (sda_cons sd_str (sda_cons sd_str (sda_cons sd_str sda_nil)))) (sd_lindex cs17.hK sd_var sd_bl)) sd_str))))))
 (ss_one (ss_ret sd_var))))
abbrev s__law_deed : Stmt := top 30
theorem sc__law_deed : FnScope N__law_deed ["_law_state", "_law_kinds_here", "_law_made"] (defScope s__law_deed) := ⟨rfl, rfl, rfl, by decide +kernel, rfl, by decide +kernel, by decide +kernel⟩
set_option maxRecDepth 100000 in
theorem ok__law_deed (fx : Fx ca K mg) (F : FunD K "_law_deed" "_law_deed" (defArgs s__law_deed) (defBody s__law_deed) (defScope s__law_deed) [] [] f fd) (h__law_next : CalF ca P w K mg base 3 "_law_next" m__law_next []) : FnOk P w K mg base (L2N.CX P w) 4 f fd ["_law_state", "_law_kinds_here", "_law_made"] (spM ca m__law_deed) :=
  fn_okM fx.hK F sc__law_deed rfl fun cdv A outer s H E ct => have c := ct.toCO; (ss_cons (ss_par (sda_cons (sd_callF c h__law_next (by decide) (sda_cons sd_var (sda_cons sd_int sda_nil))) (sda_cons (sd_sub c.hK c.hu (sd_callT (call_listF c.hK c.calm) rfl fx.f_list (by decide +kernel) (sda_cons sd_var sda_nil)) (sd_callF c h__law_next (by decide) (sda_cons sd_var (sda_cons (sd_callB (call_lenF c.hK) rfl fx.f_len (by decide +kernel) (sda_cons sd_var sda_nil)) sda_nil)))) sda_nil)) c.calm c.nd)
 (ss_cons (ss_asgN (sd_callT (call_dictF c.calm) rfl fx.f_dict (by decide +kernel) (sda_cons (sd_lc (own := [("_law_field", 11)]) finT_ok c.calm c.nd (pi_any c.hK (sd_sub c.hK c.hu (sd_sub c.hK c.hu sd_var sd_var) sd_int)) (by rfl) (fun s18 H18 C18 cl18 fp18 => (sg_n (c.blk s18 H18 _ _ fp18).nd)) (fun s18 H18 C18 cl18 fp18 => sdt_nil) (fun s18 H18 C18 cl18 fp18 => (sd_tup (sda_cons sd_var (sda_cons (sd_bin op_subF (sd_callF (c.blk s18 H18 _ _ fp18) h__law_next (by decide) (sda_cons sd_var (sda_cons sd_int sda_nil))) sd_int) sda_nil))))) sda_nil)) c.nd)
 (ss_cons (ss_if (sd_cmp op_ltF sd_var sd_int (by rfl)) (ss_one (ss_ret (sd_tup (sda_cons sd_str (sda_cons sd_var (sda_cons sd_var (sda_cons (sd_sub c.hK c.hu (sd_tup (sda_cons sd_non (sda_cons sd_non (sda_cons sd_str (sda_cons sd_str (sda_cons (sd_bin op_mulG sd_str sd_int) sda_nil)))))) (sd_callF c h__law_next (by decide) (sda_cons sd_var (sda_cons sd_int sda_nil)))) sda_nil))))))) ss_nil)
 (ss_cons (ss_if (sd_cmp (op_eqO c.hu64) sd_var sd_int (by rfl)) (ss_cons (ss_asg (sd_tup (sda_cons (sd_callF c h__law_next (by decide) (sda_cons sd_var (sda_cons sd_int sda_nil))) (sda_cons (sd_tup (sda_cons sd_str (sda_cons sd_str sda_nil))) sda_nil))) (sg_t c.calm (sgs_cons (sg_n c.nd) (sgs_cons (sg_n c.nd) (sgs_nil (sl := []))))))
 (ss_cons (ss_asgN (sd_callT (call_dictF c.calm) rfl fx.f_dict (by decide +kernel) (sda_cons (sd_lc (own := [("_law_turn", 12)]) finT_ok c.calm c.nd (pi_rng1 rfl fx.f_range (sda_cons sd_var sda_nil)) (by rfl) (fun s19 H19 C19 cl19 fp19 => (sg_n (c.blk s19 H19 _ _ fp19).nd)) (fun s19 H19 C19 cl19 fp19 => sdt_nil) (fun s19 H19 C19 cl19 fp19 => (sd_tup (sda_cons (sd_callF (c.blk s19 H19 _ _ fp19) h__law_next (by decide) (sda_cons sd_var (sda_cons sd_int sda_nil))) (sda_cons (sd_sub (c.blk s19 H19 _ _ fp19).hK (c.blk s19 H19 _ _ fp19).hu sd_var (sd_callF (c.blk s19 H19 _ _ fp19) h__law_next (by decide) (sda_cons sd_var (sda_cons sd_int sda_nil)))) sda_nil))))) sda_nil)) c.nd)
 (ss_one (ss_ret (sd_tup (sda_cons sd_str (sda_cons sd_var (sda_cons sd_non (sda_cons sd_non sda_nil))))))))) ss_nil)
 (ss_cons (ss_asgN (sd_callF c h__law_next (by decide) (sda_cons sd_var (sda_cons (sd_bin op_addF sd_var sd_int) sda_nil))) c.nd)
 (ss_cons (ss_asgN (sd_callT (call_dictF c.calm) rfl fx.f_dict (by decide +kernel) (sda_cons (sd_lc (own := [("_law_field", 11)]) finT_ok c.calm c.nd (pi_any c.hK sd_var) (by rfl) (fun s20 H20 C20 cl20 fp20 => (sg_n (c.blk s20 H20 _ _ fp20).nd)) (fun s20 H20 C20 cl20 fp20 => (sdt_one (sd_cmp (op_eqO (c.blk s20 H20 _ _ fp20).hu64) (sd_callF (c.blk s20 H20 _ _ fp20) h__law_next (by decide) (sda_cons sd_var (sda_cons sd_int sda_nil))) sd_int (by rfl)))) (fun s20 H20 C20 cl20 fp20 => (sd_tup (sda_cons sd_var (sda_cons (sd_sub (c.blk s20 H20 _ _ fp20).hK (c.blk s20 H20 _ _ fp20).hu sd_var sd_var) sda_nil))))) sda_nil)) c.nd)
 (ss_one (ss_ret (sd_if (sd_cmp (op_eqO c.hu64) sd_var sd_int (by rfl)) (sd_tup (sda_cons sd_str (sda_cons sd_var (sda_cons sd_non (sda_cons sd_non sda_nil))))) (sd_tup (sda_cons sd_str (sda_cons sd_var (sda_cons (sd_if (sd_cmp (op_neO c.hu64) sd_var sd_dic (by rfl)) sd_var sd_var) (sda_cons sd_non sda_nil))))))))))))))
abbrev s__law_looks_right : Stmt := top 31
theorem sc__law_looks_right : FnScope N__law_looks_right ["_law_land", "_law_here", "_law_kinds_here"] (defScope s__law_looks_right) := ⟨rfl, rfl, rfl, by decide +kernel, rfl, by decide +kernel, by decide +kernel⟩
set_option maxRecDepth 100000 in
theorem ok__law_looks_right (fx : Fx ca K mg) (F : FunD K "_law_looks_right" "_law_looks_right" (defArgs s__law_looks_right) (defBody s__law_looks_right) (defScope s__law_looks_right) [] [] f fd) (h_Land_ids : CalM ca P w K mg base 1 15 "ids" m_Land_ids []) (h_Land_fields : CalM ca P w K mg base 3 15 "fields" m_Land_fields []) (h_Land_kind : CalM ca P w K mg base 3 15 "kind" m_Land_kind []) (h_Land_touched : CalM ca P w K mg base 3 15 "touched" m_Land_touched []) (h_Land_made_by : CalM ca P w K mg base 1 15 "made_by" m_Land_made_by []) : M3N.FnG P w K mg base (L2N.CX P w) 4 f fd ["_law_land", "_law_here", "_law_kinds_here"] (spM ca m__law_looks_right) :=
  fn_okG fx.hK F sc__law_looks_right rfl fun cdv A outer s H E cg => have ct := cg.toCOT; have c := ct.toCO; (ss_cons (ss_for c.ow c.calm (pi_rng1 rfl fx.f_range (sda_cons sd_int sda_nil)) (sg_n c.nd) (ss_cons (ss_asgN (sd_methF0 c h_Land_ids (by decide) sd_var) c.nd)
 (ss_cons (ss_if (sd_cmp (op_neO c.hu64) (sd_callT (call_strF cg.gd c.hu64) rfl fx.f_str (by decide +kernel) (sda_cons sd_var sda_nil)) (sd_callT (call_strF cg.gd c.hu64) rfl fx.f_str (by decide +kernel) (sda_cons (sd_callB call_sortF rfl fx.f_sorted (by decide +kernel) (sda_cons (sd_callT (call_listF c.hK c.calm) rfl fx.f_list (by decide +kernel) (sda_cons (sd_sub c.hK c.hu sd_var sd_str) sda_nil)) sda_nil)) sda_nil)) (by rfl)) (ss_one (ss_ret sd_bl)) ss_nil)
 (ss_cons (ss_for c.ow c.calm (pi_any c.hK sd_var) (sg_n c.nd) (ss_cons (ss_asg (sd_tup (sda_cons (sd_sub c.hK c.hu (sd_sub c.hK c.hu sd_var sd_str) sd_var) (sda_cons (sd_methF c h_Land_fields (by decide) sd_var (sda_cons sd_var sda_nil)) sda_nil))) (sg_t c.calm (sgs_cons (sg_n c.nd) (sgs_cons (sg_n c.nd) (sgs_nil (sl := []))))))
 (ss_cons (ss_if (sd_bool (sdb_or (sd_cmp (op_neO c.hu64) (sd_methF c h_Land_kind (by decide) sd_var (sda_cons sd_var sda_nil)) (sd_sub c.hK c.hu sd_var sd_str) (by rfl)) (sdb_or1 (sd_cmp (op_neO c.hu64) (sd_callT (call_listF c.hK c.calm) rfl fx.f_list (by decide +kernel) (sda_cons sd_var sda_nil)) (sd_sub c.hK c.hu (sd_sub c.hK c.hu sd_var (sd_sub c.hK c.hu sd_var sd_str)) sd_int) (by rfl))))) (ss_one (ss_ret sd_bl)) ss_nil)
 (ss_cons (ss_if (sd_cmp (op_neO c.hu64) (sd_callT (call_strF cg.gd c.hu64) rfl fx.f_str (by decide +kernel) (sda_cons (sd_lst (sda_cons (sd_methF c h_Land_touched (by decide) sd_var (sda_cons sd_var sda_nil)) sda_nil)) sda_nil)) (sd_callT (call_strF cg.gd c.hu64) rfl fx.f_str (by decide +kernel) (sda_cons (sd_lst (sda_cons (sd_sub c.hK c.hu sd_var sd_str) sda_nil)) sda_nil)) (by rfl)) (ss_one (ss_ret sd_bl)) ss_nil)
 (ss_cons (ss_if (sd_cmp (op_neO c.hu64) (sd_callT (call_strF cg.gd c.hu64) rfl fx.f_str (by decide +kernel) (sda_cons (sd_lc (own := [("_law_field", 10)]) finT_ok c.calm c.nd (pi_any c.hK sd_var) (by rfl) (fun s21 H21 C21 cl21 fp21 => (sg_n (c.blk s21 H21 _ _ fp21).nd)) (fun s21 H21 C21 cl21 fp21 => sdt_nil) (fun s21 H21 C21 cl21 fp21 => (sd_sub (c.blk s21 H21 _ _ fp21).hK (c.blk s21 H21 _ _ fp21).hu sd_var sd_var))) sda_nil)) (sd_callT (call_strF cg.gd c.hu64) rfl fx.f_str (by decide +kernel) (sda_cons (sd_lc (own := [("_law_field", 10)]) finT_ok c.calm c.nd (pi_any c.hK sd_var) (by rfl) (fun s22 H22 C22 cl22 fp22 => (sg_n (c.blk s22 H22 _ _ fp22).nd)) (fun s22 H22 C22 cl22 fp22 => sdt_nil) (fun s22 H22 C22 cl22 fp22 => (sd_sub (c.blk s22 H22 _ _ fp22).hK (c.blk s22 H22 _ _ fp22).hu (sd_sub (c.blk s22 H22 _ _ fp22).hK (c.blk s22 H22 _ _ fp22).hu sd_var sd_str) sd_var))) sda_nil)) (by rfl)) (ss_one (ss_ret sd_bl)) ss_nil)
 (ss_one (ss_expr (sd_clrD sd_var))))))))
 (ss_cons (ss_expr (sd_append sd_var sd_int))
 (ss_one (ss_for c.ow c.calm (pi_any c.hK (sd_tup (sda_cons sd_str (sda_cons sd_str (sda_cons (sd_bin op_mulG sd_str sd_int) (sda_cons sd_str sda_nil)))))) (sg_n c.nd) (ss_cons (ss_setLc (own := [("_law_number_here", 5)]) finT_ok c.calm c.nd (pi_any c.hK (sd_sub c.hK c.hu sd_var sd_str)) (by rfl) (fun s23 H23 C23 cl23 fp23 => (sg_n (c.blk s23 H23 _ _ fp23).nd)) (fun s23 H23 C23 cl23 fp23 => (sdt_one (sd_cmp (op_eqO (c.blk s23 H23 _ _ fp23).hu64) (sd_sub (c.blk s23 H23 _ _ fp23).hK (c.blk s23 H23 _ _ fp23).hu (sd_sub (c.blk s23 H23 _ _ fp23).hK (c.blk s23 H23 _ _ fp23).hu (sd_sub (c.blk s23 H23 _ _ fp23).hK (c.blk s23 H23 _ _ fp23).hu sd_var sd_str) sd_var) sd_str) sd_var (by rfl)))) (fun s23 H23 C23 cl23 fp23 => sd_var))
 (ss_one (ss_if (sd_cmp (op_neO c.hu64) (sd_callT (call_strF cg.gd c.hu64) rfl fx.f_str (by decide +kernel) (sda_cons (sd_lst (sda_cons (sd_methF c h_Land_made_by (by decide) sd_var (sda_cons sd_var sda_nil)) sda_nil)) sda_nil)) (sd_callT (call_strF cg.gd c.hu64) rfl fx.f_str (by decide +kernel) (sda_cons (sd_lst (sda_cons (sd_if (sd_cmp (op_neO c.hu64) sd_var (sd_lst sda_nil) (by rfl)) (sd_sub c.hK c.hu sd_var sd_int) sd_non) sda_nil)) sda_nil)) (by rfl)) (ss_one (ss_ret sd_bl)) ss_nil))))))))))
 (ss_one (ss_ret sd_bl)))
abbrev s_law : Stmt := top 32
theorem sc_law : FnScope N_law ["_law_script"] (defScope s_law) := ⟨rfl, rfl, rfl, by decide +kernel, rfl, by decide +kernel, by decide +kernel⟩
set_option maxRecDepth 100000 in
theorem ok_law (fx : Fx ca K mg) (F : FunD K "law" "law" (defArgs s_law) (defBody s_law) (defScope s_law) [] [] f fd) (h__law_kinds : CalF ca P w K mg base 4 "_law_kinds" m__law_kinds []) (h_Land_init : CalC ca P w K mg base 4 15 "Land" m_Land_init []) (h__law_deed : CalF ca P w K mg base 4 "_law_deed" m__law_deed []) (h__law_ask : CalF ca P w K mg base 4 "_law_ask" m__law_ask []) (h__law_own : CalF ca P w K mg base 2 "_law_own" m__law_own []) (h__law_looks_right : CalG ca P w K mg base 4 "_law_looks_right" m__law_looks_right) : M3N.FnG P w K mg base (L2N.CX P w) 6 f fd ["_law_script"] (spM ca m_law) :=
  fn_okG fx.hK F sc_law rfl fun cdv A outer s H E cg => have ct := cg.toCOT; have c := ct.toCO; (ss_cons (ss_for c.ow c.calm (pi_rng3 rfl fx.f_range (sda_cons sd_int (sda_cons (sd_callB (call_max2F c.calm) rfl fx.f_max (by decide +kernel) (sda_cons sd_int (sda_cons (sd_callB (call_min2F c.calm) rfl fx.f_min (by decide +kernel) (sda_cons sd_int (sda_cons (sd_callB (call_lenF c.hK) rfl fx.f_len (by decide +kernel) (sda_cons sd_var sda_nil)) sda_nil))) sda_nil))) (sda_cons sd_int sda_nil)))) (sg_n c.nd) (ss_cons (ss_asgN (sd_lstC (sda_cons sd_var (sda_cons sd_var (sda_cons sd_int sda_nil)))) c.nd)
 (ss_cons (ss_asgN (sd_callF c h__law_kinds (by decide) (sda_cons sd_var sda_nil)) c.nd)
 (ss_cons (ss_par (sda_cons (sd_makeF c h_Land_init (by decide) (sda_cons sd_var sda_nil)) (sda_cons (sd_dspC (sdp_cons sd_str sd_var (sdp_cons sd_str sd_dicC (sdp_cons sd_str sd_int (sdp_cons sd_str sd_dic (sdp_cons sd_str sd_int sdp_nil)))))) sda_nil)) c.calm c.nd)
 (ss_one (ss_for c.ow c.calm (pi_rng1 rfl fx.f_range (sda_cons sd_int sda_nil)) (sg_n c.nd) (ss_cons (ss_asgN (sd_callF c h__law_deed (by decide) (sda_cons sd_var (sda_cons sd_var (sda_cons (sd_sub c.hK c.hu sd_var sd_str) sda_nil)))) c.nd)
 (ss_cons (ss_asgN (sd_tup (sda_cons (sd_sub c.hK c.hu sd_var sd_int) (sda_cons (sd_sub c.hK c.hu sd_var sd_int) (sda_cons (sd_if (sd_cmp op_isNotF2 (sd_sub c.hK c.hu sd_var sd_int) sd_non (by rfl)) (sd_callT (call_dictF c.calm) rfl fx.f_dict (by decide +kernel) (sda_cons (sd_sub c.hK c.hu sd_var sd_int) sda_nil)) sd_non) (sda_cons (sd_sub c.hK c.hu sd_var sd_int) sda_nil))))) c.nd)
 (ss_cons (ss_if (sd_cmp (op_eqO c.hu64) (sd_sub c.hK c.hu sd_var sd_int) sd_str (by rfl)) (ss_one (ss_asgN (sd_tup (sda_cons (sd_sub c.hK c.hu sd_var sd_int) (sda_cons (sd_callT (call_dictF c.calm) rfl fx.f_dict (by decide +kernel) (sda_cons (sd_sub c.hK c.hu sd_var sd_int) sda_nil)) (sda_cons sd_non (sda_cons sd_non sda_nil))))) c.nd)) ss_nil)
 (ss_cons (ss_if (sd_bool (sdb_or (sd_cmp (op_neO c.hu64) (sd_callT (call_strF cg.gd c.hu64) rfl fx.f_str (by decide +kernel) (sda_cons (sd_lst (sda_cons (sd_callF c h__law_ask (by decide) (sda_cons sd_var (sda_cons sd_var sda_nil))) sda_nil)) sda_nil)) (sd_callT (call_strF cg.gd c.hu64) rfl fx.f_str (by decide +kernel) (sda_cons (sd_lst (sda_cons (sd_callF c h__law_own (by decide) (sda_cons sd_var (sda_cons sd_var sda_nil))) sda_nil)) sda_nil)) (by rfl)) (sdb_or1 (sd_not (sd_callG c cg.gd h__law_looks_right (by decide) (sda_cons sd_var (sda_cons sd_var (sda_cons sd_var sda_nil)))))))) (ss_one (ss_ret sd_bl)) ss_nil)
 (ss_one (ss_if (sd_cmp (op_neO c.hu64) (sd_slice c.hK sd_var (sp_so sd_int) (sp_so sd_int)) (sd_slice c.hK sd_var (sp_so sd_int) (sp_so sd_int)) (by rfl)) (ss_one (ss_ret sd_bl)) ss_nil))))))))))))
 (ss_one (ss_ret sd_bl)))
end
end KK
/-! The head, printed by gen.py. -/
namespace KK
open PySem L2 M3
def cnm : List Str := ["LandError", "BadKinds", "BadKind", "BadFields", "BadKey", "BadFails", "NoThing", "BadName", "Locked", "Stale", "Failed", "BadWish", "Ring", "Stopped", "Thing", "Land", "Known", "Look", "Plan", "Keeper", "Wish"]
abbrev caOf (K : PySem.W.Frag) (y : Nat → Int) (hy : ∀ k, 0 ≤ y k ∧ y k < 10 ^ 10) : CAK := ⟨fun c => He.ga K (cnm.getD c Str.empty), K, y, hy⟩
abbrev d_is_whole : He.DefD := ⟨("is_whole", none), "is_whole", "is_whole", defArgs s_is_whole, defBody s_is_whole, defScope s_is_whole, [], []⟩
abbrev d_is_name : He.DefD := ⟨("is_name", none), "is_name", "is_name", defArgs s_is_name, defBody s_is_name, defScope s_is_name, [], []⟩
abbrev d_are_unlike_names : He.DefD := ⟨("are_unlike_names", none), "are_unlike_names", "are_unlike_names", defArgs s_are_unlike_names, defBody s_are_unlike_names, defScope s_are_unlike_names, [], []⟩
abbrev d_is_kind : He.DefD := ⟨("is_kind", none), "is_kind", "is_kind", defArgs s_is_kind, defBody s_is_kind, defScope s_is_kind, [], []⟩
abbrev d_Thing_init : He.DefD := ⟨("Thing", some "__init__"), "__init__", "Thing.__init__", defArgs s_Thing_init, defBody s_Thing_init, defScope s_Thing_init, [], []⟩
abbrev d_Land_init : He.DefD := ⟨("Land", some "__init__"), "__init__", "Land.__init__", defArgs s_Land_init, defBody s_Land_init, defScope s_Land_init, [], []⟩
abbrev d_Land_check_kind : He.DefD := ⟨("Land", some "check_kind"), "check_kind", "Land.check_kind", defArgs s_Land_check_kind, defBody s_Land_check_kind, defScope s_Land_check_kind, [], []⟩
abbrev d_Land_thing_of : He.DefD := ⟨("Land", some "thing_of"), "thing_of", "Land.thing_of", defArgs s_Land_thing_of, defBody s_Land_thing_of, defScope s_Land_thing_of, [], []⟩
abbrev d_Land_next_word : He.DefD := ⟨("Land", some "next_word"), "next_word", "Land.next_word", defArgs s_Land_next_word, defBody s_Land_next_word, defScope s_Land_next_word, [], []⟩
abbrev d_Land_ended : He.DefD := ⟨("Land", some "ended"), "ended", "Land.ended", defArgs s_Land_ended, defBody s_Land_ended, defScope s_Land_ended, [], []⟩
abbrev d_Land_make : He.DefD := ⟨("Land", some "make"), "make", "Land.make", defArgs s_Land_make, defBody s_Land_make, defScope s_Land_make, [], [("key", .non)]⟩
abbrev d_Land_change : He.DefD := ⟨("Land", some "change"), "change", "Land.change", defArgs s_Land_change, defBody s_Land_change, defScope s_Land_change, [], []⟩
abbrev d_Land_take : He.DefD := ⟨("Land", some "take"), "take", "Land.take", defArgs s_Land_take, defBody s_Land_take, defScope s_Land_take, [], []⟩
abbrev d_Land_fails : He.DefD := ⟨("Land", some "fails"), "fails", "Land.fails", defArgs s_Land_fails, defBody s_Land_fails, defScope s_Land_fails, [], []⟩
abbrev d_Land_ids : He.DefD := ⟨("Land", some "ids"), "ids", "Land.ids", defArgs s_Land_ids, defBody s_Land_ids, defScope s_Land_ids, [], []⟩
abbrev d_Land_kind : He.DefD := ⟨("Land", some "kind"), "kind", "Land.kind", defArgs s_Land_kind, defBody s_Land_kind, defScope s_Land_kind, [], []⟩
abbrev d_Land_fields : He.DefD := ⟨("Land", some "fields"), "fields", "Land.fields", defArgs s_Land_fields, defBody s_Land_fields, defScope s_Land_fields, [], []⟩
abbrev d_Land_touched : He.DefD := ⟨("Land", some "touched"), "touched", "Land.touched", defArgs s_Land_touched, defBody s_Land_touched, defScope s_Land_touched, [], []⟩
abbrev d_Land_made_by : He.DefD := ⟨("Land", some "made_by"), "made_by", "Land.made_by", defArgs s_Land_made_by, defBody s_Land_made_by, defScope s_Land_made_by, [], []⟩
abbrev d__law_cell_at : He.DefD := ⟨("_law_cell_at", none), "_law_cell_at", "_law_cell_at", defArgs s__law_cell_at, defBody s__law_cell_at, defScope s__law_cell_at, [], []⟩
abbrev d__law_draw : He.DefD := ⟨("_law_draw", none), "_law_draw", "_law_draw", defArgs s__law_draw, defBody s__law_draw, defScope s__law_draw, [], []⟩
abbrev d__law_number : He.DefD := ⟨("_law_number", none), "_law_number", "_law_number", defArgs s__law_number, defBody s__law_number, defScope s__law_number, [], []⟩
abbrev d__law_next : He.DefD := ⟨("_law_next", none), "_law_next", "_law_next", defArgs s__law_next, defBody s__law_next, defScope s__law_next, [], []⟩
abbrev d__law_kinds : He.DefD := ⟨("_law_kinds", none), "_law_kinds", "_law_kinds", defArgs s__law_kinds, defBody s__law_kinds, defScope s__law_kinds, [], []⟩
abbrev d__law_done : He.DefD := ⟨("_law_done", none), "_law_done", "_law_done", defArgs s__law_done, defBody s__law_done, defScope s__law_done, [], []⟩
abbrev d__law_own : He.DefD := ⟨("_law_own", none), "_law_own", "_law_own", defArgs s__law_own, defBody s__law_own, defScope s__law_own, [], []⟩
abbrev d__law_ask : He.DefD := ⟨("_law_ask", none), "_law_ask", "_law_ask", defArgs s__law_ask, defBody s__law_ask, defScope s__law_ask, [], []⟩
abbrev d__law_deed : He.DefD := ⟨("_law_deed", none), "_law_deed", "_law_deed", defArgs s__law_deed, defBody s__law_deed, defScope s__law_deed, [], []⟩
abbrev d__law_looks_right : He.DefD := ⟨("_law_looks_right", none), "_law_looks_right", "_law_looks_right", defArgs s__law_looks_right, defBody s__law_looks_right, defScope s__law_looks_right, [], []⟩
abbrev d_law : He.DefD := ⟨("law", none), "law", "law", defArgs s_law, defBody s_law, defScope s_law, [], []⟩
def fnL : List He.DefD := [d_is_whole, d_is_name, d_are_unlike_names, d_is_kind, d_Thing_init, d_Land_init, d_Land_check_kind, d_Land_thing_of, d_Land_next_word, d_Land_ended, d_Land_make, d_Land_change, d_Land_take, d_Land_fails, d_Land_ids, d_Land_kind, d_Land_fields, d_Land_touched, d_Land_made_by, d__law_cell_at, d__law_draw, d__law_number, d__law_next, d__law_kinds, d__law_done, d__law_own, d__law_ask, d__law_deed, d__law_looks_right, d_law]
def faL0 : List He.Fa := [.free "isinstance", .free "int", .free "bool", .free "str", .free "len", .str "LETTERS" "abcdefghijklmnopqrstuvwxyz", .free "all", .free "list", .free "tuple", .int "MOST_FIELDS" 5, .str "ID" "id", .cls "Thing", .noat "Thing" "number", .noat "Thing" "sort_of", .free "dict", .noat "Thing" "numbers", .noat "Thing" "key", .noat "Thing" "times", .int "MOST_KINDS" 5, .exc "BadKinds", .glo "BadKinds", .cls "Land", .noat "Land" "kinds_there", .noat "Land" "things", .noat "Land" "made_so_far", .noat "Land" "deeds_done", .noat "Land" "failing", .noat "Land" "asked", .exc "BadKind", .glo "BadKind"]
def faL1 : List He.Fa := [.exc "NoThing", .glo "NoThing", .exc "Failed", .glo "Failed", .exc "BadFields", .glo "BadFields", .exc "BadKey", .glo "BadKey", .exc "BadFails", .glo "BadFails", .free "sorted", .free "range", .exm "Failed" "LandError" true, .exm "NoThing" "LandError" true, .exm "BadFails" "LandError" true, .exm "BadKey" "LandError" true, .exm "BadFields" "LandError" true, .exm "BadKind" "LandError" true, .exm "BadKinds" "LandError" true, .exm "LandError" "LandError" true, .glo "LandError", .free "min", .free "max", .glo "law", .glo "is_whole", .glo "is_name", .glo "are_unlike_names", .glo "is_kind", .glo "Thing", .mkr "Thing"]
def faL2 : List He.Fa := [.glo "Land", .mkr "Land", .meth "Land" "check_kind", .meth "Land" "thing_of", .meth "Land" "next_word", .meth "Land" "ended", .meth "Land" "make", .meth "Land" "change", .meth "Land" "take", .meth "Land" "fails", .meth "Land" "ids", .meth "Land" "kind", .meth "Land" "fields", .meth "Land" "touched", .meth "Land" "made_by", .glo "_law_cell_at", .glo "_law_draw", .glo "_law_number", .glo "_law_next", .glo "_law_kinds", .glo "_law_done", .glo "_law_own", .glo "_law_ask", .glo "_law_deed", .glo "_law_looks_right"]
def faL : List He.Fa := faL0 ++ faL1 ++ faL2
def fbL0 : List He2.Fb := [.exc "Failed", .exc "NoThing", .exc "BadFails", .exc "BadKey", .exc "BadFields", .exc "BadKind", .exc "BadKinds", .exc "LandError", .kit "Failed" "Failed" true, .kit "NoThing" "Failed" false, .kit "BadFails" "Failed" false, .kit "BadKey" "Failed" false, .kit "BadFields" "Failed" false, .kit "BadKind" "Failed" false, .kit "BadKinds" "Failed" false, .kit "LandError" "Failed" false, .kit "Failed" "BadFields" false, .kit "NoThing" "BadFields" false, .kit "BadFails" "BadFields" false, .kit "BadKey" "BadFields" false, .kit "BadFields" "BadFields" true, .kit "BadKind" "BadFields" false, .kit "BadKinds" "BadFields" false, .kit "LandError" "BadFields" false, .kit "Failed" "NoThing" false, .kit "NoThing" "NoThing" true, .kit "BadFails" "NoThing" false, .kit "BadKey" "NoThing" false, .kit "BadFields" "NoThing" false, .kit "BadKind" "NoThing" false]
def fbL1 : List He2.Fb := [.kit "BadKinds" "NoThing" false, .kit "LandError" "NoThing" false]
def fbL : List He2.Fb := fbL0 ++ fbL1
section
variable {P : Program} {w : World} {K : PySem.W.Frag} {h : Heap} {mg : Str → Option Value}
theorem fx_of {y : Nat → Int} {hy : ∀ k, 0 ≤ y k ∧ y k < 10 ^ 10} (X : K.In h) (G : h.Ns mainGlobals mg) (c : He2.SaysQ faL fnL fbL K) : Fx (caOf K y hy) K mg where
  hK := rfl
  f_isinstance := He.free_ok X G (c.d.fact 0 (f := .free "isinstance") rfl)
  f_int := He.free_ok X G (c.d.fact 1 (f := .free "int") rfl)
  f_bool := He.free_ok X G (c.d.fact 2 (f := .free "bool") rfl)
  f_str := He.free_ok X G (c.d.fact 3 (f := .free "str") rfl)
  f_len := He.free_ok X G (c.d.fact 4 (f := .free "len") rfl)
  k_LETTERS := He.str_ok X G (c.d.fact 5 (f := .str "LETTERS" "abcdefghijklmnopqrstuvwxyz") rfl)
  f_all := He.free_ok X G (c.d.fact 6 (f := .free "all") rfl)
  f_list := He.free_ok X G (c.d.fact 7 (f := .free "list") rfl)
  f_tuple := He.free_ok X G (c.d.fact 8 (f := .free "tuple") rfl)
  k_MOST_FIELDS := He.int_ok X G (c.d.fact 9 (f := .int "MOST_FIELDS" 5) rfl)
  k_ID := He.str_ok X G (c.d.fact 10 (f := .str "ID" "id") rfl)
  c_Thing := He.cls_ok (c.d.fact 11 (f := .cls "Thing") rfl)
  n_Thing_number := He.noat_ok (c.d.fact 12 (f := .noat "Thing" "number") rfl)
  n_Thing_sort_of := He.noat_ok (c.d.fact 13 (f := .noat "Thing" "sort_of") rfl)
  f_dict := He.free_ok X G (c.d.fact 14 (f := .free "dict") rfl)
  n_Thing_numbers := He.noat_ok (c.d.fact 15 (f := .noat "Thing" "numbers") rfl)
  n_Thing_key := He.noat_ok (c.d.fact 16 (f := .noat "Thing" "key") rfl)
  n_Thing_times := He.noat_ok (c.d.fact 17 (f := .noat "Thing" "times") rfl)
  k_MOST_KINDS := He.int_ok X G (c.d.fact 18 (f := .int "MOST_KINDS" 5) rfl)
  x_BadKinds := xc_of (c.d.fact 19 (f := .exc "BadKinds") rfl) (He.glo_ok X G (c.d.fact 20 (f := .glo "BadKinds") rfl))
  c_Land := He.cls_ok (c.d.fact 21 (f := .cls "Land") rfl)
  n_Land_kinds_there := He.noat_ok (c.d.fact 22 (f := .noat "Land" "kinds_there") rfl)
  n_Land_things := He.noat_ok (c.d.fact 23 (f := .noat "Land" "things") rfl)
  n_Land_made_so_far := He.noat_ok (c.d.fact 24 (f := .noat "Land" "made_so_far") rfl)
  n_Land_deeds_done := He.noat_ok (c.d.fact 25 (f := .noat "Land" "deeds_done") rfl)
  n_Land_failing := He.noat_ok (c.d.fact 26 (f := .noat "Land" "failing") rfl)
  n_Land_asked := He.noat_ok (c.d.fact 27 (f := .noat "Land" "asked") rfl)
  x_BadKind := xc_of (c.d.fact 28 (f := .exc "BadKind") rfl) (He.glo_ok X G (c.d.fact 29 (f := .glo "BadKind") rfl))
  x_NoThing := xc_of (c.d.fact 30 (f := .exc "NoThing") rfl) (He.glo_ok X G (c.d.fact 31 (f := .glo "NoThing") rfl))
  x_Failed := xc_of (c.d.fact 32 (f := .exc "Failed") rfl) (He.glo_ok X G (c.d.fact 33 (f := .glo "Failed") rfl))
  x_BadFields := xc_of (c.d.fact 34 (f := .exc "BadFields") rfl) (He.glo_ok X G (c.d.fact 35 (f := .glo "BadFields") rfl))
  x_BadKey := xc_of (c.d.fact 36 (f := .exc "BadKey") rfl) (He.glo_ok X G (c.d.fact 37 (f := .glo "BadKey") rfl))
  x_BadFails := xc_of (c.d.fact 38 (f := .exc "BadFails") rfl) (He.glo_ok X G (c.d.fact 39 (f := .glo "BadFails") rfl))
  f_sorted := He.free_ok X G (c.d.fact 40 (f := .free "sorted") rfl)
  f_range := He.free_ok X G (c.d.fact 41 (f := .free "range") rfl)
  e_0_1_2_3_4_5_6_10 := (ac_cons (He2.exc_ok (c.fact2 7 (f := .exc "LandError") rfl)) (ac_cons (He2.exc_ok (c.fact2 6 (f := .exc "BadKinds") rfl)) (ac_cons (He2.exc_ok (c.fact2 5 (f := .exc "BadKind") rfl)) (ac_cons (He2.exc_ok (c.fact2 4 (f := .exc "BadFields") rfl)) (ac_cons (He2.exc_ok (c.fact2 3 (f := .exc "BadKey") rfl)) (ac_cons (He2.exc_ok (c.fact2 2 (f := .exc "BadFails") rfl)) (ac_cons (He2.exc_ok (c.fact2 1 (f := .exc "NoThing") rfl)) (ac_cons (He2.exc_ok (c.fact2 0 (f := .exc "Failed") rfl)) ac_nil))))))))
  t_Failed := (ac_cons (He2.kit_ok (c.fact2 15 (f := .kit "LandError" "Failed" false) rfl)) (ac_cons (He2.kit_ok (c.fact2 14 (f := .kit "BadKinds" "Failed" false) rfl)) (ac_cons (He2.kit_ok (c.fact2 13 (f := .kit "BadKind" "Failed" false) rfl)) (ac_cons (He2.kit_ok (c.fact2 12 (f := .kit "BadFields" "Failed" false) rfl)) (ac_cons (He2.kit_ok (c.fact2 11 (f := .kit "BadKey" "Failed" false) rfl)) (ac_cons (He2.kit_ok (c.fact2 10 (f := .kit "BadFails" "Failed" false) rfl)) (ac_cons (He2.kit_ok (c.fact2 9 (f := .kit "NoThing" "Failed" false) rfl)) (ac_cons (He2.kit_ok (c.fact2 8 (f := .kit "Failed" "Failed" true) rfl)) ac_nil))))))))
  m_Failed := He.glo_ok X G (c.d.fact 33 (f := .glo "Failed") rfl)
  t_BadFields := (ac_cons (He2.kit_ok (c.fact2 23 (f := .kit "LandError" "BadFields" false) rfl)) (ac_cons (He2.kit_ok (c.fact2 22 (f := .kit "BadKinds" "BadFields" false) rfl)) (ac_cons (He2.kit_ok (c.fact2 21 (f := .kit "BadKind" "BadFields" false) rfl)) (ac_cons (He2.kit_ok (c.fact2 20 (f := .kit "BadFields" "BadFields" true) rfl)) (ac_cons (He2.kit_ok (c.fact2 19 (f := .kit "BadKey" "BadFields" false) rfl)) (ac_cons (He2.kit_ok (c.fact2 18 (f := .kit "BadFails" "BadFields" false) rfl)) (ac_cons (He2.kit_ok (c.fact2 17 (f := .kit "NoThing" "BadFields" false) rfl)) (ac_cons (He2.kit_ok (c.fact2 16 (f := .kit "Failed" "BadFields" false) rfl)) ac_nil))))))))
  m_BadFields := He.glo_ok X G (c.d.fact 35 (f := .glo "BadFields") rfl)
  t_NoThing := (ac_cons (He2.kit_ok (c.fact2 31 (f := .kit "LandError" "NoThing" false) rfl)) (ac_cons (He2.kit_ok (c.fact2 30 (f := .kit "BadKinds" "NoThing" false) rfl)) (ac_cons (He2.kit_ok (c.fact2 29 (f := .kit "BadKind" "NoThing" false) rfl)) (ac_cons (He2.kit_ok (c.fact2 28 (f := .kit "BadFields" "NoThing" false) rfl)) (ac_cons (He2.kit_ok (c.fact2 27 (f := .kit "BadKey" "NoThing" false) rfl)) (ac_cons (He2.kit_ok (c.fact2 26 (f := .kit "BadFails" "NoThing" false) rfl)) (ac_cons (He2.kit_ok (c.fact2 25 (f := .kit "NoThing" "NoThing" true) rfl)) (ac_cons (He2.kit_ok (c.fact2 24 (f := .kit "Failed" "NoThing" false) rfl)) ac_nil))))))))
  m_NoThing := He.glo_ok X G (c.d.fact 31 (f := .glo "NoThing") rfl)
  y_LandError := (ac_cons (He.exm_ok (c.d.fact 49 (f := .exm "LandError" "LandError" true) rfl)) (ac_cons (He.exm_ok (c.d.fact 48 (f := .exm "BadKinds" "LandError" true) rfl)) (ac_cons (He.exm_ok (c.d.fact 47 (f := .exm "BadKind" "LandError" true) rfl)) (ac_cons (He.exm_ok (c.d.fact 46 (f := .exm "BadFields" "LandError" true) rfl)) (ac_cons (He.exm_ok (c.d.fact 45 (f := .exm "BadKey" "LandError" true) rfl)) (ac_cons (He.exm_ok (c.d.fact 44 (f := .exm "BadFails" "LandError" true) rfl)) (ac_cons (He.exm_ok (c.d.fact 43 (f := .exm "NoThing" "LandError" true) rfl)) (ac_cons (He.exm_ok (c.d.fact 42 (f := .exm "Failed" "LandError" true) rfl)) ac_nil))))))))
  o_LandError := ac_nil
  m_LandError := He.glo_ok X G (c.d.fact 50 (f := .glo "LandError") rfl)
  f_min := He.free_ok X G (c.d.fact 51 (f := .free "min") rfl)
  f_max := He.free_ok X G (c.d.fact 52 (f := .free "max") rfl)
theorem law_ok {y : Nat → Int} {hy : ∀ k, 0 ≤ y k ∧ y k < 10 ^ 10} (X : K.In h) (G : h.Ns mainGlobals mg) (c : He2.SaysQ faL fnL fbL K) {f0 : Addr} (hfa : mg ("law" : Str) = some (.ref f0)) :
    ∃ fd : FuncData, (∀ (s : Shared) (v : Value), BindsTo s fd ⟨[v], []⟩ [("_law_script", v)]) ∧ ∀ base : Heap, K.In base → base.Ns mainGlobals mg → M3N.FnG P w K mg base (L2N.CX P w) 6 f0 fd ["_law_script"] (spM (caOf K y hy) m_law) := by
  obtain ⟨fd_is_whole, F_is_whole⟩ := c.d.def_ 0 (d := d_is_whole) rfl
  obtain ⟨fd_is_name, F_is_name⟩ := c.d.def_ 1 (d := d_is_name) rfl
  obtain ⟨fd_are_unlike_names, F_are_unlike_names⟩ := c.d.def_ 2 (d := d_are_unlike_names) rfl
  obtain ⟨fd_is_kind, F_is_kind⟩ := c.d.def_ 3 (d := d_is_kind) rfl
  obtain ⟨fd_Thing_init, F_Thing_init⟩ := c.d.def_ 4 (d := d_Thing_init) rfl
  obtain ⟨fd_Land_init, F_Land_init⟩ := c.d.def_ 5 (d := d_Land_init) rfl
  obtain ⟨fd_Land_check_kind, F_Land_check_kind⟩ := c.d.def_ 6 (d := d_Land_check_kind) rfl
  obtain ⟨fd_Land_thing_of, F_Land_thing_of⟩ := c.d.def_ 7 (d := d_Land_thing_of) rfl
  obtain ⟨fd_Land_next_word, F_Land_next_word⟩ := c.d.def_ 8 (d := d_Land_next_word) rfl
  obtain ⟨fd_Land_ended, F_Land_ended⟩ := c.d.def_ 9 (d := d_Land_ended) rfl
  obtain ⟨fd_Land_make, F_Land_make⟩ := c.d.def_ 10 (d := d_Land_make) rfl
  obtain ⟨fd_Land_change, F_Land_change⟩ := c.d.def_ 11 (d := d_Land_change) rfl
  obtain ⟨fd_Land_take, F_Land_take⟩ := c.d.def_ 12 (d := d_Land_take) rfl
  obtain ⟨fd_Land_fails, F_Land_fails⟩ := c.d.def_ 13 (d := d_Land_fails) rfl
  obtain ⟨fd_Land_ids, F_Land_ids⟩ := c.d.def_ 14 (d := d_Land_ids) rfl
  obtain ⟨fd_Land_kind, F_Land_kind⟩ := c.d.def_ 15 (d := d_Land_kind) rfl
  obtain ⟨fd_Land_fields, F_Land_fields⟩ := c.d.def_ 16 (d := d_Land_fields) rfl
  obtain ⟨fd_Land_touched, F_Land_touched⟩ := c.d.def_ 17 (d := d_Land_touched) rfl
  obtain ⟨fd_Land_made_by, F_Land_made_by⟩ := c.d.def_ 18 (d := d_Land_made_by) rfl
  obtain ⟨fd__law_cell_at, F__law_cell_at⟩ := c.d.def_ 19 (d := d__law_cell_at) rfl
  obtain ⟨fd__law_draw, F__law_draw⟩ := c.d.def_ 20 (d := d__law_draw) rfl
  obtain ⟨fd__law_number, F__law_number⟩ := c.d.def_ 21 (d := d__law_number) rfl
  obtain ⟨fd__law_next, F__law_next⟩ := c.d.def_ 22 (d := d__law_next) rfl
  obtain ⟨fd__law_kinds, F__law_kinds⟩ := c.d.def_ 23 (d := d__law_kinds) rfl
  obtain ⟨fd__law_done, F__law_done⟩ := c.d.def_ 24 (d := d__law_done) rfl
  obtain ⟨fd__law_own, F__law_own⟩ := c.d.def_ 25 (d := d__law_own) rfl
  obtain ⟨fd__law_ask, F__law_ask⟩ := c.d.def_ 26 (d := d__law_ask) rfl
  obtain ⟨fd__law_deed, F__law_deed⟩ := c.d.def_ 27 (d := d__law_deed) rfl
  obtain ⟨fd__law_looks_right, F__law_looks_right⟩ := c.d.def_ 28 (d := d__law_looks_right) rfl
  obtain ⟨fd_law, F_law⟩ := c.d.def_ 29 (d := d_law) rfl
  have e := hfa.symm.trans (He.glo_ok X G (c.d.fact 53 (f := .glo "law") rfl))
  cases e
  refine ⟨fd_law, fun s v => FunD.bindsA (ps := ["_law_script"]) F_law (fun _ _ _ _ _ _ us hl => match us, hl with | [_], _ => rfl) s [v] rfl, fun base _ _ => ?_⟩
  have fx := fx_of (y := y) (hy := hy) X G c
  have o_is_whole : FnOk P w K mg base (L2N.CX P w) 1 (He.fAd K ("is_whole", none)) fd_is_whole ["thing"] (spM (caOf K y hy) m_is_whole) := ok_is_whole fx F_is_whole 
  have h_is_whole : CalF (caOf K y hy) P w K mg base 1 "is_whole" m_is_whole [] := ⟨_, _, _, o_is_whole, He.glo_ok X G (c.d.fact 54 (f := .glo "is_whole") rfl), F_is_whole.kp, (dfl0 (F_is_whole.bindsN fun _ _ _ _ _ _ us hl => match us, hl with | [_], _ => rfl))⟩
  have o_is_name : FnOk P w K mg base (L2N.CX P w) 1 (He.fAd K ("is_name", none)) fd_is_name ["thing"] (spM (caOf K y hy) m_is_name) := ok_is_name fx F_is_name 
  have h_is_name : CalF (caOf K y hy) P w K mg base 1 "is_name" m_is_name [] := ⟨_, _, _, o_is_name, He.glo_ok X G (c.d.fact 55 (f := .glo "is_name") rfl), F_is_name.kp, (dfl0 (F_is_name.bindsN fun _ _ _ _ _ _ us hl => match us, hl with | [_], _ => rfl))⟩
  have o_are_unlike_names : FnOk P w K mg base (L2N.CX P w) 2 (He.fAd K ("are_unlike_names", none)) fd_are_unlike_names ["thing"] (spM (caOf K y hy) m_are_unlike_names) := ok_are_unlike_names fx F_are_unlike_names h_is_name
  have h_are_unlike_names : CalF (caOf K y hy) P w K mg base 2 "are_unlike_names" m_are_unlike_names [] := ⟨_, _, _, o_are_unlike_names, He.glo_ok X G (c.d.fact 56 (f := .glo "are_unlike_names") rfl), F_are_unlike_names.kp, (dfl0 (F_are_unlike_names.bindsN fun _ _ _ _ _ _ us hl => match us, hl with | [_], _ => rfl))⟩
  have o_is_kind : FnOk P w K mg base (L2N.CX P w) 3 (He.fAd K ("is_kind", none)) fd_is_kind ["thing"] (spM (caOf K y hy) m_is_kind) := ok_is_kind fx F_is_kind h_are_unlike_names
  have h_is_kind : CalF (caOf K y hy) P w K mg base 3 "is_kind" m_is_kind [] := ⟨_, _, _, o_is_kind, He.glo_ok X G (c.d.fact 57 (f := .glo "is_kind") rfl), F_is_kind.kp, (dfl0 (F_is_kind.bindsN fun _ _ _ _ _ _ us hl => match us, hl with | [_], _ => rfl))⟩
  have o_Thing_init : FnOk P w K mg base (L2N.CX P w) 1 (He.fAd K ("Thing", some "__init__")) fd_Thing_init ["self", "number", "kind", "numbers", "key"] (spM (caOf K y hy) m_Thing_init) := ok_Thing_init fx F_Thing_init 
  have h_Thing_init : CalC (caOf K y hy) P w K mg base 1 14 "Thing" m_Thing_init [] := ⟨_, _, _, o_Thing_init, He.glo_ok X G (c.d.fact 58 (f := .glo "Thing") rfl), He.mkr_ok (c.d.fact 59 (f := .mkr "Thing") rfl), (dfl0 (F_Thing_init.bindsN fun _ _ _ _ _ _ us hl => match us, hl with | [_, _, _, _, _], _ => rfl))⟩
  have o_Land_init : FnOk P w K mg base (L2N.CX P w) 4 (He.fAd K ("Land", some "__init__")) fd_Land_init ["self", "kinds"] (spM (caOf K y hy) m_Land_init) := ok_Land_init fx F_Land_init h_is_name h_is_kind
  have h_Land_init : CalC (caOf K y hy) P w K mg base 4 15 "Land" m_Land_init [] := ⟨_, _, _, o_Land_init, He.glo_ok X G (c.d.fact 60 (f := .glo "Land") rfl), He.mkr_ok (c.d.fact 61 (f := .mkr "Land") rfl), (dfl0 (F_Land_init.bindsN fun _ _ _ _ _ _ us hl => match us, hl with | [_, _], _ => rfl))⟩
  have o_Land_check_kind : FnOk P w K mg base (L2N.CX P w) 1 (He.fAd K ("Land", some "check_kind")) fd_Land_check_kind ["self", "kind"] (spM (caOf K y hy) m_Land_check_kind) := ok_Land_check_kind fx F_Land_check_kind 
  have h_Land_check_kind : CalM (caOf K y hy) P w K mg base 1 15 "check_kind" m_Land_check_kind [] := ⟨_, _, _, o_Land_check_kind, He.cls_ok (c.d.fact 21 (f := .cls "Land") rfl), He.meth_ok (c.d.fact 62 (f := .meth "Land" "check_kind") rfl), (dfl0 (F_Land_check_kind.bindsN fun _ _ _ _ _ _ us hl => match us, hl with | [_, _], _ => rfl))⟩
  have o_Land_thing_of : FnOk P w K mg base (L2N.CX P w) 2 (He.fAd K ("Land", some "thing_of")) fd_Land_thing_of ["self", "thing"] (spM (caOf K y hy) m_Land_thing_of) := ok_Land_thing_of fx F_Land_thing_of h_is_whole
  have h_Land_thing_of : CalM (caOf K y hy) P w K mg base 2 15 "thing_of" m_Land_thing_of [] := ⟨_, _, _, o_Land_thing_of, He.cls_ok (c.d.fact 21 (f := .cls "Land") rfl), He.meth_ok (c.d.fact 63 (f := .meth "Land" "thing_of") rfl), (dfl0 (F_Land_thing_of.bindsN fun _ _ _ _ _ _ us hl => match us, hl with | [_, _], _ => rfl))⟩
  have o_Land_next_word : FnOk P w K mg base (L2N.CX P w) 1 (He.fAd K ("Land", some "next_word")) fd_Land_next_word ["self"] (spM (caOf K y hy) m_Land_next_word) := ok_Land_next_word fx F_Land_next_word 
  have h_Land_next_word : CalM (caOf K y hy) P w K mg base 1 15 "next_word" m_Land_next_word [] := ⟨_, _, _, o_Land_next_word, He.cls_ok (c.d.fact 21 (f := .cls "Land") rfl), He.meth_ok (c.d.fact 64 (f := .meth "Land" "next_word") rfl), (dfl0 (F_Land_next_word.bindsN fun _ _ _ _ _ _ us hl => match us, hl with | [_], _ => rfl))⟩
  have o_Land_ended : FnOk P w K mg base (L2N.CX P w) 1 (He.fAd K ("Land", some "ended")) fd_Land_ended ["self", "word"] (spM (caOf K y hy) m_Land_ended) := ok_Land_ended fx F_Land_ended 
  have h_Land_ended : CalM (caOf K y hy) P w K mg base 1 15 "ended" m_Land_ended [] := ⟨_, _, _, o_Land_ended, He.cls_ok (c.d.fact 21 (f := .cls "Land") rfl), He.meth_ok (c.d.fact 65 (f := .meth "Land" "ended") rfl), (dfl0 (F_Land_ended.bindsN fun _ _ _ _ _ _ us hl => match us, hl with | [_, _], _ => rfl))⟩
  have o_Land_make : FnOk P w K mg base (L2N.CX P w) 3 (He.fAd K ("Land", some "make")) fd_Land_make ["self", "kind", "fields", "key"] (spM (caOf K y hy) m_Land_make) := ok_Land_make fx F_Land_make h_Land_check_kind h_is_whole h_Land_next_word h_Thing_init h_Land_ended
  have h_Land_make : CalM (caOf K y hy) P w K mg base 3 15 "make" m_Land_make [.non] := ⟨_, _, _, o_Land_make, He.cls_ok (c.d.fact 21 (f := .cls "Land") rfl), He.meth_ok (c.d.fact 66 (f := .meth "Land" "make") rfl), (dflK (F_Land_make.binds0 3 (fun z => nomatch z) rfl fun D doc pm an cdv ct us ks h1 h2 => match us, ks, h1, h2 with | [_, _, _], [_], _, _ => ⟨_, _, _, _, _, _, rfl, rfl, rfl⟩) fun _ => .cons .non .nil)⟩
  have hk_Land_make : CalMK (caOf K y hy) P w K mg base 3 15 "make" m_Land_make 3 ["key"] := ⟨_, _, _, o_Land_make, He.cls_ok (c.d.fact 21 (f := .cls "Land") rfl), He.meth_ok (c.d.fact 66 (f := .meth "Land" "make") rfl), (kbn_of F_Land_make fun _ _ _ _ _ _ us ws h1 h2 => match us, ws, h1, h2 with | [_, _, _], [_], _, _ => rfl)⟩
  have o_Land_change : FnOk P w K mg base (L2N.CX P w) 3 (He.fAd K ("Land", some "change")) fd_Land_change ["self", "thing", "fields"] (spM (caOf K y hy) m_Land_change) := ok_Land_change fx F_Land_change h_Land_thing_of h_is_whole h_Land_next_word h_Land_ended
  have h_Land_change : CalM (caOf K y hy) P w K mg base 3 15 "change" m_Land_change [] := ⟨_, _, _, o_Land_change, He.cls_ok (c.d.fact 21 (f := .cls "Land") rfl), He.meth_ok (c.d.fact 67 (f := .meth "Land" "change") rfl), (dfl0 (F_Land_change.bindsN fun _ _ _ _ _ _ us hl => match us, hl with | [_, _, _], _ => rfl))⟩
  have o_Land_take : FnOk P w K mg base (L2N.CX P w) 3 (He.fAd K ("Land", some "take")) fd_Land_take ["self", "thing"] (spM (caOf K y hy) m_Land_take) := ok_Land_take fx F_Land_take h_Land_thing_of h_Land_next_word h_Land_ended
  have h_Land_take : CalM (caOf K y hy) P w K mg base 3 15 "take" m_Land_take [] := ⟨_, _, _, o_Land_take, He.cls_ok (c.d.fact 21 (f := .cls "Land") rfl), He.meth_ok (c.d.fact 68 (f := .meth "Land" "take") rfl), (dfl0 (F_Land_take.bindsN fun _ _ _ _ _ _ us hl => match us, hl with | [_, _], _ => rfl))⟩
  have o_Land_fails : FnOk P w K mg base (L2N.CX P w) 2 (He.fAd K ("Land", some "fails")) fd_Land_fails ["self", "counts"] (spM (caOf K y hy) m_Land_fails) := ok_Land_fails fx F_Land_fails h_is_whole
  have h_Land_fails : CalM (caOf K y hy) P w K mg base 2 15 "fails" m_Land_fails [] := ⟨_, _, _, o_Land_fails, He.cls_ok (c.d.fact 21 (f := .cls "Land") rfl), He.meth_ok (c.d.fact 69 (f := .meth "Land" "fails") rfl), (dfl0 (F_Land_fails.bindsN fun _ _ _ _ _ _ us hl => match us, hl with | [_, _], _ => rfl))⟩
  have o_Land_ids : FnOk P w K mg base (L2N.CX P w) 1 (He.fAd K ("Land", some "ids")) fd_Land_ids ["self"] (spM (caOf K y hy) m_Land_ids) := ok_Land_ids fx F_Land_ids 
  have h_Land_ids : CalM (caOf K y hy) P w K mg base 1 15 "ids" m_Land_ids [] := ⟨_, _, _, o_Land_ids, He.cls_ok (c.d.fact 21 (f := .cls "Land") rfl), He.meth_ok (c.d.fact 70 (f := .meth "Land" "ids") rfl), (dfl0 (F_Land_ids.bindsN fun _ _ _ _ _ _ us hl => match us, hl with | [_], _ => rfl))⟩
  have o_Land_kind : FnOk P w K mg base (L2N.CX P w) 3 (He.fAd K ("Land", some "kind")) fd_Land_kind ["self", "thing"] (spM (caOf K y hy) m_Land_kind) := ok_Land_kind fx F_Land_kind h_Land_thing_of
  have h_Land_kind : CalM (caOf K y hy) P w K mg base 3 15 "kind" m_Land_kind [] := ⟨_, _, _, o_Land_kind, He.cls_ok (c.d.fact 21 (f := .cls "Land") rfl), He.meth_ok (c.d.fact 71 (f := .meth "Land" "kind") rfl), (dfl0 (F_Land_kind.bindsN fun _ _ _ _ _ _ us hl => match us, hl with | [_, _], _ => rfl))⟩
  have o_Land_fields : FnOk P w K mg base (L2N.CX P w) 3 (He.fAd K ("Land", some "fields")) fd_Land_fields ["self", "thing"] (spM (caOf K y hy) m_Land_fields) := ok_Land_fields fx F_Land_fields h_Land_thing_of
  have h_Land_fields : CalM (caOf K y hy) P w K mg base 3 15 "fields" m_Land_fields [] := ⟨_, _, _, o_Land_fields, He.cls_ok (c.d.fact 21 (f := .cls "Land") rfl), He.meth_ok (c.d.fact 72 (f := .meth "Land" "fields") rfl), (dfl0 (F_Land_fields.bindsN fun _ _ _ _ _ _ us hl => match us, hl with | [_, _], _ => rfl))⟩
  have o_Land_touched : FnOk P w K mg base (L2N.CX P w) 3 (He.fAd K ("Land", some "touched")) fd_Land_touched ["self", "thing"] (spM (caOf K y hy) m_Land_touched) := ok_Land_touched fx F_Land_touched h_Land_thing_of
  have h_Land_touched : CalM (caOf K y hy) P w K mg base 3 15 "touched" m_Land_touched [] := ⟨_, _, _, o_Land_touched, He.cls_ok (c.d.fact 21 (f := .cls "Land") rfl), He.meth_ok (c.d.fact 73 (f := .meth "Land" "touched") rfl), (dfl0 (F_Land_touched.bindsN fun _ _ _ _ _ _ us hl => match us, hl with | [_, _], _ => rfl))⟩
  have o_Land_made_by : FnOk P w K mg base (L2N.CX P w) 1 (He.fAd K ("Land", some "made_by")) fd_Land_made_by ["self", "key"] (spM (caOf K y hy) m_Land_made_by) := ok_Land_made_by fx F_Land_made_by 
  have h_Land_made_by : CalM (caOf K y hy) P w K mg base 1 15 "made_by" m_Land_made_by [] := ⟨_, _, _, o_Land_made_by, He.cls_ok (c.d.fact 21 (f := .cls "Land") rfl), He.meth_ok (c.d.fact 74 (f := .meth "Land" "made_by") rfl), (dfl0 (F_Land_made_by.bindsN fun _ _ _ _ _ _ us hl => match us, hl with | [_, _], _ => rfl))⟩
  have o__law_cell_at : FnOk P w K mg base (L2N.CX P w) 1 (He.fAd K ("_law_cell_at", none)) fd__law_cell_at ["_law_script", "_law_k"] (spM (caOf K y hy) m__law_cell_at) := ok__law_cell_at fx F__law_cell_at 
  have h__law_cell_at : CalF (caOf K y hy) P w K mg base 1 "_law_cell_at" m__law_cell_at [] := ⟨_, _, _, o__law_cell_at, He.glo_ok X G (c.d.fact 75 (f := .glo "_law_cell_at") rfl), F__law_cell_at.kp, (dfl0 (F__law_cell_at.bindsN fun _ _ _ _ _ _ us hl => match us, hl with | [_, _], _ => rfl))⟩
  have o__law_draw : FnOk P w K mg base (L2N.CX P w) 1 (He.fAd K ("_law_draw", none)) fd__law_draw ["_law_cell", "_law_k", "_law_most"] (spM (caOf K y hy) m__law_draw) := ok__law_draw fx F__law_draw 
  have h__law_draw : CalF (caOf K y hy) P w K mg base 1 "_law_draw" m__law_draw [] := ⟨_, _, _, o__law_draw, He.glo_ok X G (c.d.fact 76 (f := .glo "_law_draw") rfl), F__law_draw.kp, (dfl0 (F__law_draw.bindsN fun _ _ _ _ _ _ us hl => match us, hl with | [_, _, _], _ => rfl))⟩
  have o__law_number : FnOk P w K mg base (L2N.CX P w) 2 (He.fAd K ("_law_number", none)) fd__law_number ["_law_cell", "_law_k", "_law_limit"] (spM (caOf K y hy) m__law_number) := ok__law_number fx F__law_number h__law_draw
  have h__law_number : CalF (caOf K y hy) P w K mg base 2 "_law_number" m__law_number [] := ⟨_, _, _, o__law_number, He.glo_ok X G (c.d.fact 77 (f := .glo "_law_number") rfl), F__law_number.kp, (dfl0 (F__law_number.bindsN fun _ _ _ _ _ _ us hl => match us, hl with | [_, _, _], _ => rfl))⟩
  have o__law_next : FnOk P w K mg base (L2N.CX P w) 3 (He.fAd K ("_law_next", none)) fd__law_next ["_law_state", "_law_limit"] (spM (caOf K y hy) m__law_next) := ok__law_next fx F__law_next h__law_cell_at h__law_number
  have h__law_next : CalF (caOf K y hy) P w K mg base 3 "_law_next" m__law_next [] := ⟨_, _, _, o__law_next, He.glo_ok X G (c.d.fact 78 (f := .glo "_law_next") rfl), F__law_next.kp, (dfl0 (F__law_next.bindsN fun _ _ _ _ _ _ us hl => match us, hl with | [_, _], _ => rfl))⟩
  have o__law_kinds : FnOk P w K mg base (L2N.CX P w) 4 (He.fAd K ("_law_kinds", none)) fd__law_kinds ["_law_state"] (spM (caOf K y hy) m__law_kinds) := ok__law_kinds fx F__law_kinds h__law_next
  have h__law_kinds : CalF (caOf K y hy) P w K mg base 4 "_law_kinds" m__law_kinds [] := ⟨_, _, _, o__law_kinds, He.glo_ok X G (c.d.fact 79 (f := .glo "_law_kinds") rfl), F__law_kinds.kp, (dfl0 (F__law_kinds.bindsN fun _ _ _ _ _ _ us hl => match us, hl with | [_], _ => rfl))⟩
  have o__law_done : FnOk P w K mg base (L2N.CX P w) 1 (He.fAd K ("_law_done", none)) fd__law_done ["_law_here", "_law_deed_here"] (spM (caOf K y hy) m__law_done) := ok__law_done fx F__law_done 
  have h__law_done : CalF (caOf K y hy) P w K mg base 1 "_law_done" m__law_done [] := ⟨_, _, _, o__law_done, He.glo_ok X G (c.d.fact 80 (f := .glo "_law_done") rfl), F__law_done.kp, (dfl0 (F__law_done.bindsN fun _ _ _ _ _ _ us hl => match us, hl with | [_, _], _ => rfl))⟩
  have o__law_own : FnOk P w K mg base (L2N.CX P w) 2 (He.fAd K ("_law_own", none)) fd__law_own ["_law_here", "_law_deed_here"] (spM (caOf K y hy) m__law_own) := ok__law_own fx F__law_own h__law_done
  have h__law_own : CalF (caOf K y hy) P w K mg base 2 "_law_own" m__law_own [] := ⟨_, _, _, o__law_own, He.glo_ok X G (c.d.fact 81 (f := .glo "_law_own") rfl), F__law_own.kp, (dfl0 (F__law_own.bindsN fun _ _ _ _ _ _ us hl => match us, hl with | [_, _], _ => rfl))⟩
  have o__law_ask : FnOk P w K mg base (L2N.CX P w) 4 (He.fAd K ("_law_ask", none)) fd__law_ask ["_law_land", "_law_deed_here"] (spM (caOf K y hy) m__law_ask) := ok__law_ask fx F__law_ask h_Land_make hk_Land_make h_Land_fails h_Land_take h_Land_change
  have h__law_ask : CalF (caOf K y hy) P w K mg base 4 "_law_ask" m__law_ask [] := ⟨_, _, _, o__law_ask, He.glo_ok X G (c.d.fact 82 (f := .glo "_law_ask") rfl), F__law_ask.kp, (dfl0 (F__law_ask.bindsN fun _ _ _ _ _ _ us hl => match us, hl with | [_, _], _ => rfl))⟩
  have o__law_deed : FnOk P w K mg base (L2N.CX P w) 4 (He.fAd K ("_law_deed", none)) fd__law_deed ["_law_state", "_law_kinds_here", "_law_made"] (spM (caOf K y hy) m__law_deed) := ok__law_deed fx F__law_deed h__law_next
  have h__law_deed : CalF (caOf K y hy) P w K mg base 4 "_law_deed" m__law_deed [] := ⟨_, _, _, o__law_deed, He.glo_ok X G (c.d.fact 83 (f := .glo "_law_deed") rfl), F__law_deed.kp, (dfl0 (F__law_deed.bindsN fun _ _ _ _ _ _ us hl => match us, hl with | [_, _, _], _ => rfl))⟩
  have o__law_looks_right : M3N.FnG P w K mg base (L2N.CX P w) 4 (He.fAd K ("_law_looks_right", none)) fd__law_looks_right ["_law_land", "_law_here", "_law_kinds_here"] (spM (caOf K y hy) m__law_looks_right) := ok__law_looks_right fx F__law_looks_right h_Land_ids h_Land_fields h_Land_kind h_Land_touched h_Land_made_by
  have h__law_looks_right : CalG (caOf K y hy) P w K mg base 4 "_law_looks_right" m__law_looks_right := ⟨_, _, _, o__law_looks_right, He.glo_ok X G (c.d.fact 84 (f := .glo "_law_looks_right") rfl), F__law_looks_right.kp, F__law_looks_right.bindsN fun _ _ _ _ _ _ us hl => match us, hl with | [_, _, _], _ => rfl⟩
  exact ok_law fx F_law h__law_kinds h_Land_init h__law_deed h__law_ask h__law_own h__law_looks_right
end
def names0 : List Str := ["LandError", "BadKinds", "BadKind", "BadFields", "BadKey", "BadFails", "NoThing", "Failed", "LETTERS", "ID", "is_whole", "is_name", "are_unlike_names", "MOST_KINDS", "MOST_FIELDS", "is_kind", "Thing", "Land", "_law_cell_at", "_law_draw", "_law_number", "_law_next", "_law_kinds", "_law_own", "_law_done", "_law_ask", "_law_deed", "_law_looks_right"]
def names : List Str := names0
abbrev RowQ : PySem.W.OpenRow := PySem.W.OpenLaw.row PySem.Challenge.rw_wishedland_k01_whole_land
abbrev hk : PySem.W.Hook := He2.hookQ 4 faL fnL fbL
def ob (s : PySem.W.SharedT) : He2.AlQ := He2.obsQG 4 faL fnL fbL (HandSHeadRun.getT s)
theorem ob_eq (s : PySem.W.SharedT) : ob s = hk.obs s.abs := He2.obsQG_eq (HandSHeadRun.getT_eq s)
theorem run (w : World) : HandSHeadRun.RunEq RowQ (PySem.W.view RowQ.prog [32]) hk ob 8000 names w := by
  intro os
  kernel_rfl
end KK
open PySem PySem.W PySem.Calls PyProof.Rows
theorem PySem.Challenge.cw_wishedland_k01_whole_land_holds : PySem.Challenge.rw_wishedland_k01_whole_land.Holds := by
  w_on; o_law
  refine HandSHeadRun.head_any (r := OpenLaw.row PySem.Challenge.rw_wishedland_k01_whole_land) (q := view (OpenLaw.row PySem.Challenge.rw_wishedland_k01_whole_land).prog [32]) (H := KK.hk) (ob := KK.ob) (M := 8000) (loose := KK.names) (d := HandSHeadRun.topDef (OpenLaw.row PySem.Challenge.rw_wishedland_k01_whole_land).prog 32) (kwd := []) KK.ob_eq
    (by kernel_rfl) (fun s => by kernel_rfl) KK.run (by kernel_rfl) (by kernel_rfl) (by kernel_rfl) (by rfl) (by first | assumption | decide +kernel) (by decide +kernel) ⟨rfl, rfl, rfl, rfl, rfl, by decide +kernel⟩ ?hw ?hc
  case hw => w_witness2
  case hc =>
    refine M3.walk_ofG (l := PySem.Challenge.rw_wishedland_k01_whole_land) (n := 63) (k := 6) (x := "_law_script") (m := KK.m_law) rfl (by decide) (by kernel_rfl) ⟨rfl, by decide, by decide⟩ KK.plain ?F
    intro w mg fa h Y G hmg0
    obtain ⟨K, KX, c⟩ := Y
    have hmg : mg ("law" : PySem.Str) = some (.ref fa) := by
      have e : (HandSHeadRun.topDef (OpenLaw.row PySem.Challenge.rw_wishedland_k01_whole_land).prog 32).name = ("law" : PySem.Str) := by kernel_rfl
      rw [← e]
      exact hmg0
    obtain ⟨fd, hb, hF⟩ := KK.law_ok (y := fun _ => 0) (hy := fun _ => ⟨by decide, by decide⟩) (P := (PySem.Challenge.rw_wishedland_k01_whole_land).prog) (w := w) KX G c hmg
    exact ⟨KK.caOf K (fun _ => 0) (fun _ => ⟨by decide, by decide⟩), fd, KX, hb, hF⟩
