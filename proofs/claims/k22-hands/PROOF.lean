import PyProof.Rows.All
import Wide.All
import OpenK.AllK
import Wide.FinOn
import PyProof.EqAt
import PyProof.EqKinds
import PyProof.TupleCall
import HandS.ForMost
import HandS.ForExc
import HandS.Iter
import HandS.TupAny
import HandS.TupMul
import HandS.IsInst
import HandS.Wide
import HandS.Flow
import HandS.More
import HandS.CallSlots
import HandS.Property
import HandS.Zip
import HandS.Text
import HandS.StrMore
import HandS.Style
import HandS.ExcInit
import HandS.ExcIs
import HandS.ExcField
import HandS.ExcValue
import HandS.TryMany
import HandS.MakeKw
import HandS.MakeKwOnly
import HandS.TryOnly
import HandS.EndBits
import KE.DataCmp
import HandS.Defaults
import HandS.DictComp
import HandS.DictTup
import OpenK.KMeth
import OpenK.KOps
import HandS.SortInts
import PyProof.Rows.StrMeet
import HandS.FStr
import HandS.RaiseMore
import PyProof.P3Eq
import HandS.Set
import HandS.Strs
import HandS.TupSets
import KE.KDictZip
import HandS.ListItems
import KE.GoesEnum
import PySem.Challenge.RW_toldlate_k22_hands_reckoned
set_option Elab.async false
set_option linter.all false
set_option maxRecDepth 100000
set_option maxHeartbeats 2000000
namespace DL
open PySem PySem.Spec PyProof.Rows L2

/-! ### trees -/
inductive D where
  | non | bl (b : Bool) | int (i : Int) | str (x : Str) | lst (xs : List D) | tup (xs : List D)
  | dic (kvs : List (Key × D)) | dit (kvs : List (List Key × D)) | obj (c : Str) (fs : List (Str × D)) | exc (c : Str) (fs : List (Str × D))
  | cl (c : Str) | ty (n : String) | box | scr (ns : List Int)

/-- an exception object at a: its class, its dict -/
def exV (cls : Value) (d : Option Addr) (a : Addr) : HO := .ext fun h => ∃ (oe : Obj) (vs : Array Value), h.get? a = some oe ∧ Zc cls d oe ∧ oe.data = .fields vs

/-- the written part, the own classes -/
structure Tb where
  K : PySem.W.Frag
  cls : Str → Option Addr

def KTup (K : PySem.W.Frag) (a : Addr) (xs : List V) : Prop := ∃ (o : Obj) (its : Array Value) (n : Nat), K.lookup a = some o ∧ o.cls = .type "tuple" ∧ o.data = .seq its n ∧ its.size ≤ sizeLine ∧ Vals xs its.toList

/-- a list of the written part -/
def KLst (K : PySem.W.Frag) (a : Addr) (xs : List V) : Prop := ∃ (o : Obj) (its : Array Value) (n : Nat), K.lookup a = some o ∧ o.cls = .type "list" ∧ o.dict = none ∧ o.data = .seq its n ∧ its.size ≤ sizeLine ∧ Vals xs its.toList

section
variable (T : Tb) (b : Option Addr) (H : Hp) (P : Addr → Prop)
mutual
inductive Rep : V → D → Prop
  | non : Rep .non .non
  | bl (k : Bool) : Rep (.bl k) (.bl k)
  | int (i : Int) : Rep (.int i) (.int i)
  | str (x : Str) : Rep (.str x) (.str x)
  | ty (n : String) : Rep (.ty n) (.ty n)
  | cl {c : Str} {C : Addr} : T.cls c = some C → Rep (.ref C) (.cl c)
  | lst {p : Addr} {vs : List V} {ds : List D} : P p → H p = some (.lst vs) → RepL vs ds → Rep (.ref p) (.lst ds)
  | tup {p : Addr} {vs : List V} {ds : List D} : P p → H p = some (.tup vs) → RepL vs ds → Rep (.ref p) (.tup ds)
  | tupK {p : Addr} {vs : List V} {ds : List D} : KTup T.K p vs → RepL vs ds → Rep (.ref p) (.tup ds)
  | dic {p : Addr} {od : Obj} {kvs : List (Key × V)} {ds : List (Key × D)} : P p → H p = some (.frz od (.dK kvs)) → RepK kvs ds → Rep (.ref p) (.dic ds)
  | dit {p : Addr} {od : Obj} {kvs : List (List Key × V)} {ds : List (List Key × D)} : P p → H p = some (.frz od (.dT kvs)) → RepT kvs ds → Rep (.ref p) (.dit ds)
  | obj {p C dx : Addr} {c : Str} {fs : List (Str × V)} {ds : List (Str × D)} : P p → T.cls c = some C → H p = some (.ins C dx fs) → RepF fs ds → Rep (.ref p) (.obj c ds)
  | exc {p C dd : Addr} {c : Str} {fs : List (Str × V)} {ds : List (Str × D)} : P p → P dd → T.cls c = some C → H p = some (exV (.ref C) (some dd) p) → H dd = some (.xd fs) → RepF fs ds → Rep (.ref p) (.exc c ds)
  | box {p : Addr} : b = some p → Rep (.ref p) .box
  | scr {p : Addr} {ns : List Int} : P p → Rd H p (.lst (ns.map V.int)) → Rep (.ref p) (.scr ns)
  | scrK {p : Addr} {ns : List Int} : KLst T.K p (ns.map V.int) → Rep (.ref p) (.scr ns)
inductive RepL : List V → List D → Prop
  | nil : RepL [] []
  | cons {v : V} {d : D} {vs : List V} {ds : List D} : Rep v d → RepL vs ds → RepL (v :: vs) (d :: ds)
inductive RepK : List (Key × V) → List (Key × D) → Prop
  | nil : RepK [] []
  | cons {k : Key} {v : V} {d : D} {vs : List (Key × V)} {ds : List (Key × D)} : Rep v d → RepK vs ds → RepK ((k, v) :: vs) ((k, d) :: ds)
inductive RepT : List (List Key × V) → List (List Key × D) → Prop
  | nil : RepT [] []
  | cons {k : List Key} {v : V} {d : D} {vs : List (List Key × V)} {ds : List (List Key × D)} : Rep v d → RepT vs ds → RepT ((k, v) :: vs) ((k, d) :: ds)
inductive RepF : List (Str × V) → List (Str × D) → Prop
  | nil : RepF [] []
  | cons {k : Str} {v : V} {d : D} {vs : List (Str × V)} {ds : List (Str × D)} : Rep v d → RepF vs ds → RepF ((k, v) :: vs) ((k, d) :: ds)
end
end

section
variable {T : Tb} {b : Option Addr} {H H' : Hp} {P P' : Addr → Prop}
theorem Rd.keep (hk : ∀ a o, P a → H a = some o → H' a = some o) {p : Addr} {u : HO} (hp : P p) (h : Rd H p u) : Rd H' p u := by
  rcases h with h | ⟨o, h⟩
  · exact .inl (hk _ _ hp h)
  · exact .inr ⟨o, hk _ _ hp h⟩
theorem Rd.some {p : Addr} {u : HO} (h : Rd H p u) : ∃ o, H p = Option.some o := by
  rcases h with h | ⟨o, h⟩
  · exact ⟨_, h⟩
  · exact ⟨_, h⟩
mutual
theorem Rep.mono (hk : ∀ a o, P a → H a = some o → H' a = some o) (hp : ∀ a o, P a → H a = some o → P' a) {v : V} {d : D} (h : Rep T b H P v d) : Rep T b H' P' v d := by
  cases h with
  | non => exact .non
  | bl k => exact .bl k
  | int i => exact .int i
  | str x => exact .str x
  | ty n => exact .ty n
  | cl h => exact .cl h
  | lst h1 h2 h3 => exact .lst (hp _ _ h1 h2) (hk _ _ h1 h2) (RepL.mono hk hp h3)
  | tup h1 h2 h3 => exact .tup (hp _ _ h1 h2) (hk _ _ h1 h2) (RepL.mono hk hp h3)
  | tupK h1 h2 => exact .tupK h1 (RepL.mono hk hp h2)
  | dic h1 h2 h3 => exact .dic (hp _ _ h1 h2) (hk _ _ h1 h2) (RepK.mono hk hp h3)
  | dit h1 h2 h3 => exact .dit (hp _ _ h1 h2) (hk _ _ h1 h2) (RepT.mono hk hp h3)
  | obj h1 h2 h3 h4 => exact .obj (hp _ _ h1 h3) h2 (hk _ _ h1 h3) (RepF.mono hk hp h4)
  | exc h1 h2 h3 h4 h5 h6 => exact .exc (hp _ _ h1 h4) (hp _ _ h2 h5) h3 (hk _ _ h1 h4) (hk _ _ h2 h5) (RepF.mono hk hp h6)
  | box h => exact .box h
  | scr h1 h2 => obtain ⟨o, ho⟩ := Rd.some h2; exact .scr (hp _ _ h1 ho) (Rd.keep hk h1 h2)
  | scrK h => exact .scrK h
theorem RepL.mono (hk : ∀ a o, P a → H a = some o → H' a = some o) (hp : ∀ a o, P a → H a = some o → P' a) {v : List V} {d : List D} (h : RepL T b H P v d) : RepL T b H' P' v d := by
  cases h with
  | nil => exact .nil
  | cons h1 h2 => exact .cons (Rep.mono hk hp h1) (RepL.mono hk hp h2)
theorem RepK.mono (hk : ∀ a o, P a → H a = some o → H' a = some o) (hp : ∀ a o, P a → H a = some o → P' a) {v : List (Key × V)} {d : List (Key × D)} (h : RepK T b H P v d) : RepK T b H' P' v d := by
  cases h with
  | nil => exact .nil
  | cons h1 h2 => exact .cons (Rep.mono hk hp h1) (RepK.mono hk hp h2)
theorem RepT.mono (hk : ∀ a o, P a → H a = some o → H' a = some o) (hp : ∀ a o, P a → H a = some o → P' a) {v : List (List Key × V)} {d : List (List Key × D)} (h : RepT T b H P v d) : RepT T b H' P' v d := by
  cases h with
  | nil => exact .nil
  | cons h1 h2 => exact .cons (Rep.mono hk hp h1) (RepT.mono hk hp h2)
theorem RepF.mono (hk : ∀ a o, P a → H a = some o → H' a = some o) (hp : ∀ a o, P a → H a = some o → P' a) {v : List (Str × V)} {d : List (Str × D)} (h : RepF T b H P v d) : RepF T b H' P' v d := by
  cases h with
  | nil => exact .nil
  | cons h1 h2 => exact .cons (Rep.mono hk hp h1) (RepF.mono hk hp h2)
end
end

/-! ### code over trees -/
abbrev Bx := Int × Int × Int
inductive R (α : Type) where
  | ok (a : α) (x : Bx) | er (e : D) (x : Bx) | no
abbrev M (α : Type) := Bx → R α
def M.pure {α : Type} (a : α) : M α := fun x => .ok a x
def bnd {α β : Type} (m : M α) (k : α → M β) : M β := fun x => match m x with
  | .ok a x => k a x
  | .er e x => .er e x
  | .no => .no
theorem bnd_ok {α β : Type} {m : M α} {k : α → M β} {x y : Bx} {a : α} (h : m x = .ok a y) : bnd m k x = k a y := by unfold bnd; rw [h]
theorem bnd_er {α β : Type} {m : M α} {k : α → M β} {x y : Bx} {e : D} (h : m x = .er e y) : bnd m k x = .er e y := by unfold bnd; rw [h]
theorem bnd_no {α β : Type} {m : M α} {k : α → M β} {x : Bx} (h : m x = .no) : bnd m k x = .no := by unfold bnd; rw [h]
def M.no {α : Type} : M α := fun _ => .no
def M.er {α : Type} (e : D) : M α := fun x => .er e x
def opt {α : Type} : Option α → M α
  | some a => M.pure a
  | none => M.no
inductive Sl where
  | no | sh (d : D) | ow (d : D) | bo (d : D)
abbrev Gm := List Sl
abbrev EC := Gm → M D
abbrev TC := Gm → M Bool
abbrev AC := Gm → M (List D)
inductive SR where
  | nx (g : Gm) (x : Bx) | rt (d : D) (x : Bx) | bk (g : Gm) (x : Bx) | ct (g : Gm) (x : Bx) | er (e : D) (g : Gm) (x : Bx) | no
abbrev SC := Gm → Bx → SR

/-! ### the slots and the heap -/
structure Cf where
  b : Option Addr
  B : Addr → Prop
  H0 : Hp
  me : Option Addr := none
abbrev Ow := List (Option Addr)
def Pp (c : Cf) (own : Ow) : Addr → Prop := fun a => ¬ c.B a ∧ c.b ≠ some a ∧ some a ∉ own
def Grow (b : Option Addr) (H H' : Hp) : Prop := ∀ a o, b ≠ some a → H a = some o → H' a = some o
def BoxRel (b : Option Addr) (x : Bx) (H : Hp) : Prop := ∀ a, b = some a → H a = some (.lst [.int x.1, .int x.2.1, .int x.2.2])
/-- a container that may be changed: its parts stand for good -/
def OwnAt (T : Tb) (b : Option Addr) (H : Hp) (P : Addr → Prop) (p : Addr) : D → Prop
  | .lst ds => ∃ vs, H p = some (.lst vs) ∧ RepL T b H P vs ds
  | .dic ds => ∃ vs, H p = some (.dK vs) ∧ RepK T b H P vs ds
  | .dit ds => ∃ vs, H p = some (.dT vs) ∧ RepT T b H P vs ds
  | .obj c ds => ∃ C dx fs, T.cls c = some C ∧ H p = some (.ins C dx fs) ∧ RepF T b H P fs ds
  | _ => False
/-- a value that is only looked at: its outermost container may be one that changes later -/
def RepQ (T : Tb) (b : Option Addr) (H : Hp) (P : Addr → Prop) (v : V) (d : D) : Prop := Rep T b H P v d ∨ ∃ p, v = .ref p ∧ b ≠ some p ∧ OwnAt T b H P p d
def SlotOk (T : Tb) (b : Option Addr) (H : Hp) (P : Addr → Prop) (H0 : Hp) (s : Option (Option V)) (o : Option (Option Addr)) : Sl → Prop
  | .no => True
  | .sh d => ∃ v, s = some (some v) ∧ Rep T b H P v d
  | .bo d => ∃ v, s = some (some v) ∧ (Rep T b H P v d ∨ ∃ q, v = .ref q ∧ b ≠ some q ∧ H0 q ≠ none ∧ OwnAt T b H P q d)
  | .ow d => ∃ p, s = some (some (.ref p)) ∧ o = some (some p) ∧ OwnAt T b H P p d
structure Sat (T : Tb) (c : Cf) (own : Ow) (Γ : Gm) (x : Bx) (σ : L2.St) (H : Hp) : Prop where
  l1 : σ.length = Γ.length
  l2 : own.length = Γ.length
  gr : Grow c.b c.H0 H
  bx : BoxRel c.b x H
  bd : ∀ a, c.B a → H a ≠ none
  ob : ∀ (i : Nat) p, own[i]? = some (some p) → ¬ c.B p
  bb : ∀ a, c.b = some a → c.H0 a ≠ none
  fresh : ∀ (i : Nat) p, own[i]? = some (some p) → c.H0 p = none ∧ H p ≠ none
  nodup : ∀ (i j : Nat) p, own[i]? = some (some p) → own[j]? = some (some p) → i = j
  me : ∀ p cn fs, c.me = some p → Γ[0]? = some (.ow (.obj cn fs)) → own[0]? = some (some p)
  slot : ∀ (i : Nat) s, Γ[i]? = some s → SlotOk T c.b H (Pp c own) c.H0 σ[i]? own[i]? s

section
variable {T : Tb} {b : Option Addr} {H H' H'' : Hp} {P P' : Addr → Prop} {c : Cf} {own : Ow} {Γ : Gm} {x x' : Bx} {σ : L2.St}
theorem Grow.refl : Grow b H H := fun _ _ _ h => h
theorem Grow.trans (h1 : Grow b H H') (h2 : Grow b H' H'') : Grow b H H'' := fun a o n h => h2 a o n (h1 a o n h)
theorem Grow.same (h : Same H H') : Grow b H H' := fun a o _ e => h a o e
theorem Grow.none (g : Grow b H H') {p : Addr} (hb : b ≠ some p) (h : H' p = Option.none) : H p = Option.none := by
  cases e : H p with
  | none => rfl
  | some o => rw [g p o hb e] at h; cases h
theorem BoxRel.same (h : BoxRel b x H) (s : Same H H') : BoxRel b x H' := fun a e => s _ _ (h a e)
theorem Pp.keep (g : Grow c.b H H') : ∀ a o, Pp c own a → H a = some o → H' a = some o := fun a o p h => g a o p.2.1 h
theorem Rep.grow (g : Grow c.b H H') {v : V} {d : D} (h : Rep T c.b H (Pp c own) v d) : Rep T c.b H' (Pp c own) v d := h.mono (Pp.keep g) fun _ _ p _ => p
theorem RepL.grow (g : Grow c.b H H') {v : List V} {d : List D} (h : RepL T c.b H (Pp c own) v d) : RepL T c.b H' (Pp c own) v d := h.mono (Pp.keep g) fun _ _ p _ => p
theorem OwnAt.mono (hk : ∀ a o, P a → H a = some o → H' a = some o) (hp : ∀ a o, P a → H a = some o → P' a) {p : Addr} (hpp : ∀ o, H p = some o → H' p = some o) {d : D} (h : OwnAt T b H P p d) : OwnAt T b H' P' p d := by
  cases d with
  | lst ds => obtain ⟨vs, h1, h2⟩ := h; exact ⟨vs, hpp _ h1, h2.mono hk hp⟩
  | dic ds => obtain ⟨vs, h1, h2⟩ := h; exact ⟨vs, hpp _ h1, h2.mono hk hp⟩
  | dit ds => obtain ⟨vs, h1, h2⟩ := h; exact ⟨vs, hpp _ h1, h2.mono hk hp⟩
  | obj c ds => obtain ⟨C, dx, fs, h0, h1, h2⟩ := h; exact ⟨C, dx, fs, h0, hpp _ h1, h2.mono hk hp⟩
  | _ => exact h.elim
theorem OwnAt.tracked {p : Addr} {d : D} (h : OwnAt T b H P p d) : H p ≠ none := by
  cases d with
  | lst ds => obtain ⟨vs, h1, h2⟩ := h; rw [h1]; exact fun z => nomatch z
  | dic ds => obtain ⟨vs, h1, h2⟩ := h; rw [h1]; exact fun z => nomatch z
  | dit ds => obtain ⟨vs, h1, h2⟩ := h; rw [h1]; exact fun z => nomatch z
  | obj c ds => obtain ⟨C, dx, fs, h0, h1, h2⟩ := h; rw [h1]; exact fun z => nomatch z
  | _ => exact h.elim
def isDic : D → Bool
  | .dic _ => true
  | .dit _ => true
  | _ => false
theorem OwnAt.rep {p : Addr} {d : D} (h : OwnAt T b H P p d) (hd : isDic d = false) (hp : P p) : Rep T b H P (.ref p) d := by
  cases d with
  | lst ds => obtain ⟨vs, h1, h2⟩ := h; exact .lst hp h1 h2
  | dic ds => cases hd
  | dit ds => cases hd
  | obj c ds => obtain ⟨C, dx, fs, h0, h1, h2⟩ := h; exact .obj hp h0 h1 h2
  | _ => exact h.elim
/-- a dict that will not be changed any more is locked -/
theorem OwnAt.lockd {p : Addr} {d : D} (h : OwnAt T b H P p d) (hd : isDic d = true) (hn : ∀ a, P a → a ≠ p) (hp : ∀ a o, P a → H a = some o → P' a) (hpp : P' p) :
    ∃ u, H p = some u ∧ Mut (some u) ∧ ∀ od, Rep T b (upd H p (.frz od u)) P' (.ref p) d := by
  have hk : ∀ od u a o, P a → H a = some o → upd H p (.frz od u) a = some o := fun od u a o pa e => by rw [upd_ne (hn a pa)]; exact e
  cases d with
  | dic ds => obtain ⟨vs, h1, h2⟩ := h; exact ⟨_, h1, trivial, fun od => .dic hpp upd_same (h2.mono (hk od _) hp)⟩
  | dit ds => obtain ⟨vs, h1, h2⟩ := h; exact ⟨_, h1, trivial, fun od => .dit hpp upd_same (h2.mono (hk od _) hp)⟩
  | _ => cases hd
theorem RepQ.grow (g : Grow c.b H H') {v : V} {d : D} (h : RepQ T c.b H (Pp c own) v d) : RepQ T c.b H' (Pp c own) v d := by
  rcases h with h | ⟨p, rfl, n, h⟩
  · exact .inl (h.grow g)
  · exact .inr ⟨p, rfl, n, h.mono (Pp.keep g) (fun _ _ p _ => p) fun o e => g _ _ n e⟩
theorem Sat.own_ne (s : Sat T c own Γ x σ H) {i : Nat} {p : Addr} (h : own[i]? = some (some p)) : c.b ≠ some p := fun e => (s.bb p e) (s.fresh i p h).1
theorem Sat.grow (s : Sat T c own Γ x σ H) (g : Grow c.b H H') (bx : BoxRel c.b x' H') : Sat T c own Γ x' σ H' := by
  refine ⟨s.l1, s.l2, s.gr.trans g, bx, fun a h => ?_, s.ob, s.bb, fun i p h => ⟨(s.fresh i p h).1, ?_⟩, s.nodup, s.me, fun i u h => ?_⟩
  · cases e : H a with
    | none => exact absurd e (s.bd a h)
    | some o =>
      by_cases hb : c.b = some a
      · rw [bx a hb]; exact fun z => nomatch z
      · rw [g a o hb e]; exact fun z => nomatch z
  · have h2 := (s.fresh i p h).2
    cases e : H p with
    | none => exact absurd e h2
    | some o => rw [g p o (s.own_ne h) e]; exact fun z => nomatch z
  · have q := s.slot i u h
    cases u with
    | no => trivial
    | sh d => obtain ⟨v, e, r⟩ := q; exact ⟨v, e, r.grow g⟩
    | bo d =>
      obtain ⟨v, e, r⟩ := q
      refine ⟨v, e, ?_⟩
      rcases r with r | ⟨q, rfl, n, no, r⟩
      · exact .inl (r.grow g)
      · exact .inr ⟨q, rfl, n, no, r.mono (Pp.keep g) (fun _ _ p _ => p) fun o e => g _ _ n e⟩
    | ow d => obtain ⟨p, e, e2, r⟩ := q; exact ⟨p, e, e2, r.mono (Pp.keep g) (fun _ _ p _ => p) fun o e3 => g _ _ (s.own_ne e2) e3⟩
theorem Sat.freshP (s : Sat T c own Γ x σ H) {p : Addr} (h : H p = none) : Pp c own p := by
  have nb : c.b ≠ some p := fun e => by rw [s.bx p e] at h; cases h
  refine ⟨fun hb => ?_, nb, fun hm => ?_⟩
  · exact s.bd p hb h
  · obtain ⟨i, hi⟩ := List.getElem?_of_mem hm
    exact (s.fresh i p hi).2 h
end

/-! ### the canonical reading of tree code -/
/-- an exception in the air -/
def RepE (T : Tb) (b : Option Addr) (H : Hp) (P : Addr → Prop) (cls : Value) (dd : Option Addr) (e : D) : Prop :=
  ∃ c C d fs ds, e = .exc c ds ∧ T.cls c = some C ∧ cls = .ref C ∧ dd = some d ∧ P d ∧ H d = some (.xd fs) ∧ RepF T b H P fs ds
inductive Md where
  | fz | tr
/-- frozen, or only looked at -/
def RepM (m : Md) : Tb → Option Addr → Hp → (Addr → Prop) → V → D → Prop := match m with
  | .fz => Rep
  | .tr => RepQ
def ERes (T : Tb) (W : WX) (m : Md) (c : Cf) (own : Ow) (σ : L2.St) (H : Hp) (Q : VK) : R D → Prop
  | .ok d x => ∀ v H', Grow c.b H H' → BoxRel c.b x H' → RepM m T c.b H' (Pp c own) v d → Q v H'
  | .er e x => ∀ cls dd H', Grow c.b H H' → BoxRel c.b x H' → RepE T c.b H' (Pp c own) cls dd e → W cls dd σ H'
  | .no => False
def E (T : Tb) (W : WX) (m : Md) (f : EC) : TE := fun σ H Q => ∃ c own Γ x, Sat T c own Γ x σ H ∧ ERes T W m c own σ H Q (f Γ x)
def PN (c : Cf) (own : Ow) (p : Addr) : Addr → Prop := fun a => Pp c own a ∧ a ≠ p
def isCon : D → Bool
  | .lst _ => true
  | .dic _ => true
  | .dit _ => true
  | _ => false
/-- a new container -/
def FRes (T : Tb) (W : WX) (c : Cf) (own : Ow) (σ : L2.St) (H : Hp) (Q : VK) : R D → Prop
  | .ok d x => ∀ p H', H p = none → Grow c.b H H' → BoxRel c.b x H' → OwnAt T c.b H' (PN c own p) p d → isCon d = true → Q (.ref p) H'
  | .er e x => ∀ cls dd H', Grow c.b H H' → BoxRel c.b x H' → RepE T c.b H' (Pp c own) cls dd e → W cls dd σ H'
  | .no => False
def EF (T : Tb) (W : WX) (f : EC) : TE := fun σ H Q => ∃ c own Γ x, Sat T c own Γ x σ H ∧ FRes T W c own σ H Q (f Γ x)
def TRes (T : Tb) (W : WX) (c : Cf) (own : Ow) (σ : L2.St) (H : Hp) (Q : Bool → Hp → Prop) : R Bool → Prop
  | .ok k x => ∀ H', Grow c.b H H' → BoxRel c.b x H' → Q k H'
  | .er e x => ∀ cls dd H', Grow c.b H H' → BoxRel c.b x H' → RepE T c.b H' (Pp c own) cls dd e → W cls dd σ H'
  | .no => False
def ET (T : Tb) (W : WX) (f : TC) : TT := fun σ H Q => ∃ c own Γ x, Sat T c own Γ x σ H ∧ TRes T W c own σ H Q (f Γ x)
inductive Ar where
  | sh (d : D) | bo (d : D)
def RepA (T : Tb) (b : Option Addr) (H : Hp) (P : Addr → Prop) : V → Ar → Prop
  | v, .sh d => Rep T b H P v d
  | v, .bo d => RepQ T b H P v d
def ARes (T : Tb) (W : WX) (c : Cf) (own : Ow) (σ : L2.St) (H : Hp) (Q : List V → Hp → Prop) : R (List Ar) → Prop
  | .ok ds x => ∀ vs H', Grow c.b H H' → BoxRel c.b x H' → Paired (RepA T c.b H' (Pp c own)) vs ds → Q vs H'
  | .er e x => ∀ cls dd H', Grow c.b H H' → BoxRel c.b x H' → RepE T c.b H' (Pp c own) cls dd e → W cls dd σ H'
  | .no => False
def EA (T : Tb) (W : WX) (f : Gm → M (List Ar)) : TA := fun σ H Q => ∃ c own Γ x, Sat T c own Γ x σ H ∧ ARes T W c own σ H Q (f Γ x)

section
variable {X : Cx} {e : Expr}
theorem _root_.L2.PE.mono {t t' : TE} (h : PE X e t) (k : ∀ σ H Q, t' σ H Q → t σ H Q) : PE X e t' := ⟨fun pins s σ H Q I q => h.run pins s σ H Q I (k σ H Q q)⟩
theorem _root_.L2.PT.mono {t t' : TT} (h : PT X e t) (k : ∀ σ H Q, t' σ H Q → t σ H Q) : PT X e t' := ⟨fun pins s σ H Q I q => h.run pins s σ H Q I (k σ H Q q)⟩
theorem _root_.L2.PW.mono {t t' : TT} (h : PW X e t) (k : ∀ σ H Q, t' σ H Q → t σ H Q) : PW X e t' := ⟨fun w pins s σ H Q I q => h.run w pins s σ H Q I (k σ H Q q)⟩
theorem _root_.L2.PA.mono {es : List Expr} {t t' : TA} (h : PA X es t) (k : ∀ σ H Q, t' σ H Q → t σ H Q) : PA X es t' := ⟨fun p pins s σ H Q I q => h.run p pins s σ H Q I (k σ H Q q)⟩
theorem _root_.L2.PS.mono {st : Stmt} {t t' : TS} (h : PS X st t) (k : ∀ D σ H, t' D σ H → t D σ H) : PS X st t' := ⟨fun pins s σ H D I q => h.run pins s σ H D I (k D σ H q)⟩
theorem _root_.L2.PSs.mono {st : List Stmt} {t t' : TS} (h : PSs X st t) (k : ∀ D σ H, t' D σ H → t D σ H) : PSs X st t' := ⟨fun pins s σ H D I q => h.run pins s σ H D I (k D σ H q)⟩
end

section
variable {X : Cx} {T : Tb} {W : WX} {e : Expr} {f : EC}
/-- frozen: may be looked at -/
theorem pd_tr (h : PE X e (E T W .fz f)) : PE X e (E T W .tr f) := h.mono fun σ H Q ⟨c, own, Γ, x, s, r⟩ => ⟨c, own, Γ, x, s, by
  cases hf : f Γ x with
  | ok d x' => rw [hf] at r; exact fun v H' g bx q => r v H' g bx (.inl q)
  | er d x' => rw [hf] at r; exact r
  | no => rw [hf] at r; exact r⟩
/-- the value may be locked -/
def tLockV (t : TE) : TE := fun σ H Q => t σ H fun v H' => Q v H' ∨ ∃ p u, v = .ref p ∧ H' p = some u ∧ Mut (some u) ∧ ∀ od, Q v (upd H' p (.frz od u))
theorem pe_lockV {t : TE} (h : PE X e t) : PE X e (tLockV t) := by
  refine ⟨fun pins s σ H Q I hw => ?_⟩
  refine thn (h.run pins s σ _ _ I hw) fun v s1 ⟨x, H1, I2, r, q⟩ => ?_
  rcases q with q | ⟨p, u, rfl, hp, mu, q⟩
  · exact ⟨x, H1, I2, r, q⟩
  · obtain ⟨od, I3⟩ := I2.lock hp mu
    exact ⟨_, _, I3, r, q od⟩
/-- new: frozen -/
theorem pd_new (h : PE X e (EF T W f)) : PE X e (E T W .fz f) := (pe_lockV h).mono fun σ H Q ⟨c, own, Γ, x, s, r⟩ => ⟨c, own, Γ, x, s, by
  cases hf : f Γ x with
  | ok d x' =>
    rw [hf] at r
    intro p H' n g bx q _
    by_cases hd : isDic d = true
    · obtain ⟨u, h1, h2, h3⟩ := q.lockd hd (fun a pa => pa.2) (P' := Pp c own) (fun a _ pa _ => pa.1) (s.freshP n)
      refine .inr ⟨p, u, rfl, h1, h2, fun od => r _ _ (fun a o nb e => ?_) (fun a e => ?_) (h3 od)⟩
      · rw [upd_ne (ne_of_none e n)]
        exact g a o nb e
      · rw [upd_ne (fun z => by subst z; exact (s.freshP n).2.1 e)]
        exact bx a e
    · exact .inl (r (.ref p) H' g bx ((OwnAt.mono (fun _ _ _ e => e) (fun _ _ p _ => p.1) (fun _ e => e) q).rep (by simpa using hd) (s.freshP n)))
  | er d x' => rw [hf] at r; exact r
  | no => rw [hf] at r; exact r⟩
/-! names -/
def eVar (i : Nat) : EC := fun Γ => match Γ[i]? with
  | some (.sh d) => M.pure d
  | _ => M.no
def eVarT (i : Nat) : EC := fun Γ => match Γ[i]? with
  | some (.sh d) => M.pure d
  | some (.bo d) => M.pure d
  | some (.ow d) => M.pure d
  | _ => M.no
theorem pd_var {x : Str} {pos : Pos} (i : Nat) (h : PE X (.Name x pos) (tVar i)) : PE X (.Name x pos) (E T W .fz (eVar i)) := h.mono fun σ H Q ⟨c, own, Γ, y, s, r⟩ => by
  unfold eVar at r
  cases hf : Γ[i]? with
  | none => rw [hf] at r; exact r.elim
  | some u =>
    rw [hf] at r
    have q := s.slot i u hf
    cases u with
    | sh d => obtain ⟨v, e, rp⟩ := q; exact ⟨v, e, r v H Grow.refl s.bx rp⟩
    | _ => exact r.elim
theorem pq_var {x : Str} {pos : Pos} (i : Nat) (h : PE X (.Name x pos) (tVar i)) : PE X (.Name x pos) (E T W .tr (eVarT i)) := h.mono fun σ H Q ⟨c, own, Γ, y, s, r⟩ => by
  unfold eVarT at r
  cases hf : Γ[i]? with
  | none => rw [hf] at r; exact r.elim
  | some u =>
    rw [hf] at r
    have q := s.slot i u hf
    cases u with
    | sh d => obtain ⟨v, e, rp⟩ := q; exact ⟨v, e, r v H Grow.refl s.bx (.inl rp)⟩
    | bo d =>
      obtain ⟨v, e, rp⟩ := q
      refine ⟨v, e, r v H Grow.refl s.bx ?_⟩
      rcases rp with rp | ⟨q, e1, e2, _, e3⟩
      · exact .inl rp
      · exact .inr ⟨q, e1, e2, e3⟩
    | ow d => obtain ⟨p, e, e2, rp⟩ := q; exact ⟨_, e, r _ H Grow.refl s.bx (.inr ⟨p, rfl, s.own_ne e2, rp⟩)⟩
    | no => exact r.elim
/-! constants -/
def eC (d : D) : EC := fun _ => M.pure d
theorem pd_c {v : V} {d : D} (h : PE X e (tC v)) (r : ∀ b H P, Rep T b H P v d) : PE X e (E T W .fz (eC d)) := h.mono fun σ H Q ⟨c, own, Γ, y, s, q⟩ => q v H Grow.refl s.bx (r _ _ _)
theorem pd_int {i j pos} : PE X (.Constant (.int i) j pos) (E T W .fz (eC (.int i))) := pd_c pe_int fun _ _ _ => .int i
theorem pd_bl {k j pos} : PE X (.Constant (.bool k) j pos) (E T W .fz (eC (.bl k))) := pd_c pe_bl fun _ _ _ => .bl k
theorem pd_non {j pos} : PE X (.Constant .none j pos) (E T W .fz (eC .non)) := pd_c pe_non fun _ _ _ => .non
theorem pd_str {x j pos} : PE X (.Constant (.str x) j pos) (E T W .fz (eC (.str x))) := pd_c pe_str fun _ _ _ => .str x
end
end DL

namespace DL
open PySem PySem.Spec PyProof.Rows L2
section
variable {X : Cx} {T : Tb} {W : WX} {m : Md} {a b e : Expr} {f fa fb : EC} {pos : Pos} {c : Cf} {own : Ow} {Γ : Gm} {x x' : Bx} {σ : L2.St} {H H' : Hp} {Q : VK}
theorem ERes.at {z : R D} (g : Grow c.b H H') (r : ERes T W m c own σ H Q z) : ERes T W m c own σ H' Q z := by
  cases z with
  | ok d x => exact fun v H2 g2 bx q => r v H2 (g.trans g2) bx q
  | er d x => exact fun cl dd H2 g2 bx q => r cl dd H2 (g.trans g2) bx q
  | no => exact r
theorem TRes.at {z : R Bool} {Q : Bool → Hp → Prop} (g : Grow c.b H H') (r : TRes T W c own σ H Q z) : TRes T W c own σ H' Q z := by
  cases z with
  | ok d x => exact fun H2 g2 bx => r H2 (g.trans g2) bx
  | er d x => exact fun cl dd H2 g2 bx q => r cl dd H2 (g.trans g2) bx q
  | no => exact r
theorem ARes.at {z : R (List Ar)} {Q : List V → Hp → Prop} (g : Grow c.b H H') (r : ARes T W c own σ H Q z) : ARes T W c own σ H' Q z := by
  cases z with
  | ok d x => exact fun v H2 g2 bx q => r v H2 (g.trans g2) bx q
  | er d x => exact fun cl dd H2 g2 bx q => r cl dd H2 (g.trans g2) bx q
  | no => exact r
theorem FRes.at {z : R D} (g : Grow c.b H H') (hb : ∀ p, H' p = none → H p = none) (r : FRes T W c own σ H Q z) : FRes T W c own σ H' Q z := by
  cases z with
  | ok d x => exact fun p H2 n g2 bx q hc => r p H2 (hb p n) (g.trans g2) bx q hc
  | er d x => exact fun cl dd H2 g2 bx q => r cl dd H2 (g.trans g2) bx q
  | no => exact r
theorem Sat.none_back (s : Sat T c own Γ x σ H) (s' : Sat T c own Γ x' σ H') (g : Grow c.b H H') {p : Addr} (n : H' p = none) : H p = none := g.none (fun e => by rw [s'.bx p e] at n; cases n) n
/-- one part, then the rest -/
theorem res_bind {z : M D} {k : D → M D} {m' : Md} (s : Sat T c own Γ x σ H) (r : ERes T W m c own σ H Q (bnd z k x)) :
    ERes T W m' c own σ H (fun v H1 => ∃ d x1, Sat T c own Γ x1 σ H1 ∧ Grow c.b H H1 ∧ RepM m' T c.b H1 (Pp c own) v d ∧ ERes T W m c own σ H1 Q (k d x1)) (z x) := by
  cases hf : z x with
  | ok d x1 => rw [bnd_ok hf] at r; exact fun v H1 g bx q => ⟨d, x1, s.grow g bx, g, q, r.at g⟩
  | er d x1 => rw [bnd_er hf] at r; exact r
  | no => rw [bnd_no hf] at r; exact r
theorem ERes.imp {Q' : VK} {z : R D} (r : ERes T W m c own σ H Q z) (k : ∀ v H', Q v H' → Q' v H') : ERes T W m c own σ H Q' z := by
  cases z with
  | ok d x1 => exact fun v H1 g1 bx q => k _ _ (r v H1 g1 bx q)
  | er d x1 => exact r
  | no => exact r
/-- two parts -/
def e2 (g : D → D → Option D) (fa fb : EC) : EC := fun Γ => bnd (fa Γ) fun x => bnd (fb Γ) fun y => opt (g x y)
def e1 (g : D → Option D) (fa : EC) : EC := fun Γ => bnd (fa Γ) fun x => opt (g x)
theorem e_then {k : D → M D} {m' : Md} (h : E T W m (fun Γ => bnd (fa Γ) k) σ H Q) : E T W m' fa σ H fun v H1 => ∃ c own Γ x d, Sat T c own Γ x σ H1 ∧ RepM m' T c.b H1 (Pp c own) v d ∧ ERes T W m c own σ H1 Q (k d x) := by
  obtain ⟨c, own, Γ, x, s, r⟩ := h
  exact ⟨c, own, Γ, x, s, (res_bind (m' := m') s r).imp fun v H1 ⟨d, x1, s1, g, q, r1⟩ => ⟨c, own, Γ, x1, d, s1, q, r1⟩⟩
theorem e_two {k : D → D → M D} {m1 m2 : Md} (h : E T W m (fun Γ => bnd (fa Γ) fun x => bnd (fb Γ) fun y => k x y) σ H Q) : E T W m1 fa σ H fun v H1 => E T W m2 fb σ H1 fun u H2 =>
    ∃ c own Γ x d e H1, Sat T c own Γ x σ H2 ∧ Grow c.b H1 H2 ∧ RepM m1 T c.b H1 (Pp c own) v d ∧ RepM m2 T c.b H2 (Pp c own) u e ∧ ERes T W m c own σ H2 Q (k d e x) := by
  obtain ⟨c, own, Γ, x, s, r⟩ := h
  refine ⟨c, own, Γ, x, s, (res_bind (m' := m1) s r).imp fun v H1 ⟨d, x1, s1, g, q, r1⟩ => ⟨c, own, Γ, x1, s1, (res_bind (m' := m2) s1 r1).imp fun u H2 ⟨d2, x2, s2, g2, q2, r2⟩ => ⟨c, own, Γ, x2, d, d2, H1, s2, g2, q, q2, r2⟩⟩⟩
/-- an operation on values, told over trees -/
def OpD (T : Tb) (r : R2) (g : D → D → Option D) : Prop := ∀ (b : Option Addr) (H : Hp) (P : Addr → Prop) (x y : V) (dx dy dz : D) (Q : VK), (∀ p, H p = none → P p) → RepQ T b H P x dx → RepQ T b H P y dy → g dx dy = some dz →
  (∀ v H', Same H H' → Rep T b H' P v dz → Q v H') → r x y H Q
theorem OpD.fin {r : R2} {g : D → D → Option D} (hg : OpD T r g) {v u : V} (h : ∃ c own Γ x d e H1, Sat T c own Γ x σ H ∧ Grow c.b H1 H ∧ RepM .tr T c.b H1 (Pp c own) v d ∧ RepM .tr T c.b H (Pp c own) u e ∧ ERes T W .fz c own σ H Q (opt (g d e) x)) : r v u H Q := by
  obtain ⟨c, own, Γ, x, d, e, H1, s, g1, q1, q2, r⟩ := h
  cases hz : g d e with
  | none => rw [hz] at r; exact r.elim
  | some dz =>
    rw [hz] at r
    exact hg c.b H (Pp c own) v u d e dz Q (fun p n => s.freshP n) (RepQ.grow g1 q1) q2 hz fun w H' sm rp => r w H' (Grow.same sm) (s.bx.same sm) rp
/-- a reading's end may be weakened -/
theorem E.imp {Q' : VK} (h : E T W m f σ H Q) (k : ∀ v H', Q v H' → Q' v H') : E T W m f σ H Q' := by
  obtain ⟨c, own, Γ, x, s, r⟩ := h
  refine ⟨c, own, Γ, x, s, ?_⟩
  cases hf : f Γ x with
  | ok d x1 => rw [hf] at r; exact fun v H1 g1 bx q => k _ _ (r v H1 g1 bx q)
  | er d x1 => rw [hf] at r; exact r
  | no => rw [hf] at r; exact r
theorem pd_op {op : Operator} {r : R2} {g : D → D → Option D} (ho : OpR X (binaryOp op) r) (hg : OpD T r g) (ha : PE X a (E T W .tr fa)) (hb : PE X b (E T W .tr fb)) : PE X (.BinOp a op b pos) (E T W .fz (e2 g fa fb)) :=
  (pe_op ho ha hb).mono fun σ H Q h => (e_two h).imp fun v H1 h1 => h1.imp fun u H2 h2 => hg.fin h2
theorem pd_cmp {op : CmpOp} {r : R2} {g : D → D → Option D} (ho : OpR X (compareOp op) r) (hg : OpD T r g) (ha : PE X a (E T W .tr fa)) (hb : PE X b (E T W .tr fb)) (hm : behindInMarks op b = false) : PE X (.Compare a [op] [b] pos) (E T W .fz (e2 g fa fb)) :=
  (pe_cmpR ho ha hb hm).mono fun σ H Q h => (e_two h).imp fun v H1 h1 => h1.imp fun u H2 h2 => hg.fin h2
theorem pd_ix {r : R2} {g : D → D → Option D} (ho : IxR X r) (hg : OpD T r g) (ha : PE X a (E T W .tr fa)) (hb : PE X b (E T W .tr fb)) (hs : PlainIx b) : PE X (.Subscript a b pos) (E T W .fz (e2 g fa fb)) :=
  (pe_ix ho ha hb hs).mono fun σ H Q h => (e_two h).imp fun v H1 h1 => h1.imp fun u H2 h2 => hg.fin h2
end
/-! ### what a tree says of its value -/
section
variable {T : Tb} {b : Option Addr} {H : Hp} {P : Addr → Prop} {v : V}
theorem RepQ.int {i : Int} (h : RepQ T b H P v (.int i)) : v = .int i := by
  rcases h with h | ⟨p, rfl, n, h⟩
  · cases h; rfl
  · exact h.elim
theorem RepQ.bl {i : Bool} (h : RepQ T b H P v (.bl i)) : v = .bl i := by
  rcases h with h | ⟨p, rfl, n, h⟩
  · cases h; rfl
  · exact h.elim
theorem RepQ.str {i : Str} (h : RepQ T b H P v (.str i)) : v = .str i := by
  rcases h with h | ⟨p, rfl, n, h⟩
  · cases h; rfl
  · exact h.elim
theorem RepQ.non (h : RepQ T b H P v .non) : v = .non := by
  rcases h with h | ⟨p, rfl, n, h⟩
  · cases h; rfl
  · exact h.elim
theorem RepQ.lst {ds : List D} (h : RepQ T b H P v (.lst ds)) : ∃ p vs, v = .ref p ∧ H p = some (.lst vs) ∧ RepL T b H P vs ds := by
  rcases h with h | ⟨p, rfl, n, vs, h1, h2⟩
  · cases h with
    | lst h1 h2 h3 => exact ⟨_, _, rfl, h2, h3⟩
  · exact ⟨p, vs, rfl, h1, h2⟩
theorem RepQ.tup {ds : List D} (h : RepQ T b H P v (.tup ds)) : ∃ p vs, v = .ref p ∧ SqT T.K H p vs ∧ RepL T b H P vs ds := by
  rcases h with h | ⟨p, rfl, n, h⟩
  · cases h with
    | tup h1 h2 h3 => exact ⟨_, _, rfl, .inl (.inl h2), h3⟩
    | tupK h1 h2 => exact ⟨_, _, rfl, .inr h1, h2⟩
  · exact h.elim
theorem RepQ.obj {c : Str} {ds : List (Str × D)} (h : RepQ T b H P v (.obj c ds)) : ∃ p C dx fs, v = .ref p ∧ T.cls c = some C ∧ H p = some (.ins C dx fs) ∧ RepF T b H P fs ds := by
  rcases h with h | ⟨p, rfl, n, C, dx, fs, h0, h1, h2⟩
  · cases h with
    | obj h1 h2 h3 h4 => exact ⟨_, _, _, _, rfl, h2, h3, h4⟩
  · exact ⟨p, C, dx, fs, rfl, h0, h1, h2⟩
theorem RepL.length {vs : List V} {ds : List D} (h : RepL T b H P vs ds) : vs.length = ds.length := by
  induction ds generalizing vs with
  | nil => cases h; rfl
  | cons d ds ih => cases h with
    | cons h1 h2 => rw [List.length_cons, List.length_cons, ih h2]
theorem RepL.get {vs : List V} {ds : List D} (h : RepL T b H P vs ds) {i : Nat} {d : D} (e : ds[i]? = some d) : ∃ v, vs[i]? = some v ∧ Rep T b H P v d := by
  induction ds generalizing vs i with
  | nil => simp at e
  | cons d0 ds ih => cases h with
    | cons h1 h2 =>
      cases i with
      | zero =>
        have e' : d0 = d := by simpa using e
        subst e'
        exact ⟨_, rfl, h1⟩
      | succ i => exact ih h2 (i := i) (by simpa using e)
theorem RepL.append {vs us : List V} {ds es : List D} (h : RepL T b H P vs ds) (h' : RepL T b H P us es) : RepL T b H P (vs ++ us) (ds ++ es) := by
  induction ds generalizing vs with
  | nil => cases h; exact h'
  | cons d ds ih => cases h with
    | cons h1 h2 => exact .cons h1 (ih h2)
theorem RepL.ints : ∀ {vs : List V} {is : List Int}, RepL T b H P vs (is.map D.int) → vs = is.map V.int
  | _, [], h => by cases h; rfl
  | _, i :: is, h => by
    cases h with
    | cons h1 h2 =>
      cases h1
      rw [RepL.ints h2]
      rfl
theorem RepL.take {vs : List V} {ds : List D} (h : RepL T b H P vs ds) (n : Nat) : RepL T b H P (vs.take n) (ds.take n) := by
  induction ds generalizing vs n with
  | nil => cases h; rw [List.take_nil, List.take_nil]; exact .nil
  | cons d ds ih => cases h with
    | cons h1 h2 => cases n with
      | zero => exact .nil
      | succ n => exact .cons h1 (ih h2 n)
theorem RepL.drop {vs : List V} {ds : List D} (h : RepL T b H P vs ds) (n : Nat) : RepL T b H P (vs.drop n) (ds.drop n) := by
  induction ds generalizing vs n with
  | nil => cases h; rw [List.drop_nil, List.drop_nil]; exact .nil
  | cons d ds ih => cases h with
    | cons h1 h2 => cases n with
      | zero => exact .cons h1 h2
      | succ n => exact ih h2 n
theorem RepL.set {vs : List V} {ds : List D} {u : V} {d : D} (h : RepL T b H P vs ds) (r : Rep T b H P u d) (n : Nat) : RepL T b H P (vs.set n u) (ds.set n d) := by
  induction ds generalizing vs n with
  | nil => cases h; exact .nil
  | cons d0 ds ih => cases h with
    | cons h1 h2 => cases n with
      | zero => exact .cons r h2
      | succ n => exact .cons h1 (ih h2 n)
theorem RepL.erase {vs : List V} {ds : List D} (h : RepL T b H P vs ds) (n : Nat) : RepL T b H P (vs.eraseIdx n) (ds.eraseIdx n) := by
  induction ds generalizing vs n with
  | nil => cases h; exact .nil
  | cons d0 ds ih => cases h with
    | cons h1 h2 => cases n with
      | zero => exact h2
      | succ n => exact .cons h1 (ih h2 n)
theorem Same.upd' {H : Hp} {p : Addr} {o : HO} (h : H p = none) : Same H (upd H p o) := fun a u e => by
  rw [upd_ne (ne_of_none e h)]
  exact e
theorem Rep.same {H' : Hp} (s : Same H H') {d : D} (h : Rep T b H P v d) : Rep T b H' P v d := h.mono (fun a o _ e => s a o e) fun _ _ p _ => p
theorem RepL.same {H' : Hp} (s : Same H H') {vs : List V} {ds : List D} (h : RepL T b H P vs ds) : RepL T b H' P vs ds := h.mono (fun a o _ e => s a o e) fun _ _ p _ => p
end
/-! ### the operations over trees -/
section
variable {T : Tb}
def dInt2 (g : Int → Int → Option D) : D → D → Option D
  | .int i, .int j => g i j
  | _, _ => none
theorem opd_I0 {g : Int → Int → V} {gd : Int → Int → D} (h : ∀ i j b H P, Rep T b H P (g i j) (gd i j)) : OpD T (rI0 g) (dInt2 fun i j => some (gd i j)) := fun b H P x y dx dy dz Q hP hx hy hz k => by
  cases dx <;> try cases hz
  cases dy <;> cases hz
  rw [hx.int, hy.int]
  exact ⟨_, _, rfl, rfl, k _ H (Same.refl H) (h _ _ _ _ _)⟩
theorem opd_I {C : Int → Int → Prop} [∀ i j, Decidable (C i j)] {g : Int → Int → V} {gd : Int → Int → D} (h : ∀ i j b H P, Rep T b H P (g i j) (gd i j)) : OpD T (rI C g) (dInt2 fun i j => if C i j then some (gd i j) else none) := fun b H P x y dx dy dz Q hP hx hy hz k => by
  cases dx <;> try cases hz
  cases dy <;> try cases hz
  rename_i i j
  rw [hx.int, hy.int]
  have hz' : (if C i j then some (gd i j) else none) = some dz := hz
  by_cases hc : C i j
  · rw [if_pos hc] at hz'
    cases hz'
    exact ⟨i, j, rfl, rfl, hc, k _ H (Same.refl H) (h _ _ _ _ _)⟩
  · rw [if_neg hc] at hz'
    cases hz'
def dSub : D → D → Option D := dInt2 fun i j => some (.int (i - j))
def dLt : D → D → Option D := dInt2 fun i j => some (.bl (decide (i < j)))
def dLe : D → D → Option D := dInt2 fun i j => some (.bl (decide (i ≤ j)))
def dGt : D → D → Option D := dInt2 fun i j => some (.bl (decide (j < i)))
def dGe : D → D → Option D := dInt2 fun i j => some (.bl (decide (j ≤ i)))
/-- + : ints, texts, lists, tuples -/
def dAdd : D → D → Option D
  | .int i, .int j => some (.int (i + j))
  | .str i, .str j => if i.length + j.length ≤ 100000 then some (.str (i ++ j)) else none
  | .lst i, .lst j => if i.length + j.length ≤ 100000 then some (.lst (i ++ j)) else none
  | .tup i, .tup j => if i.length + j.length ≤ 100000 then some (.tup (i ++ j)) else none
  | _, _ => none
theorem sz_of {n : Nat} (h : n ≤ 100000) : n ≤ sizeLine := Nat.le_trans h (by decide)
theorem ite_some {c : Prop} [Decidable c] {α : Type} {a b : α} (h : (if c then some a else none) = some b) : c ∧ a = b := by
  by_cases hc : c
  · rw [if_pos hc] at h; exact ⟨hc, Option.some.inj h⟩
  · rw [if_neg hc] at h; cases h
def rAddU (K : PySem.W.Frag) : R2 := fun x y H Q => (rI0 fun i j => .int (i + j)) x y H Q ∨ (∃ i j, x = .str i ∧ y = .str j ∧ i.length + j.length ≤ sizeLine ∧ Q (.str (i ++ j)) H) ∨ rCat x y H Q ∨ rCatA K x y H Q
theorem op_addU {X : Cx} : OpR X (binaryOp .Add) (rAddU X.K) := op_add.or (op_add_str.or (op_cat.or op_catA))
theorem RepL.nil_iff {T : Tb} {b : Option Addr} {H : Hp} {P : Addr → Prop} {vs : List V} (h : RepL T b H P vs []) : vs = [] := by cases h; rfl
theorem opd_addU : OpD T (rAddU T.K) dAdd := fun b H P x y dx dy dz Q hP hx hy hz k => by
  cases dx <;> try cases hz
  all_goals (cases dy <;> try cases hz)
  · rw [hx.int, hy.int]
    exact .inl ⟨_, _, rfl, rfl, k _ H (Same.refl H) (.int _)⟩
  · obtain ⟨hl, rfl⟩ := ite_some hz
    rw [hx.str, hy.str]
    exact .inr (.inl ⟨_, _, rfl, rfl, sz_of hl, k _ H (Same.refl H) (.str _)⟩)
  · obtain ⟨hl, rfl⟩ := ite_some hz
    obtain ⟨p, vs, rfl, h1, r1⟩ := hx.lst
    obtain ⟨q, us, rfl, h2, r2⟩ := hy.lst
    exact .inr (.inr (.inl ⟨p, q, vs, us, rfl, rfl, h1, h2, by rw [r1.length, r2.length]; exact sz_of hl, fun w n => k _ _ (Same.upd' n) (.lst (hP w n) upd_same ((r1.append r2).same (Same.upd' n)))⟩))
  · obtain ⟨hl, rfl⟩ := ite_some hz
    rename_i i j
    obtain ⟨p, vs, rfl, h1, r1⟩ := hx.tup
    obtain ⟨q, us, rfl, h2, r2⟩ := hy.tup
    refine .inr (.inr (.inr ⟨p, q, vs, us, rfl, rfl, h1, h2, by rw [r1.length, r2.length]; exact sz_of hl, fun e => ?_, fun _ e => ?_, fun _ _ w n => k _ _ (Same.upd' n) (.tup (hP w n) upd_same ((r1.append r2).same (Same.upd' n)))⟩))
    · subst e
      cases r1
      rcases hy with hy | ⟨_, _, _, hy⟩
      · exact k _ H (Same.refl H) hy
      · exact hy.elim
    · subst e
      cases r2
      rw [List.append_nil] at k
      rcases hx with hx | ⟨_, _, _, hx⟩
      · exact k _ H (Same.refl H) hx
      · exact hx.elim
theorem pd_add {X : Cx} {W : WX} {a b : Expr} {fa fb : EC} {pos : Pos} (hK : X.K = T.K) (ha : PE X a (E T W .tr fa)) (hb : PE X b (E T W .tr fb)) : PE X (.BinOp a .Add b pos) (E T W .fz (e2 dAdd fa fb)) := by
  have h := op_addU (X := X)
  rw [hK] at h
  exact pd_op h opd_addU ha hb
end
end DL

namespace DL
open PySem PySem.Spec PyProof.Rows L2
/-! ### tests -/
section
variable {X : Cx} {T : Tb} {W : WX} {m : Md} {a b e : Expr} {f fa fb : EC} {tf tg : TC} {pos : Pos} {c : Cf} {own : Ow} {Γ : Gm} {x x' : Bx} {σ : L2.St} {H H' : Hp}
def asB : D → M Bool
  | .bl k => M.pure k
  | _ => M.no
def tOf (f : EC) : TC := fun Γ => bnd (f Γ) asB
theorem TRes.bindD {z : M D} {k : D → M Bool} {Q : Bool → Hp → Prop} {m' : Md} (s : Sat T c own Γ x σ H) (r : TRes T W c own σ H Q (bnd z k x)) :
    ERes T W m' c own σ H (fun v H1 => ∃ d x1, Sat T c own Γ x1 σ H1 ∧ Grow c.b H H1 ∧ RepM m' T c.b H1 (Pp c own) v d ∧ TRes T W c own σ H1 Q (k d x1)) (z x) := by
  cases hf : z x with
  | ok d x1 => rw [bnd_ok hf] at r; exact fun v H1 g bx q => ⟨d, x1, s.grow g bx, g, q, r.at g⟩
  | er d x1 => rw [bnd_er hf] at r; exact r
  | no => rw [bnd_no hf] at r; exact r
theorem et_asB {Q : Bool → Hp → Prop} (h : ET T W (tOf f) σ H Q) : E T W .tr f σ H fun v H1 => ∃ k, v = .bl k ∧ Q k H1 := by
  obtain ⟨c, own, Γ, x, s, r⟩ := h
  refine ⟨c, own, Γ, x, s, (TRes.bindD (m' := .tr) s r).imp fun v H1 ⟨d, x1, s1, g, q, r1⟩ => ?_⟩
  cases d with
  | bl k => exact ⟨k, q.bl, r1 H1 Grow.refl s1.bx⟩
  | _ => exact r1.elim
theorem pt_of (h : PE X e (E T W .tr f)) (he : ∀ whole, isTrue e X.env whole = (do let v ← whole; standAt e.pos; holding [v] (truthy v)) := by intro _; rfl) : PT X e (ET T W (tOf f)) := (pt_val h he).mono fun σ H Q h => et_asB h
theorem et_asBf {Q : Bool → Hp → Prop} (h : ET T W (tOf f) σ H Q) : E T W .fz f σ H fun v H1 => ∃ k, v = .bl k ∧ Q k H1 := by
  obtain ⟨c, own, Γ, x, s, r⟩ := h
  refine ⟨c, own, Γ, x, s, (TRes.bindD (m' := .fz) s r).imp fun v H1 ⟨d, x1, s1, g, q, r1⟩ => ?_⟩
  cases d with
  | bl k => exact ⟨k, RepQ.bl (.inl q), r1 H1 Grow.refl s1.bx⟩
  | _ => exact r1.elim
theorem pt_dcmp {op : CmpOp} {r : R2} {g : D → D → Option D} (ho : OpR X (compareOp op) r) (hg : OpD T r g) (ha : PE X a (E T W .tr fa)) (hb : PE X b (E T W .tr fb)) (hm : behindInMarks op b = false) : PT X (.Compare a [op] [b] pos) (ET T W (tOf (e2 g fa fb))) :=
  (pt_cmpR ho ha hb hm).mono fun σ H Q h => (e_two (m1 := .tr) (m2 := .tr) (et_asBf h)).imp fun v H1 h1 => h1.imp fun u H2 h2 => hg.fin h2
theorem TRes.bindB {z : M Bool} {k : Bool → M Bool} {Q : Bool → Hp → Prop} (s : Sat T c own Γ x σ H) (r : TRes T W c own σ H Q (bnd z k x)) :
    TRes T W c own σ H (fun d H1 => ∃ x1, Sat T c own Γ x1 σ H1 ∧ Grow c.b H H1 ∧ TRes T W c own σ H1 Q (k d x1)) (z x) := by
  cases hf : z x with
  | ok d x1 => rw [bnd_ok hf] at r; exact fun H1 g bx => ⟨x1, s.grow g bx, g, r.at g⟩
  | er d x1 => rw [bnd_er hf] at r; exact r
  | no => rw [bnd_no hf] at r; exact r
theorem TRes.imp {Q Q' : Bool → Hp → Prop} {z : R Bool} (r : TRes T W c own σ H Q z) (k : ∀ v H', Q v H' → Q' v H') : TRes T W c own σ H Q' z := by
  cases z with
  | ok d x1 => exact fun H1 g1 bx => k _ _ (r H1 g1 bx)
  | er d x1 => exact r
  | no => exact r
def tAndC (fa fb : TC) : TC := fun Γ => bnd (fa Γ) fun k => if k = true then fb Γ else M.pure false
def tOrC (fa fb : TC) : TC := fun Γ => bnd (fa Γ) fun k => if k = true then M.pure true else fb Γ
def tNotC (fa : TC) : TC := fun Γ => bnd (fa Γ) fun k => M.pure (!k)
theorem pw_dand {rest : List Expr} (ha : PT X a (ET T W tf)) (hb : PW X (.BoolOp .And (b :: rest) pos) (ET T W tg)) : PW X (.BoolOp .And (a :: b :: rest) pos) (ET T W (tAndC tf tg)) := (pw_and ha hb).mono fun σ H Q ⟨c, own, Γ, x, s, r⟩ =>
  ⟨c, own, Γ, x, s, (TRes.bindB s r).imp fun k H1 ⟨x1, s1, g, r1⟩ => by
    cases k with
    | true => exact ⟨c, own, Γ, x1, s1, r1⟩
    | false => exact r1 H1 Grow.refl s1.bx⟩
theorem pw_dor {rest : List Expr} (ha : PT X a (ET T W tf)) (hb : PW X (.BoolOp .Or (b :: rest) pos) (ET T W tg)) : PW X (.BoolOp .Or (a :: b :: rest) pos) (ET T W (tOrC tf tg)) := (pw_or ha hb).mono fun σ H Q ⟨c, own, Γ, x, s, r⟩ =>
  ⟨c, own, Γ, x, s, (TRes.bindB s r).imp fun k H1 ⟨x1, s1, g, r1⟩ => by
    cases k with
    | true => exact r1 H1 Grow.refl s1.bx
    | false => exact ⟨c, own, Γ, x1, s1, r1⟩⟩
theorem pt_dnot (ha : PT X a (ET T W tf)) : PT X (.UnaryOp .Not a pos) (ET T W (tNotC tf)) := (pt_not ha).mono fun σ H Q ⟨c, own, Γ, x, s, r⟩ =>
  ⟨c, own, Γ, x, s, (TRes.bindB s r).imp fun k H1 ⟨x1, s1, g, r1⟩ => r1 H1 Grow.refl s1.bx⟩
theorem res_bindB {z : M Bool} {k : Bool → M D} {Q : VK} (s : Sat T c own Γ x σ H) (r : ERes T W m c own σ H Q (bnd z k x)) :
    TRes T W c own σ H (fun d H1 => ∃ x1, Sat T c own Γ x1 σ H1 ∧ Grow c.b H H1 ∧ ERes T W m c own σ H1 Q (k d x1)) (z x) := by
  cases hf : z x with
  | ok d x1 => rw [bnd_ok hf] at r; exact fun H1 g bx => ⟨x1, s.grow g bx, g, r.at g⟩
  | er d x1 => rw [bnd_er hf] at r; exact r
  | no => rw [bnd_no hf] at r; exact r
def eIf (t : TC) (fa fb : EC) : EC := fun Γ => bnd (t Γ) fun k => if k = true then fa Γ else fb Γ
theorem pd_if {cn : Expr} (hc : PT X cn (ET T W tf)) (ha : PE X a (E T W m fa)) (hb : PE X b (E T W m fb)) : PE X (.IfExp cn a b pos) (E T W m (eIf tf fa fb)) := (pe_ifExp hc ha hb).mono fun σ H Q ⟨c, own, Γ, x, s, r⟩ =>
  ⟨c, own, Γ, x, s, (res_bindB s r).imp fun k H1 ⟨x1, s1, g, r1⟩ => by
    cases k with
    | true => exact ⟨c, own, Γ, x1, s1, r1⟩
    | false => exact ⟨c, own, Γ, x1, s1, r1⟩⟩
def eAnd (fa fb : EC) : EC := fun Γ => bnd (tOf fa Γ) fun k => if k = true then fb Γ else M.pure (.bl false)
def eOr (fa fb : EC) : EC := fun Γ => bnd (tOf fa Γ) fun k => if k = true then M.pure (.bl true) else fb Γ
def eNot (fa : EC) : EC := fun Γ => bnd (tOf fa Γ) fun k => M.pure (.bl (!k))
theorem pd_one {op} (h : PE X a (E T W m f)) : PE X (.BoolOp op [a] pos) (E T W m f) := pe_one h
theorem pd_and {rest : List Expr} (ha : PE X a (E T W .tr fa)) (hb : PE X (.BoolOp .And (b :: rest) pos) (E T W .fz fb)) : PE X (.BoolOp .And (a :: b :: rest) pos) (E T W .fz (eAnd fa fb)) := (pe_and ha hb).mono fun σ H Q ⟨c, own, Γ, x, s, r⟩ =>
  et_asB ⟨c, own, Γ, x, s, (res_bindB s r).imp fun k H1 ⟨x1, s1, g, r1⟩ => by
    cases k with
    | true => exact ⟨c, own, Γ, x1, s1, r1⟩
    | false => exact r1 _ H1 Grow.refl s1.bx (.bl false)⟩
theorem pd_or {rest : List Expr} (ha : PE X a (E T W .tr fa)) (hb : PE X (.BoolOp .Or (b :: rest) pos) (E T W .fz fb)) : PE X (.BoolOp .Or (a :: b :: rest) pos) (E T W .fz (eOr fa fb)) := (pe_or ha hb).mono fun σ H Q ⟨c, own, Γ, x, s, r⟩ =>
  et_asB ⟨c, own, Γ, x, s, (res_bindB s r).imp fun k H1 ⟨x1, s1, g, r1⟩ => by
    cases k with
    | true => exact r1 _ H1 Grow.refl s1.bx (.bl true)
    | false => exact ⟨c, own, Γ, x1, s1, r1⟩⟩
theorem pd_not (ha : PE X a (E T W .tr fa)) : PE X (.UnaryOp .Not a pos) (E T W .fz (eNot fa)) := (pe_not ha).mono fun σ H Q ⟨c, own, Γ, x, s, r⟩ =>
  et_asB ⟨c, own, Γ, x, s, (res_bindB s r).imp fun k H1 ⟨x1, s1, g, r1⟩ => r1 _ H1 Grow.refl s1.bx (.bl _)⟩
/-! ### arguments, displays -/
theorem Sat.none_back' (s' : Sat T c own Γ x' σ H') (s : Sat T c own Γ x σ H) (g : Grow c.b H H') {p : Addr} (n : H' p = none) : H p = none := g.none (fun e => by rw [s'.bx p e] at n; cases n) n
def LRes (T : Tb) (W : WX) (n : Nat) (c : Cf) (own : Ow) (σ : L2.St) (H : Hp) (Q : List V → Hp → Prop) : R (List D) → Prop
  | .ok ds x => ∀ vs H', Grow c.b H H' → BoxRel c.b x H' → RepL T c.b H' (Pp c own) vs ds → vs.length = n → Q vs H'
  | .er e x => ∀ cls dd H', Grow c.b H H' → BoxRel c.b x H' → RepE T c.b H' (Pp c own) cls dd e → W cls dd σ H'
  | .no => False
def EL (T : Tb) (W : WX) (n : Nat) (f : AC) : TA := fun σ H Q => ∃ c own Γ x, Sat T c own Γ x σ H ∧ LRes T W n c own σ H Q (f Γ x)
theorem LRes.at {n : Nat} {Q : List V → Hp → Prop} {z : R (List D)} (g : Grow c.b H H') (r : LRes T W n c own σ H Q z) : LRes T W n c own σ H' Q z := by
  cases z with
  | ok d x => exact fun v H2 g2 bx q => r v H2 (g.trans g2) bx q
  | er d x => exact fun cl dd H2 g2 bx q => r cl dd H2 (g.trans g2) bx q
  | no => exact r
def lNil : AC := fun _ => M.pure []
def lCons (f : EC) (fs : AC) : AC := fun Γ => bnd (f Γ) fun d => bnd (fs Γ) fun ds => M.pure (d :: ds)
theorem pl_nil : PA X [] (EL T W 0 lNil) := pa_nil.mono fun σ H Q ⟨c, own, Γ, x, s, r⟩ => r [] H Grow.refl s.bx .nil rfl
theorem pl_cons {es : List Expr} {fs : AC} {n : Nat} (ha : PE X e (E T W .fz f)) (hr : PA X es (EL T W n fs)) (hs : starEach (e :: es) X.env = (false, eval e X.env) :: starEach es X.env := by rfl) : PA X (e :: es) (EL T W (n + 1) (lCons f fs)) :=
  (pa_cons ha hr hs).mono fun σ H Q ⟨c, own, Γ, x, s, r⟩ => ⟨c, own, Γ, x, s, by
    cases hf : f Γ x with
    | ok d x1 =>
      rw [show lCons f fs Γ x = _ from bnd_ok hf] at r
      refine fun v H1 g bx q => ⟨c, own, Γ, x1, s.grow g bx, ?_⟩
      replace r := r.at g
      cases hg : fs Γ x1 with
      | ok ds x2 =>
        rw [bnd_ok hg] at r
        exact fun vs H2 g2 bx2 q2 hl => r (v :: vs) H2 g2 bx2 (.cons (Rep.grow g2 q) q2) (by rw [List.length_cons, hl])
      | er d x2 => rw [bnd_er hg] at r; exact r
      | no => rw [bnd_no hg] at r; exact r
    | er d x1 => rw [show lCons f fs Γ x = _ from bnd_er hf] at r; exact r
    | no => rw [show lCons f fs Γ x = _ from bnd_no hf] at r; exact r⟩
def eLst (fs : AC) : EC := fun Γ => bnd (fs Γ) fun ds => M.pure (.lst ds)
def eTup (fs : AC) : EC := fun Γ => bnd (fs Γ) fun ds => M.pure (.tup ds)
theorem pf_lst {es : List Expr} {fs : AC} {n : Nat} (h : PA X es (EL T W n fs)) (hn : n ≤ 100000 := by decide) : PE X (.List es pos) (EF T W (eLst fs)) := (pe_lst h).mono fun σ H Q ⟨c, own, Γ, x, s, r⟩ => ⟨c, own, Γ, x, s, by
  cases hf : fs Γ x with
  | ok ds x1 =>
    rw [show eLst fs Γ x = _ from bnd_ok hf] at r
    exact fun vs H1 g bx q hl => ⟨by rw [hl]; exact sz_of hn, fun p np => r p _ ((s.grow g bx).none_back' s g np) (g.trans (Grow.same (Same.upd' np))) (bx.same (Same.upd' np)) ⟨vs, upd_same, q.mono (fun a o _ e => Same.upd' np a o e) fun a o pa e => ⟨pa, ne_of_none e np⟩⟩ rfl⟩
  | er d x1 => rw [show eLst fs Γ x = _ from bnd_er hf] at r; exact r
  | no => rw [show eLst fs Γ x = _ from bnd_no hf] at r; exact r⟩
theorem pd_tup {es : List Expr} {fs : AC} {n k : Nat} (h : PA X es (EL T W n fs)) (hn : n ≤ 100000 := by decide) : PE X (.Tuple es k pos) (E T W .fz (eTup fs)) := (pe_tup h).mono fun σ H Q ⟨c, own, Γ, x, s, r⟩ => ⟨c, own, Γ, x, s, by
  cases hf : fs Γ x with
  | ok ds x1 =>
    rw [show eTup fs Γ x = _ from bnd_ok hf] at r
    exact fun vs H1 g bx q hl => ⟨by rw [hl]; exact sz_of hn, fun p np => r _ _ (g.trans (Grow.same (Same.upd' np))) (bx.same (Same.upd' np)) (.tup ((s.grow g bx).freshP np) upd_same (q.same (Same.upd' np)))⟩
  | er d x1 => rw [show eTup fs Γ x = _ from bnd_er hf] at r; exact r
  | no => rw [show eTup fs Γ x = _ from bnd_no hf] at r; exact r⟩
end
end DL

namespace DL
open PySem PySem.Spec PyProof.Rows L2
/-! ### statements -/
/-- what is frozen (or borrowed) stays -/
def Fz (b : Option Addr) (own : Ow) (H : Hp) (own' : Ow) (H' : Hp) : Prop := ∀ a o, some a ∉ own → b ≠ some a → H a = some o → H' a = some o ∧ some a ∉ own'
theorem Fz.refl {b : Option Addr} {own : Ow} {H : Hp} : Fz b own H own H := fun _ _ h _ e => ⟨e, h⟩
theorem Fz.trans {b : Option Addr} {o1 o2 o3 : Ow} {H1 H2 H3 : Hp} (h : Fz b o1 H1 o2 H2) (h' : Fz b o2 H2 o3 H3) : Fz b o1 H1 o3 H3 := fun a o n nb e => by
  obtain ⟨e2, n2⟩ := h a o n nb e
  exact h' a o n2 nb e2
theorem Fz.grow {b : Option Addr} {own : Ow} {H H' : Hp} (g : Grow b H H') : Fz b own H own H' := fun a o n nb e => ⟨g a o nb e, n⟩
def SRes (T : Tb) (W : WX) (c : Cf) (own : Ow) (H : Hp) (De : Ends) : SR → Prop
  | .nx Γ' x => ∀ own' σ' H', Fz c.b own H own' H' → Sat T c own' Γ' x σ' H' → De.nx σ' H'
  | .rt d x => ∀ v H', Grow c.b c.H0 H' → BoxRel c.b x H' → Rep T c.b H' (Pp c []) v d → De.rt v H'
  | .bk Γ' x => ∀ own' σ' H', Fz c.b own H own' H' → Sat T c own' Γ' x σ' H' → De.bk σ' H'
  | .ct Γ' x => ∀ own' σ' H', Fz c.b own H own' H' → Sat T c own' Γ' x σ' H' → De.ct σ' H'
  | .er e Γ' x => ∀ cls dd own' σ' H', Fz c.b own H own' H' → Sat T c own' Γ' x σ' H' → RepE T c.b H' (Pp c own') cls dd e → W cls dd σ' H'
  | .no => False
def SS (T : Tb) (W : WX) (g : SC) : TS := fun De σ H => ∃ c own Γ x, Sat T c own Γ x σ H ∧ SRes T W c own H De (g Γ x)
def sSeq (g h : SC) : SC := fun Γ x => match g Γ x with
  | .nx Γ' x' => h Γ' x'
  | r => r
def sNext : SC := fun Γ x => .nx Γ x
def sBreak : SC := fun Γ x => .bk Γ x
def sCont : SC := fun Γ x => .ct Γ x
/-- an expression, then what is done with its value -/
def sE (f : EC) (k : D → SC) : SC := fun Γ x => match f Γ x with
  | .ok d x' => k d Γ x'
  | .er e x' => .er e Γ x'
  | .no => .no
def sT (f : TC) (k : Bool → SC) : SC := fun Γ x => match f Γ x with
  | .ok d x' => k d Γ x'
  | .er e x' => .er e Γ x'
  | .no => .no
section
variable {X : Cx} {T : Tb} {W : WX} {m : Md} {a b e : Expr} {f fa fb : EC} {tf tg : TC} {g h : SC} {pos : Pos} {c : Cf} {own own' : Ow} {Γ : Gm} {x x' : Bx} {σ : L2.St} {H H' : Hp} {De : Ends} {st : Stmt} {rest : List Stmt}
theorem SRes.at {z : SR} (fz : Fz c.b own H own' H') (r : SRes T W c own H De z) : SRes T W c own' H' De z := by
  cases z with
  | nx Γ' x => exact fun o s H2 f2 q => r o s H2 (fz.trans f2) q
  | bk Γ' x => exact fun o s H2 f2 q => r o s H2 (fz.trans f2) q
  | ct Γ' x => exact fun o s H2 f2 q => r o s H2 (fz.trans f2) q
  | er e Γ' x => exact fun cls dd o s H2 f2 q => r cls dd o s H2 (fz.trans f2) q
  | rt d x => exact r
  | no => exact r
theorem pss_dnil : PSs X [] (SS T W sNext) := pss_nil.mono fun D σ H ⟨c, own, Γ, x, s, r⟩ => r own σ H Fz.refl s
theorem seq_ok (s : Sat T c own Γ x σ H) (r : SRes T W c own H De (sSeq g h Γ x)) : SRes T W c own H { De with nx := SS T W h De } (g Γ x) := by
  unfold sSeq at r
  cases hg : g Γ x with
  | nx Γ' x1 => rw [hg] at r; exact fun o s H2 f2 q => ⟨c, o, Γ', x1, q, r.at f2⟩
  | rt d x1 => rw [hg] at r; exact r
  | bk Γ' x1 => rw [hg] at r; exact r
  | ct Γ' x1 => rw [hg] at r; exact r
  | er d Γ' x1 => rw [hg] at r; exact r
  | no => rw [hg] at r; exact r
theorem pss_dcons (h1 : PS X st (SS T W g)) (h2 : PSs X rest (SS T W h)) : PSs X (st :: rest) (SS T W (sSeq g h)) := (pss_cons h1 h2).mono fun D σ H ⟨c, own, Γ, x, s, r⟩ => ⟨c, own, Γ, x, s, seq_ok s r⟩
theorem pss_done (h1 : PS X st (SS T W g)) : PSs X [st] (SS T W g) := pss_one h1
theorem ps_dpass : PS X (.Pass pos) (SS T W sNext) := ps_pass.mono fun D σ H ⟨c, own, Γ, x, s, r⟩ => r own σ H Fz.refl s
theorem ps_dbreak : PS X (.Break pos) (SS T W sBreak) := ps_break.mono fun D σ H ⟨c, own, Γ, x, s, r⟩ => r own σ H Fz.refl s
theorem ps_dcont : PS X (.Continue pos) (SS T W sCont) := ps_continue.mono fun D σ H ⟨c, own, Γ, x, s, r⟩ => r own σ H Fz.refl s
/-- an expression within a statement -/
theorem SRes.bindD {k : D → SC} (s : Sat T c own Γ x σ H) (r : SRes T W c own H De (sE f k Γ x)) :
    ERes T W m c own σ H (fun v H1 => ∃ d x1, Sat T c own Γ x1 σ H1 ∧ Grow c.b H H1 ∧ RepM m T c.b H1 (Pp c own) v d ∧ SRes T W c own H1 De (k d Γ x1)) (f Γ x) := by
  unfold sE at r
  cases hf : f Γ x with
  | ok d x1 => rw [hf] at r; exact fun v H1 g bx q => ⟨d, x1, s.grow g bx, g, q, r.at (Fz.grow g)⟩
  | er d x1 => rw [hf] at r; exact fun cls dd H1 g bx q => r cls dd own σ H1 (Fz.grow g) (s.grow g bx) q
  | no => rw [hf] at r; exact r
theorem SRes.bindF {k : D → SC} (s : Sat T c own Γ x σ H) (r : SRes T W c own H De (sE f k Γ x)) :
    FRes T W c own σ H (fun v H1 => ∃ p d x1, v = .ref p ∧ Sat T c own Γ x1 σ H1 ∧ Grow c.b H H1 ∧ H p = none ∧ OwnAt T c.b H1 (PN c own p) p d ∧ isCon d = true ∧ SRes T W c own H1 De (k d Γ x1)) (f Γ x) := by
  unfold sE at r
  cases hf : f Γ x with
  | ok d x1 => rw [hf] at r; exact fun p H1 n g bx q hc => ⟨p, d, x1, rfl, s.grow g bx, g, n, q, hc, r.at (Fz.grow g)⟩
  | er d x1 => rw [hf] at r; exact fun cls dd H1 g bx q => r cls dd own σ H1 (Fz.grow g) (s.grow g bx) q
  | no => rw [hf] at r; exact r
theorem SRes.bindT {k : Bool → SC} (s : Sat T c own Γ x σ H) (r : SRes T W c own H De (sT tf k Γ x)) :
    TRes T W c own σ H (fun d H1 => ∃ x1, Sat T c own Γ x1 σ H1 ∧ Grow c.b H H1 ∧ SRes T W c own H1 De (k d Γ x1)) (tf Γ x) := by
  unfold sT at r
  cases hf : tf Γ x with
  | ok d x1 => rw [hf] at r; exact fun H1 g bx => ⟨x1, s.grow g bx, g, r.at (Fz.grow g)⟩
  | er d x1 => rw [hf] at r; exact fun cls dd H1 g bx q => r cls dd own σ H1 (Fz.grow g) (s.grow g bx) q
  | no => rw [hf] at r; exact r
theorem Pp.nil {a : Addr} (h : Pp c own a) : Pp c [] a := ⟨h.1, h.2.1, fun z => nomatch z⟩
def sRet (f : EC) : SC := sE f fun d _ x => .rt d x
theorem ps_dret (he : PE X e (E T W .fz f)) : PS X (.Return (some e) pos) (SS T W (sRet f)) := (ps_ret he).mono fun D σ H ⟨c, own, Γ, x, s, r⟩ =>
  ⟨c, own, Γ, x, s, (SRes.bindD (m := .fz) s r).imp fun v H1 ⟨d, x1, s1, g, q, r1⟩ => r1 v H1 s1.gr s1.bx (Rep.mono (fun _ _ _ e => e) (fun _ _ p _ => p.nil) q)⟩
def sRetN : SC := fun _ x => .rt .non x
theorem ps_dretN : PS X (.Return none pos) (SS T W sRetN) := ps_retN.mono fun D σ H ⟨c, own, Γ, x, s, r⟩ => r .non H s.gr s.bx .non
def sIf (t : TC) (g h : SC) : SC := sT t fun k => if k = true then g else h
theorem ps_dif {cn : Expr} {sa sb : List Stmt} (hc : PT X cn (ET T W tf)) (ha : PSs X sa (SS T W g)) (hb : PSs X sb (SS T W h)) : PS X (.If cn sa sb pos) (SS T W (sIf tf g h)) := (ps_if hc ha hb).mono fun D σ H ⟨c, own, Γ, x, s, r⟩ =>
  ⟨c, own, Γ, x, s, (SRes.bindT s r).imp fun k H1 ⟨x1, s1, g1, r1⟩ => by
    cases k with
    | true => exact ⟨c, own, Γ, x1, s1, r1⟩
    | false => exact ⟨c, own, Γ, x1, s1, r1⟩⟩
/-- a slot is set -/
theorem Sat.set (s : Sat T c own Γ x σ H) (i : Nat) {v : V} {d : D} (r : Rep T c.b H (Pp c own) v d) : Sat T c own (Γ.set i (.sh d)) x (σ.set i (some v)) H := by
  refine ⟨by rw [List.length_set, List.length_set]; exact s.l1, by rw [List.length_set]; exact s.l2, s.gr, s.bx, s.bd, s.ob, s.bb, s.fresh, s.nodup, fun p cn fs h1 h2 => ?_, fun j u h => ?_⟩
  · by_cases h0 : i = 0
    · subst h0
      have hlt := (List.getElem?_eq_some_iff.mp h2).1
      rw [List.length_set] at hlt
      rw [List.getElem?_set_self hlt] at h2
      cases h2
    · rw [List.getElem?_set_ne h0] at h2
      exact s.me p cn fs h1 h2
  by_cases hj : i = j
  · subst hj
    have hlt : i < Γ.length := by
      have h2 := (List.getElem?_eq_some_iff.mp h).1
      rw [List.length_set] at h2
      exact h2
    rw [List.getElem?_set_self hlt] at h
    cases h
    exact ⟨v, List.getElem?_set_self (by rw [s.l1]; exact hlt), r⟩
  · rw [List.getElem?_set_ne hj] at h
    rw [List.getElem?_set_ne hj]
    exact s.slot j u h
def sAsg (i : Nat) (f : EC) : SC := sE f fun d Γ x => .nx (Γ.set i (.sh d)) x
theorem ps_dset {i : Nat} {y : Str} {pos' : Pos} (hN : X.N.Nodup) (hi : X.N[i]? = some y) (hx : Loc X.env.scope y) (he : PE X e (E T W .fz f)) (hs : swapsWith e (some (.Name y pos')) pos.line X.env = pure false := by rfl)
    (hf : X.fn y = true ∨ X.env.scope.names.lookup y = some .local := by first | exact .inl rfl | exact .inr rfl | assumption) : PS X (.Assign [.Name y pos'] e pos) (SS T W (sAsg i f)) := (ps_set hN hi hx he hs hf).mono fun D σ H ⟨c, own, Γ, x, s, r⟩ =>
  ⟨c, own, Γ, x, s, (SRes.bindD (m := .fz) s r).imp fun v H1 ⟨d, x1, s1, g, q, r1⟩ => r1 own _ H1 Fz.refl (s1.set i q)⟩
/-- a slot is given a container of its own -/
theorem mem_set {α : Type} {l : List α} {i : Nat} {a b : α} (h : a ∈ l.set i b) : a ∈ l ∨ a = b := List.mem_or_eq_of_mem_set h
theorem Sat.owned (s : Sat T c own Γ x σ H) (i : Nat) {p : Addr} {d : D} (n : H p = none) (g : Grow c.b H H') (bx : BoxRel c.b x' H') (r : OwnAt T c.b H' (PN c own p) p d) (hc : isCon d = true) :
    Sat T c (own.set i (some p)) (Γ.set i (.ow d)) x' (σ.set i (some (.ref p))) H' ∧ Fz c.b own H (own.set i (some p)) H' := by
  have nb : c.b ≠ some p := fun e => by rw [s.bx p e] at n; cases n
  have np : ∀ {a o}, H a = some o → a ≠ p := fun e => ne_of_none e n
  have hm : ∀ {a : Addr}, some a ∉ own → a ≠ p → some a ∉ own.set i (some p) := fun h1 h2 h3 => (mem_set h3).elim h1 fun z => h2 (Option.some.inj z)
  have pk : ∀ a o, Pp c own a → H a = some o → Pp c (own.set i (some p)) a := fun a o pa e => ⟨pa.1, pa.2.1, hm pa.2.2 (np e)⟩
  refine ⟨⟨by rw [List.length_set, List.length_set]; exact s.l1, by rw [List.length_set, List.length_set]; exact s.l2, s.gr.trans g, bx, (s.grow g bx).bd, fun j q h => ?_, s.bb, fun j q h => ?_, fun j k q h1 h2 => ?_, fun q cn fs h1 h2 => ?_, fun j u h => ?_⟩, fun a o h1 h2 e => ⟨g a o h2 e, hm h1 (np e)⟩⟩
  · by_cases hj : i = j
    · subst hj
      have hlt : i < own.length := by
        have h2 := (List.getElem?_eq_some_iff.mp h).1
        rw [List.length_set] at h2
        exact h2
      rw [List.getElem?_set_self hlt] at h
      cases h
      exact fun hb => s.bd p hb n
    · rw [List.getElem?_set_ne hj] at h
      exact s.ob j q h
  · by_cases hj : i = j
    · subst hj
      have hlt : i < own.length := by
        have h2 := (List.getElem?_eq_some_iff.mp h).1
        rw [List.length_set] at h2
        exact h2
      rw [List.getElem?_set_self hlt] at h
      cases h
      exact ⟨s.gr.none nb n, r.tracked⟩
    · rw [List.getElem?_set_ne hj] at h
      exact (s.grow g bx).fresh j q h
  · have ne : ∀ {j : Nat}, i ≠ j → own[j]? = some (some p) → False := fun hj h => (s.fresh _ _ h).2 n
    by_cases hj : i = j
    · subst hj
      by_cases hk : i = k
      · exact hk
      · have hlt : i < own.length := by
          have h3 := (List.getElem?_eq_some_iff.mp h1).1
          rw [List.length_set] at h3
          exact h3
        rw [List.getElem?_set_self hlt] at h1
        cases h1
        rw [List.getElem?_set_ne hk] at h2
        exact (ne hk h2).elim
    · rw [List.getElem?_set_ne hj] at h1
      by_cases hk : i = k
      · subst hk
        have hlt : i < own.length := by
          have h3 := (List.getElem?_eq_some_iff.mp h2).1
          rw [List.length_set] at h3
          exact h3
        rw [List.getElem?_set_self hlt] at h2
        cases h2
        exact (ne hj h1).elim
      · rw [List.getElem?_set_ne hk] at h2
        exact s.nodup j k q h1 h2
  · by_cases h0 : i = 0
    · subst h0
      have hlt := (List.getElem?_eq_some_iff.mp h2).1
      rw [List.length_set] at hlt
      rw [List.getElem?_set_self hlt] at h2
      cases h2
      cases hc
    · rw [List.getElem?_set_ne h0] at h2
      rw [List.getElem?_set_ne h0]
      exact s.me q cn fs h1 h2
  · by_cases hj : i = j
    · subst hj
      have hlt : i < Γ.length := by
        have h2 := (List.getElem?_eq_some_iff.mp h).1
        rw [List.length_set] at h2
        exact h2
      rw [List.getElem?_set_self hlt] at h
      cases h
      refine ⟨p, List.getElem?_set_self (by rw [s.l1]; exact hlt), List.getElem?_set_self (by rw [s.l2]; exact hlt), r.mono (fun _ _ _ e => e) (fun a o pa _ => ⟨pa.1.1, pa.1.2.1, hm pa.1.2.2 pa.2⟩) fun _ e => e⟩
    · rw [List.getElem?_set_ne hj] at h
      rw [List.getElem?_set_ne hj, List.getElem?_set_ne hj]
      have q := s.slot j u h
      cases u with
      | no => trivial
      | sh d => obtain ⟨v, e, r⟩ := q; exact ⟨v, e, r.mono (Pp.keep g) pk⟩
      | bo d =>
        obtain ⟨v, e, r⟩ := q
        refine ⟨v, e, ?_⟩
        rcases r with r | ⟨q, rfl, n1, no, r⟩
        · exact .inl (r.mono (Pp.keep g) pk)
        · refine .inr ⟨q, rfl, n1, no, r.mono (Pp.keep g) pk fun o e => g _ _ n1 e⟩
      | ow d => obtain ⟨q, e, e2, r⟩ := q; exact ⟨q, e, e2, r.mono (Pp.keep g) pk fun o e3 => g _ _ (s.own_ne e2) e3⟩
def sOwn (i : Nat) (f : EC) : SC := sE f fun d Γ x => .nx (Γ.set i (.ow d)) x
theorem ps_down {i : Nat} {y : Str} {pos' : Pos} (hN : X.N.Nodup) (hi : X.N[i]? = some y) (hx : Loc X.env.scope y) (he : PE X e (EF T W f)) (hs : swapsWith e (some (.Name y pos')) pos.line X.env = pure false := by rfl)
    (hf : X.fn y = true ∨ X.env.scope.names.lookup y = some .local := by first | exact .inl rfl | exact .inr rfl | assumption) : PS X (.Assign [.Name y pos'] e pos) (SS T W (sOwn i f)) := (ps_set hN hi hx he hs hf).mono fun D σ H ⟨c, own, Γ, x, s, r⟩ => ⟨c, own, Γ, x, s, by
    unfold sOwn sE at r
    cases hz : f Γ x with
    | ok d x1 =>
      rw [hz] at r
      exact fun p H1 n g bx q hc => (by
        obtain ⟨s2, fz⟩ := s.owned i n g bx q hc
        exact r _ _ H1 fz s2)
    | er d x1 => rw [hz] at r; exact fun cls dd H1 g bx q => r cls dd own σ H1 (Fz.grow g) (s.grow g bx) q
    | no => rw [hz] at r; exact r⟩
/-- a container of a slot's own is frozen -/
theorem Sat.freeze (s : Sat T c own Γ x σ H) {i : Nat} {d : D} (h : Γ[i]? = some (.ow d)) (hd : isDic d = false) : Sat T c (own.set i none) (Γ.set i (.sh d)) x σ H ∧ Fz c.b own H (own.set i none) H := by
  obtain ⟨p, e1, e2, r⟩ := s.slot i _ h
  have hm : ∀ {a : Addr}, some a ∉ own → some a ∉ own.set i none := fun h1 h3 => (mem_set h3).elim h1 fun z => nomatch z
  have pk : ∀ a o, Pp c own a → H a = some o → Pp c (own.set i none) a := fun a o pa _ => ⟨pa.1, pa.2.1, hm pa.2.2⟩
  have hP : Pp c (own.set i none) p := by
    refine ⟨s.ob i p e2, s.own_ne e2, fun hz => ?_⟩
    obtain ⟨j, hj⟩ := List.getElem?_of_mem hz
    by_cases hij : i = j
    · subst hij
      have hlt : i < own.length := (List.getElem?_eq_some_iff.mp e2).1
      rw [List.getElem?_set_self hlt] at hj
      cases hj
    · rw [List.getElem?_set_ne hij] at hj
      exact hij (s.nodup i j p e2 hj)
  have og : ∀ {j : Nat} {q : Addr}, (own.set i none)[j]? = some (some q) → own[j]? = some (some q) := fun {j q} hj => by
    by_cases hij : i = j
    · subst hij
      have hlt : i < own.length := (List.getElem?_eq_some_iff.mp e2).1
      rw [List.getElem?_set_self hlt] at hj
      cases hj
    · rw [List.getElem?_set_ne hij] at hj
      exact hj
  refine ⟨⟨by rw [List.length_set]; exact s.l1, by rw [List.length_set, List.length_set]; exact s.l2, s.gr, s.bx, s.bd, fun j q hj => s.ob j q (og hj), s.bb, fun j q hj => s.fresh j q (og hj), fun j k q h1 h2 => s.nodup j k q (og h1) (og h2), fun q cn fs h1 h2 => ?_, fun j u hu => ?_⟩, fun a o h1 h2 e => ⟨e, hm h1⟩⟩
  · by_cases h0 : i = 0
    · subst h0
      have hlt := (List.getElem?_eq_some_iff.mp h2).1
      rw [List.length_set] at hlt
      rw [List.getElem?_set_self hlt] at h2
      cases h2
    · rw [List.getElem?_set_ne h0] at h2
      rw [List.getElem?_set_ne h0]
      exact s.me q cn fs h1 h2
  by_cases hj : i = j
  · subst hj
    have hlt : i < Γ.length := (List.getElem?_eq_some_iff.mp h).1
    rw [List.getElem?_set_self hlt] at hu
    cases hu
    exact ⟨_, e1, (r.mono (fun _ _ _ e => e) pk (fun _ e => e)).rep hd hP⟩
  · rw [List.getElem?_set_ne hj] at hu
    rw [List.getElem?_set_ne hj]
    have q := s.slot j u hu
    cases u with
    | no => trivial
    | sh d => obtain ⟨v, e, r⟩ := q; exact ⟨v, e, r.mono (fun _ _ _ e => e) pk⟩
    | bo d =>
      obtain ⟨v, e, r⟩ := q
      refine ⟨v, e, ?_⟩
      rcases r with r | ⟨q, rfl, n1, no, r⟩
      · exact .inl (r.mono (fun _ _ _ e => e) pk)
      · exact .inr ⟨q, rfl, n1, no, r.mono (fun _ _ _ e => e) pk fun o e => e⟩
    | ow d => obtain ⟨q, e, e2, r⟩ := q; exact ⟨q, e, e2, r.mono (fun _ _ _ e => e) pk fun o e => e⟩
def frz (i : Nat) (Γ : Gm) : Gm := match Γ[i]? with
  | some (.ow d) => Γ.set i (.sh d)
  | _ => Γ
def sFrz (i : Nat) (g : SC) : SC := fun Γ x => g (frz i Γ) x
/-- a dict of a slot's own is locked -/
theorem Sat.freezeD (s : Sat T c own Γ x σ H) {i : Nat} {d : D} (h : Γ[i]? = some (.ow d)) (hd : isDic d = true) :
    ∃ p u, H p = some u ∧ Mut (some u) ∧ ∀ od, Sat T c (own.set i none) (Γ.set i (.sh d)) x σ (upd H p (.frz od u)) ∧ Fz c.b own H (own.set i none) (upd H p (.frz od u)) := by
  obtain ⟨p, e1, e2, r⟩ := s.slot i _ h
  have hmem : some p ∈ own := List.mem_of_getElem? e2
  have nb := s.own_ne e2
  have hm : ∀ {a : Addr}, some a ∉ own → some a ∉ own.set i none := fun h1 h3 => (mem_set h3).elim h1 fun z => nomatch z
  have pk : ∀ a o, Pp c own a → H a = some o → Pp c (own.set i none) a := fun a o pa _ => ⟨pa.1, pa.2.1, hm pa.2.2⟩
  have hP : Pp c (own.set i none) p := by
    refine ⟨s.ob i p e2, s.own_ne e2, fun hz => ?_⟩
    obtain ⟨j, hj⟩ := List.getElem?_of_mem hz
    by_cases hij : i = j
    · subst hij
      have hlt : i < own.length := (List.getElem?_eq_some_iff.mp e2).1
      rw [List.getElem?_set_self hlt] at hj
      cases hj
    · rw [List.getElem?_set_ne hij] at hj
      exact hij (s.nodup i j p e2 hj)
  have og : ∀ {j : Nat} {q : Addr}, (own.set i none)[j]? = some (some q) → own[j]? = some (some q) := fun {j q} hj => by
    by_cases hij : i = j
    · subst hij
      have hlt : i < own.length := (List.getElem?_eq_some_iff.mp e2).1
      rw [List.getElem?_set_self hlt] at hj
      cases hj
    · rw [List.getElem?_set_ne hij] at hj
      exact hj
  obtain ⟨u, hu, mu, rp⟩ := r.lockd hd (fun a pa z => pa.2.2 (z ▸ hmem)) (P' := Pp c (own.set i none)) pk hP
  refine ⟨p, u, hu, mu, fun od => ?_⟩
  replace rp := rp od
  generalize HO.frz od u = o at *
  have ne : ∀ a u, a ≠ p → H a = some u → upd H p o a = some u := fun a u n e => by
    rw [upd_ne n]
    exact e
  have hk : ∀ a u, Pp c own a → H a = some u → upd H p o a = some u := fun a u pa e => ne a u (fun z => pa.2.2 (z ▸ hmem)) e
  refine ⟨⟨by rw [List.length_set]; exact s.l1, by rw [List.length_set, List.length_set]; exact s.l2, fun a u h1 h2 => ne a u (fun z => by
      have q := (s.fresh i p e2).1
      rw [z, q] at h2
      cases h2) (s.gr a u h1 h2), fun a ha => ne a _ (fun z => nb (z ▸ ha)) (s.bx a ha), fun a hb => (by
      have h3 := s.bd a hb
      by_cases hq : a = p
      · rw [hq, upd_same]; exact fun z => nomatch z
      · rw [upd_ne hq]; exact h3), fun j q hj => s.ob j q (og hj), s.bb, fun j q hj => ⟨(s.fresh j q (og hj)).1, ?_⟩, fun j k q h1 h2 => s.nodup j k q (og h1) (og h2), fun q cn fs h1 h2 => ?_, fun j u hu => ?_⟩, fun a u h1 h2 e => ⟨ne a u (fun z => h1 (z ▸ hmem)) e, hm h1⟩⟩
  · by_cases hq : q = p
    · rw [hq, upd_same]
      exact fun z => nomatch z
    · rw [upd_ne hq]
      exact (s.fresh j q (og hj)).2
  · by_cases h0 : i = 0
    · subst h0
      have hlt := (List.getElem?_eq_some_iff.mp h2).1
      rw [List.length_set] at hlt
      rw [List.getElem?_set_self hlt] at h2
      cases h2
    · rw [List.getElem?_set_ne h0] at h2
      rw [List.getElem?_set_ne h0]
      exact s.me q cn fs h1 h2
  · by_cases hj : i = j
    · subst hj
      have hlt : i < Γ.length := (List.getElem?_eq_some_iff.mp h).1
      rw [List.getElem?_set_self hlt] at hu
      cases hu
      exact ⟨_, e1, rp⟩
    · rw [List.getElem?_set_ne hj] at hu
      rw [List.getElem?_set_ne hj]
      have q := s.slot j u hu
      cases u with
      | no => trivial
      | sh d => obtain ⟨v, e, r⟩ := q; exact ⟨v, e, r.mono hk pk⟩
      | bo d =>
        obtain ⟨v, e, r⟩ := q
        refine ⟨v, e, ?_⟩
        rcases r with r | ⟨q, rfl, n1, no, r⟩
        · exact .inl (r.mono hk pk)
        · exact .inr ⟨q, rfl, n1, no, r.mono hk pk fun o e => ne q o (fun z => no (by rw [z]; exact (s.fresh i p e2).1)) e⟩
      | ow d => obtain ⟨q, e, e3, r⟩ := q; exact ⟨q, e, e3, r.mono hk pk fun o e => ne q o (fun z => hj (s.nodup i j p e2 (z ▸ e3))) e⟩
def tLockS (t : TS) : TS := fun D σ H => t D σ H ∨ ∃ p u, H p = some u ∧ Mut (some u) ∧ ∀ od, t D σ (upd H p (.frz od u))
theorem ps_lockS {t : TS} (h : PS X st t) : PS X st (tLockS t) := by
  refine ⟨fun pins s σ H D I hw => ?_⟩
  rcases hw with hw | ⟨p, u, hp, mu, hw⟩
  · exact h.run pins s σ H D I hw
  · obtain ⟨od, I1⟩ := I.lock hp mu
    exact h.run pins s σ _ D I1 (hw od)
theorem ps_dfrz (i : Nat) (h : PS X st (SS T W g)) : PS X st (SS T W (sFrz i g)) := (ps_lockS h).mono fun D σ H ⟨c, own, Γ, x, s, r⟩ => by
  unfold sFrz frz at r
  split at r
  · rename_i d hd
    by_cases hz : isDic d = true
    · obtain ⟨p, u, h1, h2, h3⟩ := s.freezeD hd hz
      exact .inr ⟨p, u, h1, h2, fun od => ⟨c, _, _, x, (h3 od).1, r.at (h3 od).2⟩⟩
    · obtain ⟨s2, fz⟩ := s.freeze hd (by simpa using hz)
      exact .inl ⟨c, _, _, x, s2, r.at fz⟩
  · exact .inl ⟨c, own, Γ, x, s, r⟩
/-- a container of a slot's own is changed -/
theorem Sat.change (s : Sat T c own Γ x σ H) {i : Nat} {p : Addr} {d d' : D} {o : HO} (h : Γ[i]? = some (.ow d)) (e1 : σ[i]? = some (some (.ref p))) (e2 : own[i]? = some (some p))
    (r : OwnAt T c.b (upd H p o) (Pp c own) p d') (hc : ∀ cn fs, d' = .obj cn fs → ∃ fs', d = .obj cn fs') : Sat T c own (Γ.set i (.ow d')) x σ (upd H p o) ∧ Fz c.b own H own (upd H p o) := by
  have nb := s.own_ne e2
  have hmem : some p ∈ own := List.mem_of_getElem? e2
  have hk : ∀ a u, Pp c own a → H a = some u → upd H p o a = some u := fun a u pa e => by
    have hn : a ≠ p := fun z => pa.2.2 (by rw [z]; exact hmem)
    rw [upd_ne hn]
    exact e
  have ne : ∀ a u, a ≠ p → H a = some u → upd H p o a = some u := fun a u n e => by
    rw [upd_ne n]
    exact e
  refine ⟨⟨by rw [List.length_set]; exact s.l1, by rw [List.length_set]; exact s.l2, fun a u h1 h2 => ne a u (fun z => by
      have q := (s.fresh i p e2).1
      rw [z, q] at h2
      cases h2) (s.gr a u h1 h2), fun a ha => ne a _ (fun z => nb (z ▸ ha)) (s.bx a ha), fun a hb => (by
      have h3 := s.bd a hb
      by_cases hq : a = p
      · rw [hq, upd_same]; exact fun z => nomatch z
      · rw [upd_ne hq]; exact h3), s.ob, s.bb, fun j q hj => ⟨(s.fresh j q hj).1, ?_⟩, s.nodup, fun q cn fs h1 h2 => ?_, fun j u hu => ?_⟩, fun a u h1 h2 e => ⟨ne a u (fun z => h1 (z ▸ hmem)) e, h1⟩⟩
  · by_cases hq : q = p
    · rw [hq, upd_same]
      exact fun z => nomatch z
    · rw [upd_ne hq]
      exact (s.fresh j q hj).2
  · by_cases h0 : i = 0
    · subst h0
      have hlt := (List.getElem?_eq_some_iff.mp h2).1
      rw [List.length_set] at hlt
      rw [List.getElem?_set_self hlt] at h2
      cases h2
      obtain ⟨fs', rfl⟩ := hc cn fs rfl
      exact s.me q cn fs' h1 h
    · rw [List.getElem?_set_ne h0] at h2
      exact s.me q cn fs h1 h2
  · by_cases hj : i = j
    · subst hj
      have hlt : i < Γ.length := (List.getElem?_eq_some_iff.mp h).1
      rw [List.getElem?_set_self hlt] at hu
      cases hu
      exact ⟨p, e1, e2, r⟩
    · rw [List.getElem?_set_ne hj] at hu
      have q := s.slot j u hu
      cases u with
      | no => trivial
      | sh d => obtain ⟨v, e, r⟩ := q; exact ⟨v, e, r.mono hk fun _ _ p _ => p⟩
      | bo d =>
        obtain ⟨v, e, r⟩ := q
        refine ⟨v, e, ?_⟩
        rcases r with r | ⟨q, rfl, n1, no, r⟩
        · exact .inl (r.mono hk fun _ _ p _ => p)
        · exact .inr ⟨q, rfl, n1, no, r.mono hk (fun _ _ p _ => p) fun o e => ne q o (fun z => no (by rw [z]; exact (s.fresh i p e2).1)) e⟩
      | ow d => obtain ⟨q, e, e3, r⟩ := q; exact ⟨q, e, e3, r.mono hk (fun _ _ p _ => p) fun o e => ne q o (fun z => hj (s.nodup i j p e2 (z ▸ e3))) e⟩
end
end DL

namespace DL
open PySem PySem.Spec PyProof.Rows L2
/-! ### defs -/
def FnRes (T : Tb) (c : Cf) (Q : VK) (Ex : XK) : R D → Prop
  | .ok d x => ∀ v H', Grow c.b c.H0 H' → BoxRel c.b x H' → Rep T c.b H' (Pp c []) v d → Q v H'
  | .er e x => ∀ cls dd H', Grow c.b c.H0 H' → BoxRel c.b x H' → RepE T c.b H' (Pp c []) cls dd e → Ex cls dd H'
  | .no => False
/-- what stands at a call -/
structure At (T : Tb) (c : Cf) (x : Bx) (vs : List V) (as : List Ar) (H : Hp) : Prop where
  me : c.me = none
  h0 : c.H0 = H
  bd : ∀ a, c.B a → H a ≠ none
  bb : ∀ a, c.b = some a → H a ≠ none
  bx : BoxRel c.b x H
  ar : Paired (RepA T c.b H (Pp c [])) vs as
def spD (T : Tb) (n : Nat) (mf : List Ar → M D) : Sp := fun vs H Q Ex => ∃ c as x, At T c x vs as H ∧ as.length = n ∧ FnRes T c Q Ex (mf as x)
def arSl : Ar → Sl
  | .sh d => .sh d
  | .bo d => .bo d
def mOf (L : Nat) (g : SC) (as : List Ar) : M D := fun x => match g (as.map arSl ++ List.replicate (L - as.length) .no) x with
  | .rt d x => .ok d x
  | .nx _ x => .ok .non x
  | .er e _ x => .er e x
  | _ => .no
theorem paired_get {α β : Type} {F : α → β → Prop} : ∀ {l : List α} {k : List β}, Paired F l k → ∀ {i : Nat} {b : β}, k[i]? = some b → ∃ a, l[i]? = some a ∧ F a b
  | _, _, .nil, i, b, h => by simp at h
  | _, _, .cons h1 h2, 0, b, h => by
    rw [List.getElem?_cons_zero] at h
    cases h
    exact ⟨_, rfl, h1⟩
  | _, _, .cons h1 h2, i + 1, b, h => by
    obtain ⟨a, e, q⟩ := paired_get h2 (i := i) (b := b) (by simpa using h)
    exact ⟨a, by simpa using e, q⟩
theorem At.sat {T : Tb} {c : Cf} {x : Bx} {vs : List V} {as : List Ar} {H : Hp} (A : At T c x vs as H) (N : List Str) (hn : vs.length ≤ N.length) :
    Sat T c (List.replicate N.length none) (as.map arSl ++ List.replicate (N.length - as.length) .no) x (L2.start N vs) H := by
  have hl : vs.length = as.length := A.ar.length
  have no : ∀ {i : Nat} {p : Addr}, (List.replicate N.length (none : Option Addr))[i]? = some (some p) → False := fun {i p} h => by
    have h2 := List.mem_of_getElem? h
    have h3 := List.eq_of_mem_replicate h2
    cases h3
  have pk : ∀ a o, Pp c [] a → H a = some o → Pp c (List.replicate N.length none) a := fun a o pa _ => ⟨pa.1, pa.2.1, fun hm => by
    have h3 := List.eq_of_mem_replicate hm
    cases h3⟩
  refine ⟨by unfold L2.start; simp [hl], by simp; omega, by rw [A.h0]; exact Grow.refl, A.bx, A.bd, fun i p h => (no h).elim, by rw [A.h0]; exact A.bb, fun i p h => (no h).elim, fun i j p h => (no h).elim, fun p cn fs h1 h2 => (by rw [A.me] at h1; cases h1), fun i u h => ?_⟩
  by_cases hi : i < as.length
  · rw [List.getElem?_append_left (by rw [List.length_map]; exact hi), List.getElem?_map] at h
    cases ha : as[i]? with
    | none => rw [ha] at h; cases h
    | some a =>
      rw [ha] at h
      have h' : arSl a = u := by simpa using h
      subst h'
      obtain ⟨v, ev, rv⟩ := paired_get A.ar ha
      have es : (L2.start N vs)[i]? = some (some v) := by
        unfold L2.start
        rw [List.getElem?_append_left (by rw [List.length_map, hl]; exact hi), List.getElem?_map, ev]
        rfl
      cases a with
      | sh d => exact ⟨v, es, Rep.mono (fun _ _ _ e => e) pk rv⟩
      | bo d =>
        refine ⟨v, es, ?_⟩
        have rv' : RepQ T c.b H (Pp c []) v d := rv
        rcases rv' with rv | ⟨q, e1, e2, e3⟩
        · exact .inl (Rep.mono (fun _ _ _ e => e) pk rv)
        · have nm : c.H0 q ≠ none := by
            rw [A.h0]
            exact e3.tracked
          exact .inr ⟨q, e1, e2, nm, e3.mono (fun _ _ _ e => e) pk fun _ e => e⟩
  · rw [List.getElem?_append_right (by rw [List.length_map]; omega)] at h
    have h3 := List.eq_of_mem_replicate (List.mem_of_getElem? h)
    subst h3
    trivial
theorem RepE.mono {T : Tb} {b : Option Addr} {H H' : Hp} {P P' : Addr → Prop} (hk : ∀ a o, P a → H a = some o → H' a = some o) (hp : ∀ a o, P a → H a = some o → P' a) {cls : Value} {dd : Option Addr} {e : D} (h : RepE T b H P cls dd e) : RepE T b H' P' cls dd e := by
  obtain ⟨c, C, d, fs, ds, h1, h2, h3, h4, h5, h6, h7⟩ := h
  exact ⟨c, C, d, fs, ds, h1, h2, h3, h4, hp _ _ h5 h6, hk _ _ h5 h6, h7.mono hk hp⟩
section
variable {P : Program} {w : World} {K : PySem.W.Frag} {mg : Str → Option Value} {base : Heap} {T : Tb}
/-- THE RULE for a def -/
theorem _root_.L2.Fun.okD {x qual : Str} {st : Stmt} {f : Addr} {fd : FuncData} {N ps : List Str} {k : Nat} {g : SC} (F : Fun K x qual st f fd) (S : FnScope N ps (defScope st))
    (hbody : ∀ (cdv : Value) (A : Around) (outer : List Env) (s : Shared) (H : Hp) (E : XK), Room k (A.deeper (envOfC qual (defScope st) s.heap.objs.size f cdv)) →
      PSs (cxOf (L2.CX P w) P w K mg base N qual (defScope st) f cdv A outer s H E) (defBody st) (SS T (fun cls d _ H => E cls d H) g)) : FnOk P w K mg base (L2.CX P w) (k + 1) f fd ps (spD T ps.length (mOf N.length g)) := by
  have hps : ps.length ≤ N.length := by
    have h := S.pre
    have h2 : (N.take ps.length).length = ps.length := by rw [h]
    rw [List.length_take] at h2
    omega
  refine F.okX S (fun vs H Q E h => ?_) (fun cdv A outer s H vs Q E hr h => ?_)
  · obtain ⟨c, as, x, A, hl, _⟩ := h
    rw [← hl]
    exact A.ar.length
  · refine ⟨_, hbody cdv A outer s H E hr, ?_⟩
    obtain ⟨c, as, x, A, hl, r⟩ := h
    have hv : vs.length = as.length := A.ar.length
    refine ⟨c, _, _, x, A.sat N (by omega), ?_⟩
    unfold mOf at r
    cases hz : g (as.map arSl ++ List.replicate (N.length - as.length) .no) x with
    | nx Γ' x1 => rw [hz] at r; exact fun own' σ' H' fz s' => r .non H' s'.gr s'.bx .non
    | rt d x1 => rw [hz] at r; exact fun v H' g bx q => r v H' g bx q
    | bk Γ' x1 => rw [hz] at r; exact r.elim
    | ct Γ' x1 => rw [hz] at r; exact r.elim
    | er d Γ' x1 => rw [hz] at r; exact fun cls dd own' σ' H' fz s' q => r cls dd H' s'.gr s'.bx (q.mono (fun _ _ _ e => e) fun _ _ p _ => p.nil)
    | no => rw [hz] at r; exact r.elim
end
/-! ### calls -/
section
variable {X : Cx} {T : Tb} {W : WX} {m : Md} {a b e : Expr} {es : List Expr} {f fa fb : EC} {fs : Gm → M (List Ar)} {pos p : Pos} {c : Cf} {own : Ow} {Γ : Gm} {x x' : Bx} {σ : L2.St} {H H' : Hp} {Q : VK} {y : Str} {vs : List V} {as das : List Ar}
def aNil : Gm → M (List Ar) := fun _ => M.pure []
def aSh (f : EC) (fs : Gm → M (List Ar)) : Gm → M (List Ar) := fun Γ => bnd (f Γ) fun d => bnd (fs Γ) fun ds => M.pure (.sh d :: ds)
def slAr : Sl → Option Ar
  | .sh d => some (.sh d)
  | .bo d => some (.bo d)
  | .ow d => some (.bo d)
  | .no => none
def aVar (i : Nat) (fs : Gm → M (List Ar)) : Gm → M (List Ar) := fun Γ => bnd (opt ((Γ[i]?).bind slAr)) fun d => bnd (fs Γ) fun ds => M.pure (d :: ds)
theorem pa_dnil : PA X [] (EA T W aNil) := pa_nil.mono fun σ H Q ⟨c, own, Γ, x, s, r⟩ => r [] H Grow.refl s.bx .nil
theorem RepA.grow (g : Grow c.b H H') {v : V} {d : Ar} (h : RepA T c.b H (Pp c own) v d) : RepA T c.b H' (Pp c own) v d := by
  cases d with
  | sh d => exact Rep.grow g h
  | bo d => exact RepQ.grow g h
theorem RepAs.grow (g : Grow c.b H H') {vs : List V} {ds : List Ar} (h : Paired (RepA T c.b H (Pp c own)) vs ds) : Paired (RepA T c.b H' (Pp c own)) vs ds := L2.Paired.mapP h fun _ _ r => RepA.grow g r
theorem pa_dsh (ha : PE X e (E T W .fz f)) (hr : PA X es (EA T W fs)) (hs : starEach (e :: es) X.env = (false, eval e X.env) :: starEach es X.env := by rfl) : PA X (e :: es) (EA T W (aSh f fs)) :=
  (pa_cons ha hr hs).mono fun σ H Q ⟨c, own, Γ, x, s, r⟩ => ⟨c, own, Γ, x, s, by
    cases hf : f Γ x with
    | ok d x1 =>
      rw [show aSh f fs Γ x = _ from bnd_ok hf] at r
      refine fun v H1 g bx q => ⟨c, own, Γ, x1, s.grow g bx, ?_⟩
      replace r := r.at g
      cases hg : fs Γ x1 with
      | ok ds x2 =>
        rw [bnd_ok hg] at r
        exact fun vs H2 g2 bx2 q2 => r (v :: vs) H2 g2 bx2 (.cons (Rep.grow g2 q) q2)
      | er d x2 => rw [bnd_er hg] at r; exact r
      | no => rw [bnd_no hg] at r; exact r
    | er d x1 => rw [show aSh f fs Γ x = _ from bnd_er hf] at r; exact r
    | no => rw [show aSh f fs Γ x = _ from bnd_no hf] at r; exact r⟩
theorem pa_dvar (i : Nat) {z : Str} (ha : PE X (.Name z p) (tVar i)) (hr : PA X es (EA T W fs)) (hs : starEach (.Name z p :: es) X.env = (false, eval (.Name z p) X.env) :: starEach es X.env := by rfl) : PA X (.Name z p :: es) (EA T W (aVar i fs)) :=
  (pa_cons ha hr hs).mono fun σ H Q ⟨c, own, Γ, x, s, r⟩ => by
    cases hu : (Γ[i]?).bind slAr with
    | none =>
      rw [show aVar i fs Γ x = .no from bnd_no (by rw [hu]; rfl)] at r
      exact r.elim
    | some ar =>
      rw [show aVar i fs Γ x = _ from bnd_ok (a := ar) (y := x) (by rw [hu]; rfl)] at r
      cases hg : Γ[i]? with
      | none => rw [hg] at hu; cases hu
      | some u =>
        rw [hg] at hu
        have hu' : slAr u = some ar := hu
        have q := s.slot i u hg
        have key : ∃ v, σ[i]? = some (some v) ∧ RepA T c.b H (Pp c own) v ar := by
          cases u with
          | no => cases hu'
          | sh d => obtain ⟨v, e, rp⟩ := q; cases hu'; exact ⟨v, e, rp⟩
          | bo d =>
            obtain ⟨v, e, rp⟩ := q
            cases hu'
            refine ⟨v, e, ?_⟩
            rcases rp with rp | ⟨q, e1, e2, _, e3⟩
            · exact Or.inl rp
            · exact Or.inr ⟨q, e1, e2, e3⟩
          | ow d => obtain ⟨p, e, e2, rp⟩ := q; cases hu'; exact ⟨_, e, Or.inr ⟨p, rfl, s.own_ne e2, rp⟩⟩
        obtain ⟨v, ev, rv⟩ := key
        refine ⟨v, ev, c, own, Γ, x, s, ?_⟩
        cases hg : fs Γ x with
        | ok ds x2 =>
          rw [bnd_ok hg] at r
          exact fun vs H2 g2 bx2 q2 => r (v :: vs) H2 g2 bx2 (.cons (RepA.grow g2 rv) q2)
        | er d x2 => rw [bnd_er hg] at r; exact r
        | no => rw [bnd_no hg] at r; exact r
def eCall (mf : List Ar → M D) (das : List Ar) (fs : Gm → M (List Ar)) : EC := fun Γ => bnd (fs Γ) fun as => mf (as ++ das)
/-- the callee's view -/
theorem call_at {n : Nat} {mf : List Ar → M D} (s : Sat T c own Γ x σ H) (ar : Paired (RepA T c.b H (Pp c own)) vs as) (hl : as.length = n) (r : ERes T W .fz c own σ H Q (mf as x)) : spD T n mf vs H Q (fun cls dd H' => W cls dd σ H') := by
  have k1 : ∀ a, Pp c own a → Pp ⟨c.b, fun a => c.B a ∨ some a ∈ own, H, none⟩ [] a := fun a pa => ⟨fun h => h.elim pa.1 pa.2.2, pa.2.1, fun z => nomatch z⟩
  have k2 : ∀ a, Pp ⟨c.b, fun a => c.B a ∨ some a ∈ own, H, none⟩ [] a → Pp c own a := fun a pa => ⟨fun h => pa.1 (.inl h), pa.2.1, fun h => pa.1 (.inr h)⟩
  refine ⟨⟨c.b, fun a => c.B a ∨ some a ∈ own, H, none⟩, as, x, ⟨rfl, rfl, fun a h => ?_, fun a h => ?_, s.bx, L2.Paired.mapP ar fun v d q => ?_⟩, hl, ?_⟩
  · rcases h with h | h
    · exact s.bd a h
    · obtain ⟨i, hi⟩ := List.getElem?_of_mem h
      exact (s.fresh i a hi).2
  · rw [s.bx a h]; exact fun z => nomatch z
  · cases d with
    | sh d => exact Rep.mono (fun _ _ _ e => e) (fun a _ p _ => k1 a p) q
    | bo d =>
      have q' : RepQ T c.b H (Pp c own) v d := q
      rcases q' with q | ⟨z, e1, e2, e3⟩
      · exact Or.inl (Rep.mono (fun _ _ _ e => e) (fun a _ p _ => k1 a p) q)
      · exact Or.inr ⟨z, e1, e2, e3.mono (fun _ _ _ e => e) (fun a _ p _ => k1 a p) fun _ e => e⟩
  · cases hz : mf as x with
    | ok d x1 => rw [hz] at r; exact fun v H' g bx q => r v H' g bx (Rep.mono (fun _ _ _ e => e) (fun a _ p _ => k2 a p) q)
    | er d x1 => rw [hz] at r; exact fun cls dd H' g bx q => r cls dd H' g bx (q.mono (fun _ _ _ e => e) fun a _ p _ => k2 a p)
    | no => rw [hz] at r; exact r.elim
theorem call_res {mf : List Ar → M D} (s : Sat T c own Γ x σ H) (r : ERes T W .fz c own σ H Q (bnd (fs Γ) (fun as => mf (as ++ das)) x)) :
    ARes T W c own σ H (fun vs H1 => ∃ as x1, Sat T c own Γ x1 σ H1 ∧ Paired (RepA T c.b H1 (Pp c own)) vs as ∧ ERes T W .fz c own σ H1 Q (mf (as ++ das) x1)) (fs Γ x) := by
  cases hf : fs Γ x with
  | ok d x1 => rw [bnd_ok hf] at r; exact fun vs H1 g bx q => ⟨d, x1, s.grow g bx, q, r.at g⟩
  | er d x1 => rw [bnd_er hf] at r; exact r
  | no => rw [bnd_no hf] at r; exact r
theorem ARes.imp {Q Q' : List V → Hp → Prop} {z : R (List Ar)} (r : ARes T W c own σ H Q z) (k : ∀ v H', Q v H' → Q' v H') : ARes T W c own σ H Q' z := by
  cases z with
  | ok d x1 => exact fun v H1 g1 bx q => k _ _ (r v H1 g1 bx q)
  | er d x1 => exact r
  | no => exact r
/-- the defaults -/
def Dfl (T : Tb) (dvs : List V) (das : List Ar) : Prop := ∀ b H P, Paired (RepA T b H P) dvs das
theorem paired_append {α β : Type} {F : α → β → Prop} : ∀ {l1 l2 : List α} {k1 k2 : List β}, Paired F l1 k1 → Paired F l2 k2 → Paired F (l1 ++ l2) (k1 ++ k2)
  | _, _, _, _, .nil, h => h
  | _, _, _, _, .cons a t, h => .cons a (paired_append t h)
/-- a promise, restricted to the right number of arguments -/
def lenOk (n : Nat) (mf : List Ar → M D) : List Ar → M D := fun as => if as.length = n then mf as else M.no
theorem pd_call {k n : Nat} {fA : Addr} {fd : FuncData} {ps : List Str} {mf : List Ar → M D} {ds : List Value} {dvs : List V} (F : FnOk X.prog X.w X.K X.mg X.base (L2.CX X.prog X.w) k fA fd ps (spD T n mf)) (hr : Room k X.A) (hg : Gl X y) (hm : X.mg y = some (.ref fA))
    (hk : PySem.W.keepIn X.K (.ref fA) = true) (hb : Binds X.K fd ps ds) (hd : Vals dvs ds) (hda : Dfl T dvs das) (tk : Takes X W) (ha : PA X (e :: es) (EA T W fs)) (hdb : (y == ("__debug__" : Str)) = false := by decide)
    (he : starEach (e :: es) X.env = (false, eval e X.env) :: starEach es X.env := by rfl) (hpl : (backTo pos (starEach es X.env)).any (·.1) = false := by rfl) :
    PE X (.Call (.Name y p) (e :: es) [] pos) (E T W .fz (eCall (lenOk n mf) das fs)) := (pe_callSD F hr hg hm hk hb hd (fun σ => passAt tk σ) ha hdb he hpl).mono fun σ H Q ⟨c, own, Γ, x, s, r⟩ =>
  ⟨c, own, Γ, x, s, (call_res s r).imp fun vs H1 ⟨as, x1, s1, ar, r1⟩ => by
    unfold lenOk at r1
    by_cases hl : (as ++ das).length = n
    · rw [if_pos hl] at r1
      exact call_at s1 (paired_append ar (hda _ _ _)) hl r1
    · rw [if_neg hl] at r1
      exact r1.elim⟩
end
end DL

namespace DL
open PySem PySem.Spec PyProof.Rows L2
def Md.ar : Md → D → Ar
  | .fz, d => .sh d
  | .tr, d => .bo d
theorem RepM.ar {m : Md} {T : Tb} {b : Option Addr} {H : Hp} {P : Addr → Prop} {v : V} {d : D} (h : RepM m T b H P v d) : RepA T b H P v (m.ar d) := by
  cases m with
  | fz => exact h
  | tr => exact h
theorem RepM.q {m : Md} {T : Tb} {b : Option Addr} {H : Hp} {P : Addr → Prop} {v : V} {d : D} (h : RepM m T b H P v d) : RepQ T b H P v d := by
  cases m with
  | fz => exact .inl h
  | tr => exact h
theorem RepM.grow {m : Md} {T : Tb} {c : Cf} {own : Ow} {H H' : Hp} (g : Grow c.b H H') {v : V} {d : D} (h : RepM m T c.b H (Pp c own) v d) : RepM m T c.b H' (Pp c own) v d := by
  cases m with
  | fz => exact Rep.grow g h
  | tr => exact RepQ.grow g h
theorem RepF.look {T : Tb} {b : Option Addr} {H : Hp} {P : Addr → Prop} {fs : List (Str × V)} {ds : List (Str × D)} (h : RepF T b H P fs ds) (f : Str) : (ds.lookup f = none → fs.lookup f = none) ∧ ∀ d, ds.lookup f = some d → ∃ v, fs.lookup f = some v ∧ Rep T b H P v d := by
  induction ds generalizing fs with
  | nil => cases h; exact ⟨fun _ => rfl, fun d e => nomatch e⟩
  | cons p ds ih => cases h with
    | @cons k v d vs _ h1 h2 =>
      by_cases e : f = k
      · subst e
        refine ⟨fun z => ?_, fun d' z => ?_⟩
        · simp [List.lookup] at z
        · have e2 : d = d' := by simpa [List.lookup] using z
          subst e2
          exact ⟨v, by simp [List.lookup], h1⟩
      · have e' : (f == k) = false := by simpa using e
        obtain ⟨i1, i2⟩ := ih h2
        refine ⟨fun z => ?_, fun d' z => ?_⟩
        · have z' : ds.lookup f = none := by simpa [List.lookup, e'] using z
          simpa [List.lookup, e'] using i1 z'
        · have z' : ds.lookup f = some d' := by simpa [List.lookup, e'] using z
          obtain ⟨v', a1, a2⟩ := i2 d' z'
          exact ⟨v', by simpa [List.lookup, e'] using a1, a2⟩
theorem RepF.length {T : Tb} {b : Option Addr} {H : Hp} {P : Addr → Prop} {fs : List (Str × V)} {ds : List (Str × D)} (h : RepF T b H P fs ds) : fs.length = ds.length := by
  induction ds generalizing fs with
  | nil => cases h; rfl
  | cons p ds ih => cases h with
    | cons h1 h2 => rw [List.length_cons, List.length_cons, ih h2]
def putD (f : Str) (d : D) : List (Str × D) → List (Str × D)
  | [] => [(f, d)]
  | (g, e) :: r => if g == f then (g, d) :: r else (g, e) :: putD f d r
section
variable {X : Cx} {T : Tb} {W : WX} {m : Md} {a b e o : Expr} {es : List Expr} {f fa fb fo : EC} {fs : Gm → M (List Ar)} {pos p apos : Pos} {c : Cf} {own : Ow} {Γ : Gm} {x x' : Bx} {σ : L2.St} {H H' : Hp} {Q : VK} {y mn cn : Str} {vs : List V} {as das : List Ar}
/-! fields -/
def dFld (cn f : Str) : D → Option D
  | .obj c fs => if c = cn then fs.lookup f else none
  | _ => none
def eFld (cn f : Str) (fo : EC) : EC := fun Γ => bnd (fo Γ) fun d => opt (dFld cn f d)
/-- the class has no attribute of this name -/
def FldOk (T : Tb) (cn f : Str) : Prop := ∀ C, T.cls cn = some C → Cls T.K C ∧ NoAttr T.K C f
theorem pd_fld {f : Str} (hK : X.K = T.K) (hf : FldOk T cn f) (he : PE X o (E T W .tr fo)) (hb : attributeBase o f X.env (eval o X.env) = eval o X.env := by rfl) : PE X (.Attribute o f pos) (E T W .fz (eFld cn f fo)) := (pe_fld he hb).mono fun σ H Q h => (e_then (m' := .tr) h).imp fun v H1 ⟨c, own, Γ, x, d, s, q, r⟩ => by
  cases hd : dFld cn f d with
  | none => rw [hd] at r; exact r.elim
  | some z =>
    rw [hd] at r
    cases d with
    | obj c' fs =>
      have hd' : (if c' = cn then fs.lookup f else none) = some z := hd
      by_cases e : c' = cn
      · rw [if_pos e] at hd'
        subst e
        obtain ⟨p, C, dx, gs, e1, e2, e3, e4⟩ := RepQ.obj q
        obtain ⟨v', l1, l2⟩ := (e4.look f).2 z hd'
        obtain ⟨h1, h2⟩ := hf C e2
        exact ⟨p, C, dx, gs, v', e1, e3, by rw [hK]; exact h1, by rw [hK]; exact h2, l1, r v' H1 Grow.refl s.bx l2⟩
      · rw [if_neg e] at hd'
        cases hd'
    | _ => cases hd
/-! methods -/
def tMethS (C : Addr) (m : Str) (sp : Sp) (dvs : List V) (E : L2.St → XK) (ta : TE) (t : TA) : TE := fun σ H Q => ta σ H fun x H1 => ∃ a dx fs, x = .ref a ∧ H1 a = some (.ins C dx fs) ∧ fs.lookup m = none ∧ t σ H1 fun vs H2 => sp (x :: (vs ++ dvs)) H2 Q (E σ)
theorem pe_methS {CX : CXT} {k : Nat} {C fA : Addr} {fd : FuncData} {ps : List Str} {sp : Sp} {ds : List Value} {dvs : List V} {E : L2.St → XK} {ta : TE} {t : TA} {pl : Sem Bool} (he : PE X o ta) (c : Cls X.K C) (hm : Meth X.K C mn fA) (F : FnOk X.prog X.w X.K X.mg X.base CX k fA fd ps sp) (hr : Room k X.A) (hb : Binds X.K fd ps ds) (hd : Vals dvs ds)
    (hx : ∀ σ, PassesAt CX X σ (E σ)) (ha : PA X (e :: es) t) (hst : starEach (e :: es) X.env = (false, eval e X.env) :: starEach es X.env := by rfl) (hpl : (backTo pos (starEach es X.env)).any (·.1) = false := by rfl)
    (ht : eval (.Call (.Attribute o mn apos) (e :: es) [] pos) X.env = (do
      let ov ← eval o X.env
      standAt apos.atName
      let (f, first) ← holding [ov] (getMethod ov mn pl)
      callWith pos f first (backTo pos (starEach (e :: es) X.env)) (backToKw pos (keywordEach [] X.env))) := by rfl) :
    PE X (.Call (.Attribute o mn apos) (e :: es) [] pos) (tMethS C mn sp dvs E ta t) := by
  refine ⟨fun pins s σ H Q I h => ?_⟩
  refine PySem.W.methodCall_KW (pl := pl) (thn (he.run pins s σ H _ I h) fun u s1 ⟨x, H1, I1, rx, a, dx, fs, ex, ea, l, q⟩ => ?_) ht
  subst ex
  obtain rfl : u = Value.ref a := rx
  refine getmeth_ok I1 ea c hm l ?_
  refine PySem.W.callWith_K (first := [.ref a]) (h₀ := X.base) I.ok.mod.kin hm.kp (thn (ha.run pos pins s1 σ H1 _ I1 q) fun us s2 ⟨vs, H2, I2, r, q2⟩ => ⟨I2.kIn, ?_⟩) hst hpl
  exact run_fnSD (us := .ref a :: us) (vs := .ref a :: vs) F hr hb hd (hx σ) I2 (.cons rfl r) q2
theorem pe_meth0S {CX : CXT} {k : Nat} {C fA : Addr} {fd : FuncData} {ps : List Str} {sp : Sp} {ds : List Value} {dvs : List V} {E : L2.St → XK} {ta : TE} {pl : Sem Bool} (he : PE X o ta) (c : Cls X.K C) (hm : Meth X.K C mn fA) (F : FnOk X.prog X.w X.K X.mg X.base CX k fA fd ps sp) (hr : Room k X.A) (hb : Binds X.K fd ps ds) (hd : Vals dvs ds)
    (hx : ∀ σ, PassesAt CX X σ (E σ))
    (ht : eval (.Call (.Attribute o mn apos) [] [] pos) X.env = (do
      let ov ← eval o X.env
      standAt apos.atName
      let (f, first) ← holding [ov] (getMethod ov mn pl)
      callWith pos f first (backTo pos (starEach [] X.env)) (backToKw pos (keywordEach [] X.env))) := by rfl) :
    PE X (.Call (.Attribute o mn apos) [] [] pos) (tMethS C mn sp dvs E ta tNil) := by
  refine ⟨fun pins s σ H Q I h => ?_⟩
  refine PySem.W.methodCall_KW (pl := pl) (thn (he.run pins s σ H _ I h) fun u s1 ⟨x, H1, I1, rx, a, dx, fs, ex, ea, l, q⟩ => ?_) ht
  subst ex
  obtain rfl : u = Value.ref a := rx
  refine getmeth_ok I1 ea c hm l ?_
  exact PySem.W.callWith_K0 (first := [.ref a]) I1.kIn hm.kp (run_fnSD (us := [.ref a]) (vs := [.ref a]) F hr hb hd (hx σ) I1 (.cons rfl .nil) q)
/-- d is an object of the class, without an attribute of this name -/
def isOb (cn mn : Str) : D → Option D
  | .obj c fs => if c = cn ∧ fs.lookup mn = none then some (.obj c fs) else none
  | _ => none
theorem isOb_some {d d' : D} (h : isOb cn mn d = some d') : d' = d ∧ ∃ fs, d = .obj cn fs ∧ fs.lookup mn = none := by
  cases d with
  | obj c fs =>
    have h' : (if c = cn ∧ fs.lookup mn = none then some (D.obj c fs) else none) = some d' := h
    obtain ⟨⟨h1, h2⟩, h3⟩ := ite_some h'
    subst h1
    exact ⟨h3.symm, fs, rfl, h2⟩
  | _ => cases h
def eMeth (m : Md) (cn mn : Str) (mf : List Ar → M D) (das : List Ar) (fo : EC) (fs : Gm → M (List Ar)) : EC := fun Γ => bnd (fo Γ) fun d => bnd (opt (isOb cn mn d)) fun d => bnd (fs Γ) fun as => mf (m.ar d :: (as ++ das))
theorem meth_at {C : Addr} {n : Nat} {mf : List Ar → M D} {dvs : List V} (hC : T.cls cn = some C) (hda : Dfl T dvs das) {v : V} {d : D} (s : Sat T c own Γ x σ H) (q : RepM m T c.b H (Pp c own) v d) (r : ERes T W .fz c own σ H Q (bnd (opt (isOb cn mn d)) (fun d => bnd (fs Γ) fun as => lenOk n mf (m.ar d :: (as ++ das))) x)) :
    ∃ a dx gs, v = .ref a ∧ H a = some (.ins C dx gs) ∧ gs.lookup mn = none ∧ EA T W fs σ H fun vs H2 => spD T n mf (v :: (vs ++ dvs)) H2 Q (WE W σ) := by
  cases hd : isOb cn mn d with
  | none => rw [bnd_no (by rw [hd]; rfl)] at r; exact r.elim
  | some d' =>
    rw [bnd_ok (a := d') (y := x) (by rw [hd]; rfl)] at r
    obtain ⟨rfl, gs0, rfl, hl⟩ := isOb_some hd
    obtain ⟨p, C', dx, gs, e1, e2, e3, e4⟩ := RepQ.obj q.q
    rw [hC] at e2
    cases e2
    refine ⟨p, dx, gs, e1, e3, (e4.look mn).1 hl, c, own, Γ, x, s, ?_⟩
    cases hf : fs Γ x with
    | ok ds x1 =>
      rw [bnd_ok hf] at r
      refine fun vs H1 g bx ar => ?_
      replace r := r.at g
      unfold lenOk at r
      by_cases hn : (m.ar (.obj cn gs0) :: (ds ++ das)).length = n
      · rw [if_pos hn] at r
        exact call_at (s.grow g bx) (.cons (RepM.grow g q).ar (paired_append ar (hda _ _ _))) hn r
      · rw [if_neg hn] at r
        exact r.elim
    | er d x1 => rw [bnd_er hf] at r; exact r
    | no => rw [bnd_no hf] at r; exact r
theorem pd_meth {k n : Nat} {C fA : Addr} {fd : FuncData} {ps : List Str} {mf : List Ar → M D} {ds : List Value} {dvs : List V} {pl : Sem Bool} (hC : T.cls cn = some C) (he : PE X o (E T W m fo)) (c : Cls X.K C) (hm : Meth X.K C mn fA)
    (F : FnOk X.prog X.w X.K X.mg X.base (L2.CX X.prog X.w) k fA fd ps (spD T n mf)) (hr : Room k X.A) (hb : Binds X.K fd ps ds) (hd : Vals dvs ds) (hda : Dfl T dvs das) (tk : Takes X W) (ha : PA X (e :: es) (EA T W fs))
    (hst : starEach (e :: es) X.env = (false, eval e X.env) :: starEach es X.env := by rfl) (hpl : (backTo pos (starEach es X.env)).any (·.1) = false := by rfl)
    (ht : eval (.Call (.Attribute o mn apos) (e :: es) [] pos) X.env = (do
      let ov ← eval o X.env
      standAt apos.atName
      let (f, first) ← holding [ov] (getMethod ov mn pl)
      callWith pos f first (backTo pos (starEach (e :: es) X.env)) (backToKw pos (keywordEach [] X.env))) := by rfl) :
    PE X (.Call (.Attribute o mn apos) (e :: es) [] pos) (E T W .fz (eMeth m cn mn (lenOk n mf) das fo fs)) := (pe_methS he c hm F hr hb hd (fun σ => passAt tk σ) ha hst hpl ht).mono fun σ H Q ⟨c, own, Γ, x, s, r⟩ =>
  ⟨c, own, Γ, x, s, (res_bind (m' := m) s r).imp fun v H1 ⟨d, x1, s1, g, q, r1⟩ => meth_at hC hda s1 q r1⟩
theorem ea_nil {Q : List V → Hp → Prop} (h : EA T W aNil σ H Q) : Q [] H := by
  obtain ⟨c, own, Γ, x, s, r⟩ := h
  exact r [] H Grow.refl s.bx .nil
theorem pd_meth0 {k n : Nat} {C fA : Addr} {fd : FuncData} {ps : List Str} {mf : List Ar → M D} {ds : List Value} {dvs : List V} {pl : Sem Bool} (hC : T.cls cn = some C) (he : PE X o (E T W m fo)) (c : Cls X.K C) (hm : Meth X.K C mn fA)
    (F : FnOk X.prog X.w X.K X.mg X.base (L2.CX X.prog X.w) k fA fd ps (spD T n mf)) (hr : Room k X.A) (hb : Binds X.K fd ps ds) (hd : Vals dvs ds) (hda : Dfl T dvs das) (tk : Takes X W)
    (ht : eval (.Call (.Attribute o mn apos) [] [] pos) X.env = (do
      let ov ← eval o X.env
      standAt apos.atName
      let (f, first) ← holding [ov] (getMethod ov mn pl)
      callWith pos f first (backTo pos (starEach [] X.env)) (backToKw pos (keywordEach [] X.env))) := by rfl) :
    PE X (.Call (.Attribute o mn apos) [] [] pos) (E T W .fz (eMeth m cn mn (lenOk n mf) das fo aNil)) := (pe_meth0S he c hm F hr hb hd (fun σ => passAt tk σ) ht).mono fun σ H Q ⟨c, own, Γ, x, s, r⟩ =>
  ⟨c, own, Γ, x, s, (res_bind (m' := m) s r).imp fun v H1 ⟨d, x1, s1, g, q, r1⟩ => by
    obtain ⟨a, dx, gs, h1, h2, h3, h4⟩ := meth_at hC hda s1 q r1
    exact ⟨a, dx, gs, h1, h2, h3, ea_nil h4⟩⟩
/-! a call without arguments -/
theorem pd_call0 {k n : Nat} {fA : Addr} {fd : FuncData} {ps : List Str} {mf : List Ar → M D} {ds : List Value} {dvs : List V} (F : FnOk X.prog X.w X.K X.mg X.base (L2.CX X.prog X.w) k fA fd ps (spD T n mf)) (hr : Room k X.A) (hg : Gl X y) (hm : X.mg y = some (.ref fA))
    (hk : PySem.W.keepIn X.K (.ref fA) = true) (hb : Binds X.K fd ps ds) (hd : Vals dvs ds) (hda : Dfl T dvs das) (tk : Takes X W) (hdb : (y == ("__debug__" : Str)) = false := by decide) :
    PE X (.Call (.Name y p) [] [] pos) (E T W .fz (eCall (lenOk n mf) das aNil)) := by
  have h : PE X (.Call (.Name y p) [] [] pos) (tCallSD (spD T n mf) dvs (WE W) tNil) := by
    refine ⟨fun pins s σ H Q I h => ?_⟩
    refine wpAny_Call_Name_kw (ld_glob I hg hm ?_ hdb)
    exact PySem.W.callWith_K0 I.kIn hk (run_fnSD (us := []) F hr hb hd (passAt tk σ) I .nil h)
  exact h.mono fun σ H Q ⟨c, own, Γ, x, s, r⟩ => by
    obtain ⟨as, x1, s1, ar, r1⟩ := call_res s r [] H Grow.refl s.bx .nil
    unfold lenOk at r1
    by_cases hl : (as ++ das).length = n
    · rw [if_pos hl] at r1
      exact call_at s1 (paired_append ar (hda _ _ _)) hl r1
    · rw [if_neg hl] at r1
      exact r1.elim
/-! properties -/
abbrev E0' : WX := fun _ _ _ _ => False
def noEr {α : Type} (z : M α) : M α := fun x => match z x with
  | .er _ _ => .no
  | r => r
def eProp (m : Md) (cn : Str) (mf : List Ar → M D) (fo : EC) : EC := fun Γ => bnd (fo Γ) fun d => bnd (opt (match d with | .obj c _ => if c = cn then some d else none | _ => none)) fun d => noEr (mf [m.ar d])
theorem pd_prop {k : Nat} {C pA gA : Addr} {f : Str} {fd : FuncData} {ps : List Str} {mf : List Ar → M D} (hC : T.cls cn = some C) (he : PE X o (E T W m fo)) (c : Cls X.K C) (hp : PropOf X.K C f pA gA)
    (F : FnOk X.prog X.w X.K X.mg X.base (L2.CX X.prog X.w) k gA fd ps (spD T 1 mf)) (hr : Room (k + 1) X.A) (hb : Binds X.K fd ps []) (hab : attributeBase o f X.env (eval o X.env) = eval o X.env := by rfl) :
    PE X (.Attribute o f pos) (E T W .fz (eProp m cn mf fo)) := (pe_prop he c hp F hr hb .nil passL hab).mono fun σ H Q ⟨c, own, Γ, x, s, r⟩ =>
  ⟨c, own, Γ, x, s, (res_bind (m' := m) s r).imp fun v H1 ⟨d, x1, s1, g, q, r1⟩ => by
    cases d with
    | obj c' fs =>
      by_cases e : c' = cn
      · subst e
        rw [bnd_ok (a := D.obj c' fs) (y := x1) (by show opt (if c' = c' then some (D.obj c' fs) else none) x1 = _; rw [if_pos rfl]; rfl)] at r1
        obtain ⟨p, C', dx, gs, e1, e2, e3, e4⟩ := RepQ.obj q.q
        rw [hC] at e2
        cases e2
        refine ⟨p, dx, gs, e1, e3, ?_⟩
        subst e1
        have r2 : ERes T E0' .fz c own σ H1 Q (mf [m.ar (.obj c' fs)] x1) := by
          unfold noEr at r1
          cases hz : mf [m.ar (.obj c' fs)] x1 with
          | ok d x2 => rw [hz] at r1; exact r1
          | er d x2 => rw [hz] at r1; exact r1.elim
          | no => rw [hz] at r1; exact r1
        exact call_at (W := E0') s1 (.cons q.ar .nil) rfl r2
      · rw [bnd_no (by show opt (if c' = cn then some (D.obj c' fs) else none) x1 = _; rw [if_neg e]; rfl)] at r1
        exact r1.elim
    | _ => exact r1.elim⟩
end
end DL

namespace DL
open PySem PySem.Spec PyProof.Rows L2
/-! ### a new object -/
def IRes (T : Tb) (c : Cf) (cn : Str) (p : Addr) (Q : VK) (Ex : XK) : R D → Prop
  | .ok (.obj c' ds) x => c' = cn ∧ ∀ H', Grow c.b c.H0 H' → BoxRel c.b x H' → OwnAt T c.b H' (fun a => Pp c [] a ∧ a ≠ p) p (.obj cn ds) → Q .non H'
  | .ok _ _ => False
  | .er e x => ∀ cls dd H', Grow c.b c.H0 H' → BoxRel c.b x H' → RepE T c.b H' (Pp c []) cls dd e → Ex cls dd H'
  | .no => False
def spI (T : Tb) (cn : Str) (n : Nat) (mi : List Ar → M D) : Sp := fun vs H Q Ex => ∃ c as x p C dx us G, vs = .ref p :: us ∧ T.cls cn = some C ∧ H = upd G p (.ins C dx []) ∧ G p = none ∧ c.me = some p ∧ At T { c with me := none } x us as G ∧ as.length = n ∧ IRes T c cn p Q Ex (mi as x)
def selfOf (cn : Str) (Γ : Gm) : Option D := match Γ[(0 : Nat)]? with
  | some (.ow (.obj c ds)) => if c = cn then some (.obj c ds) else none
  | _ => none
theorem selfOf_some {cn : Str} {Γ : Gm} {d : D} (h : selfOf cn Γ = some d) : ∃ ds, d = .obj cn ds ∧ Γ[0]? = some (.ow (.obj cn ds)) := by
  unfold selfOf at h
  split at h
  · rename_i c ds e
    obtain ⟨h1, h2⟩ := ite_some h
    subst h1
    exact ⟨ds, h2.symm, e⟩
  · cases h
def mInit (L : Nat) (cn : Str) (g : SC) (as : List Ar) : M D := fun x => match g (.ow (.obj cn []) :: (as.map arSl ++ List.replicate (L - (as.length + 1)) .no)) x with
  | .nx Γ x => opt (selfOf cn Γ) x
  | .er e _ x => .er e x
  | _ => .no
theorem At.satI {T : Tb} {c : Cf} {cn : Str} {x : Bx} {us : List V} {as : List Ar} {G : Hp} {p C dx : Addr} (A : At T { c with me := none } x us as G) (hC : T.cls cn = some C) (hp : G p = none) (hme : c.me = some p) (N : List Str) (hn : us.length + 1 ≤ N.length) :
    Sat T c (some p :: List.replicate (N.length - 1) none) (.ow (.obj cn []) :: (as.map arSl ++ List.replicate (N.length - (as.length + 1)) .no)) x (L2.start N (.ref p :: us)) (upd G p (.ins C dx [])) := by
  have hl : us.length = as.length := A.ar.length
  have no : ∀ {i : Nat} {q : Addr}, (some p :: List.replicate (N.length - 1) (none : Option Addr))[i]? = some (some q) → i = 0 ∧ q = p := fun {i q} h => by
    cases i with
    | zero => simp at h; exact ⟨rfl, h.symm⟩
    | succ i =>
      rw [List.getElem?_cons_succ] at h
      have h3 := List.eq_of_mem_replicate (List.mem_of_getElem? h)
      cases h3
  have mem : ∀ {a : Addr}, some a ∈ (some p :: List.replicate (N.length - 1) (none : Option Addr)) → a = p := fun {a} h => by
    rcases List.mem_cons.mp h with h | h
    · exact Option.some.inj h
    · have h3 := List.eq_of_mem_replicate h
      cases h3
  have sm : Same G (upd G p (.ins C dx [])) := Same.upd' hp
  have h0 : c.H0 = G := A.h0
  have bx : BoxRel c.b x G := A.bx
  have pk : ∀ a o, Pp { c with me := none } [] a → G a = some o → Pp c (some p :: List.replicate (N.length - 1) none) a := fun a o pa e => ⟨pa.1, pa.2.1, fun hm => (ne_of_none e hp) (mem hm)⟩
  refine ⟨by unfold L2.start; simp [hl], by simp; omega, by rw [h0]; exact Grow.same sm, bx.same sm, fun a h => ?_, fun i q h => ?_, by rw [h0]; exact A.bb, fun i q h => ?_, fun i j q h h' => ?_, fun q cn' fs h1 h2 => ?_, fun i u h => ?_⟩
  · have h3 := A.bd a h
    cases e : G a with
    | none => exact absurd e h3
    | some o => rw [sm a o e]; exact fun z => nomatch z
  · obtain ⟨_, e2⟩ := no h
    rw [e2]
    exact fun hb => A.bd p hb hp
  · obtain ⟨rfl, rfl⟩ := no h
    exact ⟨by rw [h0]; exact hp, by rw [upd_same]; exact fun z => nomatch z⟩
  · rw [(no h).1, (no h').1]
  · rw [hme] at h1
    cases h1
    rfl
  · cases i with
    | zero =>
      have e : (Sl.ow (.obj cn [])) = u := by simpa using h
      subst e
      refine ⟨p, rfl, rfl, C, dx, [], hC, upd_same, .nil⟩
    | succ i =>
      rw [List.getElem?_cons_succ] at h
      by_cases hi : i < as.length
      · rw [List.getElem?_append_left (by rw [List.length_map]; exact hi), List.getElem?_map] at h
        cases ha : as[i]? with
        | none => rw [ha] at h; cases h
        | some a =>
          rw [ha] at h
          have h' : arSl a = u := by simpa using h
          subst h'
          obtain ⟨v, ev, rv⟩ := paired_get A.ar ha
          have es : (L2.start N (.ref p :: us))[i + 1]? = some (some v) := by
            unfold L2.start
            rw [List.getElem?_append_left (by rw [List.length_map, List.length_cons, hl]; omega), List.getElem?_map, List.getElem?_cons_succ, ev]
            rfl
          cases a with
          | sh d => exact ⟨v, es, Rep.mono (fun a o _ e => sm a o e) pk rv⟩
          | bo d =>
            refine ⟨v, es, ?_⟩
            have rv' : RepQ T c.b G (Pp { c with me := none } []) v d := rv
            rcases rv' with rv | ⟨q, e1, e2, e3⟩
            · exact .inl (Rep.mono (fun a o _ e => sm a o e) pk rv)
            · have nm : c.H0 q ≠ none := by
                rw [h0]
                exact e3.tracked
              exact .inr ⟨q, e1, e2, nm, e3.mono (fun a o _ e => sm a o e) pk fun o e => sm _ _ e⟩
      · rw [List.getElem?_append_right (by rw [List.length_map]; omega)] at h
        have h3 := List.eq_of_mem_replicate (List.mem_of_getElem? h)
        subst h3
        trivial
section
variable {P : Program} {w : World} {K : PySem.W.Frag} {mg : Str → Option Value} {base : Heap} {T : Tb}
/-- THE RULE for an __init__ -/
theorem _root_.L2.Fun.okI {x qual : Str} {st : Stmt} {f : Addr} {fd : FuncData} {N ps : List Str} {k : Nat} {g : SC} {cn : Str} (F : Fun K x qual st f fd) (S : FnScope N ps (defScope st)) (hps0 : 0 < ps.length)
    (hbody : ∀ (cdv : Value) (A : Around) (outer : List Env) (s : Shared) (H : Hp) (E : XK), Room k (A.deeper (envOfC qual (defScope st) s.heap.objs.size f cdv)) →
      PSs (cxOf (L2.CX P w) P w K mg base N qual (defScope st) f cdv A outer s H E) (defBody st) (SS T (fun cls d _ H => E cls d H) g)) : FnOk P w K mg base (L2.CX P w) (k + 1) f fd ps (spI T cn (ps.length - 1) (mInit N.length cn g)) := by
  have hps : ps.length ≤ N.length := by
    have h := S.pre
    have h2 : (N.take ps.length).length = ps.length := by rw [h]
    rw [List.length_take] at h2
    omega
  refine F.okX S (fun vs H Q E h => ?_) (fun cdv A outer s H vs Q E hr h => ?_)
  · obtain ⟨c, as, x, p, C, dx, us, G, rfl, _, _, _, _, A, hl, _⟩ := h
    have hv : us.length = as.length := A.ar.length
    rw [List.length_cons]
    omega
  · refine ⟨_, hbody cdv A outer s H E hr, ?_⟩
    obtain ⟨c, as, x, p, C, dx, us, G, rfl, hC, rfl, hp, hme, A, hl, r⟩ := h
    have hv : us.length = as.length := A.ar.length
    refine ⟨c, _, _, x, A.satI hC hp hme N (by omega), ?_⟩
    unfold mInit at r
    cases hz : g (.ow (.obj cn []) :: (as.map arSl ++ List.replicate (N.length - (as.length + 1)) .no)) x with
    | nx Γ' x1 =>
      rw [hz] at r
      refine fun own' σ' H' fz s' => ?_
      dsimp only at r
      cases hs : selfOf cn Γ' with
      | none => rw [hs] at r; exact r.elim
      | some d =>
        rw [hs] at r
        obtain ⟨ds, rfl, hg⟩ := selfOf_some hs
        obtain ⟨_, r2⟩ := r
        have hm := s'.me p cn ds hme hg
        obtain ⟨q, h1, h2, h3⟩ := s'.slot 0 _ hg
        rw [hm] at h2
        cases h2
        refine r2 H' s'.gr s'.bx (h3.mono (fun _ _ _ e => e) (fun a o pa _ => ⟨pa.nil, fun z => pa.2.2 ?_⟩) fun _ e => e)
        rw [z]
        exact List.mem_of_getElem? hm
    | rt d x1 => rw [hz] at r; exact r.elim
    | bk Γ' x1 => rw [hz] at r; exact r.elim
    | ct Γ' x1 => rw [hz] at r; exact r.elim
    | er d Γ' x1 => rw [hz] at r; exact fun cls dd own' σ' H' fz s' q => r cls dd H' s'.gr s'.bx (q.mono (fun _ _ _ e => e) fun _ _ p _ => p.nil)
    | no => rw [hz] at r; exact r.elim
end
section
variable {X : Cx} {T : Tb} {W : WX} {m : Md} {a b e o : Expr} {es : List Expr} {f fa fb fo : EC} {fs : Gm → M (List Ar)} {pos p apos : Pos} {c : Cf} {own : Ow} {Γ : Gm} {x x' : Bx} {σ : L2.St} {H H' : Hp} {Q : VK} {y mn cn : Str} {vs : List V} {as das : List Ar}
theorem run_makeS {CX : CXT} {k : Nat} {C fA : Addr} {fd : FuncData} {ps : List Str} {sp : Sp} {ds : List Value} {dvs : List V} {E : XK} {pins : List (Addr × Obj)} {s : Shared} {us : List Value} (M : Mk X.K C fA) (F : FnOk X.prog X.w X.K X.mg X.base CX k fA fd ps sp) (hr : Room (k + 1) X.A) (hb : Binds X.K fd ps ds) (hd : Vals dvs ds)
    (hx : PassesAt CX X σ E) (I : Inv X pins σ H s) (r : Vals vs us)
    (h : ∀ x dx, H x = none → H dx = none → dx ≠ x → sp (.ref x :: (vs ++ dvs)) (upd (upd H dx (.own x)) x (.ins C dx [])) (fun v H2 => v = .non ∧ Q (.ref x) H2) E) :
    wpAny (model X.prog X.w) X.A (call (.ref C) us) (EP X pins σ Q) X.xe s := by
  have hq := h (s.heap.objs.size + 1) s.heap.objs.size (I.hok.fresh (Nat.le_succ _)) (I.hok.fresh (Nat.le_refl _)) (Nat.ne_of_lt (Nat.lt_succ_self _))
  have I2 := Inv.made (C := C) I
  have r2 : Vals (V.ref (s.heap.objs.size + 1) :: (vs ++ dvs)) (Value.ref (s.heap.objs.size + 1) :: (us ++ ds)) := .cons rfl (r.append hd)
  have hl : (Value.ref (s.heap.objs.size + 1) :: us ++ ds).length = ps.length := by
    have e := r2.length
    rw [F.len _ _ _ _ hq] at e
    exact e.symm
  refine wpAny_call (make_map (f := fA) I.kIn M.makes M.init (beq_iff_eq.mp M.fn) (codeAny_mono (F.run _ X.stack _ _ ⟨Value.ref (s.heap.objs.size + 1) :: us, []⟩ (Value.ref (s.heap.objs.size + 1) :: (us ++ ds)) _ _ E (hr.make C us [])
    (I2.env0.make C us []) (hb _ (Value.ref (s.heap.objs.size + 1) :: us) I2.kIn hl) r2 hq) fun r s' hq' => ?_))
  cases r with
  | error e => exact hx pins _ _ e s' I2 hq'
  | ok fl =>
    cases fl with
    | ret u =>
      obtain ⟨v, H', I3, rv, ev, q3⟩ := I2.after hq'
      subst ev
      exact ⟨rv, ⟨V.ref (s.heap.objs.size + 1), H', I3, rfl, q3⟩⟩
    | next => exact False.elim hq'
    | brk => exact False.elim hq'
    | cont => exact False.elim hq'
/-- what is left of the making, over trees -/
theorem make_at {C : Addr} {n : Nat} {mi : List Ar → M D} (hC : T.cls cn = some C) (s : Sat T c own Γ x σ H) (ar : Paired (RepA T c.b H (Pp c own)) vs as) (hl : as.length = n) (r : ERes T W .fz c own σ H Q (mi as x)) {p dx : Addr} (np : H p = none) (nd : H dx = none) (ne : dx ≠ p)
    (hob : ∀ d x1, mi as x = .ok d x1 → ∃ ds, d = .obj cn ds) :
    spI T cn n mi (.ref p :: vs) (upd (upd H dx (.own p)) p (.ins C dx [])) (fun v H2 => v = .non ∧ Q (.ref p) H2) (fun cls dd H' => W cls dd σ H') := by
  have sm : Same H (upd H dx (.own p)) := Same.upd' nd
  have k1 : ∀ a, Pp c own a → Pp ⟨c.b, fun a => c.B a ∨ some a ∈ own, upd H dx (.own p), none⟩ [] a := fun a pa => ⟨fun h => h.elim pa.1 pa.2.2, pa.2.1, fun z => nomatch z⟩
  have k2 : ∀ a, Pp ⟨c.b, fun a => c.B a ∨ some a ∈ own, upd H dx (.own p), some p⟩ [] a → Pp c own a := fun a pa => ⟨fun h => pa.1 (.inl h), pa.2.1, fun h => pa.1 (.inr h)⟩
  have tr : ∀ {a}, H a ≠ none → upd H dx (.own p) a ≠ none := fun {a} h => by
    cases e : H a with
    | none => exact absurd e h
    | some o => rw [sm a o e]; exact fun z => nomatch z
  refine ⟨⟨c.b, fun a => c.B a ∨ some a ∈ own, upd H dx (.own p), some p⟩, as, x, p, C, dx, vs, upd H dx (.own p), rfl, hC, rfl, by rw [upd_ne (Ne.symm ne)]; exact np, rfl, ⟨rfl, rfl, fun a h => tr ?_, fun a h => tr ?_, s.bx.same sm, L2.Paired.mapP ar fun v d q => ?_⟩, hl, ?_⟩
  · rcases h with h | h
    · exact s.bd a h
    · obtain ⟨i, hi⟩ := List.getElem?_of_mem h
      exact (s.fresh i a hi).2
  · rw [s.bx a h]; exact fun z => nomatch z
  · cases d with
    | sh d => exact Rep.mono (fun a o _ e => sm a o e) (fun a _ p _ => k1 a p) q
    | bo d =>
      have q' : RepQ T c.b H (Pp c own) v d := q
      rcases q' with q | ⟨z, e1, e2, e3⟩
      · exact Or.inl (Rep.mono (fun a o _ e => sm a o e) (fun a _ p _ => k1 a p) q)
      · exact Or.inr ⟨z, e1, e2, e3.mono (fun a o _ e => sm a o e) (fun a _ p _ => k1 a p) fun o e => sm _ _ e⟩
  · have gr : ∀ {H'}, Grow c.b (upd H dx (.own p)) H' → Grow c.b H H' := fun g => (Grow.same sm).trans g
    cases hz : mi as x with
    | ok d x1 =>
      rw [hz] at r
      obtain ⟨ds, rfl⟩ := hob d x1 hz
      exact ⟨rfl, fun H' g bx q => ⟨rfl, r _ H' (gr g) bx ((q.mono (fun _ _ _ e => e) (fun a _ pa _ => k2 a pa.1) fun _ e => e).rep rfl (s.freshP np))⟩⟩
    | er d x1 => rw [hz] at r; exact fun cls dd H' g bx q => r cls dd H' (gr g) bx (q.mono (fun _ _ _ e => e) fun a _ p _ => k2 a p)
    | no => rw [hz] at r; exact r.elim
theorem mInit_obj {L : Nat} {g : SC} {as : List Ar} {x x1 : Bx} {d : D} {cn : Str} (h : mInit L cn g as x = .ok d x1) : ∃ ds, d = .obj cn ds := by
  unfold mInit at h
  split at h
  · rename_i Γ x2 _
    cases hs : selfOf cn Γ with
    | none => rw [hs] at h; cases h
    | some d' =>
      rw [hs] at h
      obtain ⟨ds, rfl, _⟩ := selfOf_some hs
      cases h
      exact ⟨ds, rfl⟩
  · cases h
  · cases h
/-- C(e, ..) -/
theorem pd_make {k n L : Nat} {C fA : Addr} {fd : FuncData} {ps : List Str} {g : SC} {ds : List Value} {dvs : List V} (hC : T.cls cn = some C) (M : Mk X.K C fA) (F : FnOk X.prog X.w X.K X.mg X.base (L2.CX X.prog X.w) k fA fd ps (spI T cn n (mInit L cn g))) (hr : Room (k + 1) X.A) (hg : Gl X y) (hm : X.mg y = some (.ref C))
    (hb : Binds X.K fd ps ds) (hd : Vals dvs ds) (hda : Dfl T dvs das) (tk : Takes X W) (ha : PA X (e :: es) (EA T W fs)) (hdb : (y == ("__debug__" : Str)) = false := by decide)
    (he : starEach (e :: es) X.env = (false, eval e X.env) :: starEach es X.env := by rfl) (hpl : (backTo pos (starEach es X.env)).any (·.1) = false := by rfl) :
    PE X (.Call (.Name y p) (e :: es) [] pos) (E T W .fz (eCall (lenOk n (mInit L cn g)) das fs)) := by
  refine ⟨fun pins s σ H Q I h => ?_⟩
  obtain ⟨c, own, Γ, x, st, r⟩ := h
  refine wpAny_Call_Name_kw (ld_glob I hg hm ?_ hdb)
  refine PySem.W.callWith_K (h₀ := X.base) I.ok.mod.kin M.kp (thn (ha.run pos pins s σ H _ I ⟨c, own, Γ, x, st, call_res st r⟩) fun us s1 ⟨vs, H1, I1, r1, as, x1, st1, ar, r2⟩ => ⟨I1.kIn, ?_⟩) he hpl
  unfold lenOk at r2
  by_cases hl : (as ++ das).length = n
  · rw [if_pos hl] at r2
    exact run_makeS M F hr hb hd (passAt tk σ) I1 r1 fun q dx nq nd ne => make_at hC st1 (paired_append ar (hda _ _ _)) hl r2 nq nd ne fun d x1 h => mInit_obj h
  · rw [if_neg hl] at r2
    exact r2.elim
/-- C() -/
theorem pd_make0 {k n L : Nat} {C fA : Addr} {fd : FuncData} {ps : List Str} {g : SC} {ds : List Value} {dvs : List V} (hC : T.cls cn = some C) (M : Mk X.K C fA) (F : FnOk X.prog X.w X.K X.mg X.base (L2.CX X.prog X.w) k fA fd ps (spI T cn n (mInit L cn g))) (hr : Room (k + 1) X.A) (hg : Gl X y) (hm : X.mg y = some (.ref C))
    (hb : Binds X.K fd ps ds) (hd : Vals dvs ds) (hda : Dfl T dvs das) (tk : Takes X W) (hdb : (y == ("__debug__" : Str)) = false := by decide) :
    PE X (.Call (.Name y p) [] [] pos) (E T W .fz (eCall (lenOk n (mInit L cn g)) das aNil)) := by
  refine ⟨fun pins s σ H Q I h => ?_⟩
  obtain ⟨c, own, Γ, x, st, r⟩ := h
  refine wpAny_Call_Name_kw (ld_glob I hg hm ?_ hdb)
  obtain ⟨as, x1, st1, ar, r2⟩ := call_res st r [] H Grow.refl st.bx .nil
  unfold lenOk at r2
  by_cases hl : (as ++ das).length = n
  · rw [if_pos hl] at r2
    exact PySem.W.callWith_K0 I.kIn M.kp (run_makeS (us := []) M F hr hb hd (passAt tk σ) I .nil fun q dx nq nd ne => make_at hC st1 (paired_append ar (hda _ _ _)) hl r2 nq nd ne fun d x1 h => mInit_obj h)
  · rw [if_neg hl] at r2
    exact r2.elim
/-! self.f = e -/
theorem RepF.put {T : Tb} {b : Option Addr} {H : Hp} {P : Addr → Prop} {fs : List (Str × V)} {ds : List (Str × D)} (h : RepF T b H P fs ds) (f : Str) {v : V} {d : D} (r : Rep T b H P v d) : RepF T b H P (putF f v fs) (putD f d ds) := by
  induction ds generalizing fs with
  | nil => cases h; exact .cons r .nil
  | cons p ds ih => cases h with
    | @cons k u d0 us _ h1 h2 =>
      by_cases e : k = f
      · subst e
        unfold putF putD
        rw [if_pos rfl, if_pos (by simp)]
        exact .cons r h2
      · unfold putF putD
        rw [if_neg e, if_neg (by simpa using e)]
        exact .cons h1 (ih h2)
def sFld (i : Nat) (cn f : Str) (fe : EC) : SC := sE fe fun d Γ x => match Γ[i]? with
  | some (.ow (.obj c fs)) => if c = cn ∧ fs.length < 900 then .nx (Γ.set i (.ow (.obj c (putD f d fs)))) x else .no
  | _ => .no
theorem ps_dfld {i : Nat} {z f : Str} {fe : EC} {p1 p2 : Pos} (hK : X.K = T.K) (hf : FldOk T cn f) (ho : PE X (.Name z p1) (tVar i)) (hv : PE X e (E T W .fz fe)) (hs : swapsWith e (some (.Attribute (.Name z p1) f p2)) pos.line X.env = pure false := by rfl) :
    PS X (.Assign [.Attribute (.Name z p1) f p2] e pos) (SS T W (sFld i cn f fe)) := (ps_fld ho hv hs).mono fun D σ H ⟨c, own, Γ, x, s, r⟩ =>
  ⟨c, own, Γ, x, s, (SRes.bindD (m := .fz) s r).imp fun v H1 ⟨d, x1, s1, g, q, r1⟩ => by
    split at r1
    · rename_i c' fs hg
      by_cases hc : c' = cn ∧ fs.length < 900
      · rw [if_pos hc] at r1
        obtain ⟨rfl, hl⟩ := hc
        obtain ⟨p, e1, e2, C, dx, gs, h0, h1, h2⟩ := s1.slot i _ hg
        obtain ⟨k1, k2⟩ := hf C h0
        have hn := s1.own_ne e2
        have hmem : some p ∈ own := List.mem_of_getElem? e2
        have keep : ∀ a o, Pp c own a → H1 a = some o → upd H1 p (.ins C dx (putF f v gs)) a = some o := fun a o pa e => by
          have hne : a ≠ p := fun z => pa.2.2 (by rw [z]; exact hmem)
          rw [upd_ne hne]
          exact e
        obtain ⟨s2, fz⟩ := s1.change (d' := .obj c' (putD f d fs)) (o := .ins C dx (putF f v gs)) hg e1 e2 ⟨C, dx, _, h0, upd_same, (h2.put f q).mono keep fun _ _ p _ => p⟩ (fun cn' fs' h => by cases h; exact ⟨fs, rfl⟩)
        exact ⟨_, e1, p, C, dx, gs, rfl, h1, by rw [hK]; exact k1, by rw [hK]; exact k2, by rw [h2.length]; omega, r1 own _ _ fz s2⟩
      · rw [if_neg hc] at r1
        exact r1.elim
    · exact r1.elim⟩
end
end DL

namespace DL
open PySem PySem.Spec PyProof.Rows L2
/-! ### what is walked -/
/-- from H, where P is what is frozen, to H', where P' is -/
structure Keep (b : Option Addr) (own : Ow) (P : Addr → Prop) (H : Hp) (P' : Addr → Prop) (H' : Hp) : Prop where
  k1 : ∀ a o, P a → H a = some o → H' a = some o
  k2 : ∀ a o, P a → H a = some o → P' a
  k3 : ∀ a o, some a ∉ own → b ≠ some a → H a = some o → H' a = some o
  k4 : ∀ p, H' p = none → P' p
def IRep (T : Tb) (c : Cf) (own : Ow) (H : Hp) (J : It) (ds : List D) : Prop := ∀ P' H', Keep c.b own (Pp c own) H P' H' →
  (∀ i d, ds[i]? = some d → J.go i H' ∧ ∀ x H2, J.yld i H' x H2 → Same H' H2 ∧ Rep T c.b H2 P' x d) ∧ J.stop ds.length H'
def WRes (T : Tb) (W : WX) (c : Cf) (own : Ow) (σ : L2.St) (H : Hp) (Q : It → Hp → Prop) : R (List D) → Prop
  | .ok ds x => ∀ J H', Grow c.b H H' → BoxRel c.b x H' → IRep T c own H' J ds → Q J H'
  | .er e x => ∀ cls dd H', Grow c.b H H' → BoxRel c.b x H' → RepE T c.b H' (Pp c own) cls dd e → W cls dd σ H'
  | .no => False
def IT (T : Tb) (W : WX) (f : AC) : TI := fun σ H Q => ∃ c own Γ x, Sat T c own Γ x σ H ∧ WRes T W c own σ H Q (f Γ x)
section
variable {X : Cx} {T : Tb} {W : WX} {m : Md} {a b e l tg : Expr} {es : List Expr} {f fa fb fl : EC} {fi : AC} {fs : Gm → M (List Ar)} {pos p apos : Pos} {c : Cf} {own own' : Ow} {Γ : Gm} {x x' : Bx} {σ : L2.St} {H H' : Hp} {Q : VK} {y : Str} {vs : List V} {ds : List D} {g : SC} {tf : TC} {P' : Addr → Prop}
theorem _root_.L2.PI.mono {t t' : TI} (h : PI X tg e t) (k : ∀ σ H Q, t' σ H Q → t σ H Q) : PI X tg e t' := ⟨fun pins s σ H R I q => h.run pins s σ H R I (k σ H R q)⟩
theorem _root_.L2.PI.or {t t' : TI} (h : PI X tg e t) (h' : PI X tg e t') : PI X tg e (fun σ H R => t σ H R ∨ t' σ H R) := ⟨fun pins s σ H R I q => q.elim (h.run pins s σ H R I) (h'.run pins s σ H R I)⟩
theorem WRes.at {z : R (List D)} {Q : It → Hp → Prop} (g : Grow c.b H H') (r : WRes T W c own σ H Q z) : WRes T W c own σ H' Q z := by
  cases z with
  | ok d x => exact fun v H2 g2 bx q => r v H2 (g.trans g2) bx q
  | er d x => exact fun cl dd H2 g2 bx q => r cl dd H2 (g.trans g2) bx q
  | no => exact r
theorem WRes.bindD {z : M D} {k : D → M (List D)} {Q : It → Hp → Prop} {m' : Md} (s : Sat T c own Γ x σ H) (r : WRes T W c own σ H Q (bnd z k x)) :
    ERes T W m' c own σ H (fun v H1 => ∃ d x1, Sat T c own Γ x1 σ H1 ∧ Grow c.b H H1 ∧ RepM m' T c.b H1 (Pp c own) v d ∧ WRes T W c own σ H1 Q (k d x1)) (z x) := by
  cases hf : z x with
  | ok d x1 => rw [bnd_ok hf] at r; exact fun v H1 g bx q => ⟨d, x1, s.grow g bx, g, q, r.at g⟩
  | er d x1 => rw [bnd_er hf] at r; exact r
  | no => rw [bnd_no hf] at r; exact r
/-- a list that isn't changed meanwhile -/
def isL (own : Ow) (b : Option Addr) (H : Hp) (P : Addr → Prop) (p : Addr) : Prop := (some p ∉ own ∧ b ≠ some p) ∨ P p
theorem irep_list {q : Addr} (h : H q = some (.lst vs)) (n1 : some q ∉ own) (n2 : c.b ≠ some q) (r : RepL T c.b H (Pp c own) vs ds) : IRep T c own H (Itl T.K q) ds := fun P' H' k => by
  have h1 := k.k3 q _ n1 n2 h
  have r1 := r.mono k.k1 k.k2
  refine ⟨fun i d e => ?_, ⟨vs, .inl (.inl h1), by rw [r.length]; exact Nat.le_refl _⟩⟩
  obtain ⟨v, ev, rv⟩ := r1.get e
  refine ⟨⟨vs, v, .inl (.inl h1), ev⟩, fun x H2 hy => ?_⟩
  obtain ⟨e1, hy⟩ := hy
  subst e1
  have e2 := hy vs (.inl (.inl h1))
  rw [ev] at e2
  cases e2
  exact ⟨Same.refl _, rv⟩
theorem irep_tup {q : Addr} (h : (H q = some (.tup vs) ∧ Pp c own q) ∨ KTup T.K q vs) (r : RepL T c.b H (Pp c own) vs ds) : IRep T c own H (Itt T.K q) ds := fun P' H' k => by
  have h1 : SqT T.K H' q vs := by
    rcases h with ⟨h, hp⟩ | h
    · exact .inl (.inl (k.k1 q _ hp h))
    · exact .inr h
  have r1 := r.mono k.k1 k.k2
  refine ⟨fun i d e => ?_, ⟨vs, h1, by rw [r.length]; exact Nat.le_refl _⟩⟩
  obtain ⟨v, ev, rv⟩ := r1.get e
  refine ⟨⟨vs, v, h1, ev⟩, fun x H2 hy => ?_⟩
  obtain ⟨e1, hy⟩ := hy
  subst e1
  have e2 := hy vs h1
  rw [ev] at e2
  cases e2
  exact ⟨Same.refl _, rv⟩
def signs (z : Str) : List D := z.cps.toList.map fun c => .str ⟨#[c]⟩
theorem irep_str {z : Str} : IRep T c own H (Its z) (signs z) := fun P' H' k => by
  refine ⟨fun i d e => ?_, by show z.cps.size ≤ (signs z).length; unfold signs; simp⟩
  unfold signs at e
  rw [List.getElem?_map] at e
  cases hc : z.cps.toList[i]? with
  | none => rw [hc] at e; cases e
  | some ch =>
    rw [hc] at e
    cases e
    have hc' : z.cps[i]? = some ch := by simpa using hc
    refine ⟨(Array.getElem?_eq_some_iff.mp hc').1, fun x H2 hy => ?_⟩
    obtain ⟨e1, ch2, h1, h2⟩ := hy
    subst e1 h2
    rw [hc'] at h1
    cases h1
    exact ⟨Same.refl _, .str _⟩
/-- a key as a value -/
def kD : Key → D
  | .inl i => .int i
  | .inr z => .str z
theorem rep_kD {b : Option Addr} {P : Addr → Prop} (k : Key) : Rep T b H P (kV k) (kD k) := by
  cases k with
  | inl i => exact .int i
  | inr z => exact .str z
theorem RepK.length {b : Option Addr} {P : Addr → Prop} {kvs : List (Key × V)} {ds : List (Key × D)} (h : RepK T b H P kvs ds) : kvs.length = ds.length := by
  induction ds generalizing kvs with
  | nil => cases h; rfl
  | cons d ds ih => cases h with
    | cons h1 h2 => rw [List.length_cons, List.length_cons, ih h2]
theorem RepK.keys {b : Option Addr} {P : Addr → Prop} {kvs : List (Key × V)} {ds : List (Key × D)} (h : RepK T b H P kvs ds) : kvs.map (·.1) = ds.map (·.1) := by
  induction ds generalizing kvs with
  | nil => cases h; rfl
  | cons d ds ih => cases h with
    | cons h1 h2 => rw [List.map_cons, List.map_cons, ih h2]
theorem irep_keys {q : Addr} {o : Obj} {kvs : List (Key × V)} {ds : List (Key × D)} (h : H q = some (.frz o (.dK kvs))) (hp : Pp c own q) (r : RepK T c.b H (Pp c own) kvs ds) : IRep T c own H (Itk q o kvs) (ds.map fun kv => kD kv.1) := fun P' H' k => by
  have h1 := k.k1 q _ hp h
  have hl := r.length
  have hk := r.keys
  refine ⟨fun i d e => ?_, ⟨h1, by rw [List.length_map, hl]; exact Nat.le_refl _⟩⟩
  have hi : i < kvs.length := by
    have := (List.getElem?_eq_some_iff.mp e).1
    rw [List.length_map] at this
    omega
  refine ⟨⟨h1, hi⟩, fun x H2 hy => ?_⟩
  obtain ⟨rfl, k1, v1, e1, rfl⟩ := hy
  have e2 : (ds.map (·.1))[i]? = some k1 := by rw [← hk, List.getElem?_map, e1]; rfl
  rw [List.getElem?_map] at e2 e
  cases hz : ds[i]? with
  | none => rw [hz] at e; cases e
  | some z =>
    rw [hz] at e e2
    cases e
    cases e2
    exact ⟨Same.refl _, rep_kD _⟩
/-- the items of a list, a tuple, a text, the keys of a dict -/
def items : D → Option (List D)
  | .dic kvs => some (kvs.map fun kv => kD kv.1)
  | .lst ds => some ds
  | .tup ds => some ds
  | .str z => some (signs z)
  | _ => none
def iSeq (f : EC) : AC := fun Γ => bnd (f Γ) fun d => opt (items d)
/-- frozen, or borrowed: not one that this def changes -/
def eVarI (i : Nat) : EC := fun Γ => match Γ[i]? with
  | some (.sh d) => M.pure d
  | some (.bo d) => if isDic d = true then M.no else M.pure d
  | _ => M.no
/-- what a walked value must be -/
def RepI (T : Tb) (b : Option Addr) (own : Ow) (H : Hp) (P : Addr → Prop) (v : V) (d : D) : Prop := Rep T b H P v d ∨ (isDic d = false ∧ ∃ q, v = .ref q ∧ b ≠ some q ∧ some q ∉ own ∧ OwnAt T b H P q d)
def EI (T : Tb) (W : WX) (f : EC) : TE := fun σ H Q => ∃ c own Γ x, Sat T c own Γ x σ H ∧ match f Γ x with
  | .ok d x => ∀ v H', Grow c.b H H' → BoxRel c.b x H' → RepI T c.b own H' (Pp c own) v d → Q v H'
  | .er e x => ∀ cls dd H', Grow c.b H H' → BoxRel c.b x H' → RepE T c.b H' (Pp c own) cls dd e → W cls dd σ H'
  | .no => False
theorem pi_of (h : PE X e (E T W .fz f)) : PE X e (EI T W f) := h.mono fun σ H Q ⟨c, own, Γ, x, s, r⟩ => ⟨c, own, Γ, x, s, by
  cases hf : f Γ x with
  | ok d x' => rw [hf] at r; exact fun v H' g bx q => r v H' g bx (.inl q)
  | er d x' => rw [hf] at r; exact r
  | no => rw [hf] at r; exact r⟩
theorem pi_var {z : Str} (i : Nat) (h : PE X (.Name z pos) (tVar i)) : PE X (.Name z pos) (EI T W (eVarI i)) := h.mono fun σ H Q ⟨c, own, Γ, y, s, r⟩ => by
  unfold eVarI at r
  cases hf : Γ[i]? with
  | none => rw [hf] at r; exact r.elim
  | some u =>
    rw [hf] at r
    have q := s.slot i u hf
    cases u with
    | sh d => obtain ⟨v, e, rp⟩ := q; exact ⟨v, e, r v H Grow.refl s.bx (.inl rp)⟩
    | bo d =>
      obtain ⟨v, e, rp⟩ := q
      by_cases hd : isDic d = true
      · simp only [hd, if_true] at r; exact r.elim
      simp only [hd] at r
      refine ⟨v, e, r v H Grow.refl s.bx ?_⟩
      rcases rp with rp | ⟨q, e1, e2, e3, e4⟩
      · exact .inl rp
      · refine .inr ⟨by simpa using hd, q, e1, e2, fun hm => ?_, e4⟩
        obtain ⟨j, hj⟩ := List.getElem?_of_mem hm
        exact e3 (s.fresh j q hj).1
    | _ => exact r.elim
theorem wres_items {v : V} {d : D} {Q : It → Hp → Prop} (s : Sat T c own Γ x σ H) (q : RepI T c.b own H (Pp c own) v d) (r : WRes T W c own σ H Q (opt (items d) x)) :
    (∃ a, v = .ref a ∧ (∃ xs, SqL T.K H a xs) ∧ Q (Itl T.K a) H) ∨ (∃ a, v = .ref a ∧ (∃ xs, SqT T.K H a xs) ∧ Q (Itt T.K a) H) ∨ (∃ z, v = .str z ∧ Q (Its z) H) ∨ ∃ kvs, d = .dic kvs := by
  cases d with
  | dic kvs => exact .inr (.inr (.inr ⟨kvs, rfl⟩))
  | lst ds =>
    have key : ∃ p vs, v = .ref p ∧ H p = some (.lst vs) ∧ some p ∉ own ∧ c.b ≠ some p ∧ RepL T c.b H (Pp c own) vs ds := by
      rcases q with q | ⟨_, p, e, n1, n2, vs, h1, h2⟩
      · cases q with
        | lst h1 h2 h3 => exact ⟨_, _, rfl, h2, h1.2.2, h1.2.1, h3⟩
      · exact ⟨p, vs, e, h1, n2, n1, h2⟩
    obtain ⟨p, vs, rfl, h1, h2, h3, h4⟩ := key
    exact .inl ⟨p, rfl, ⟨vs, .inl (.inl h1)⟩, r _ H Grow.refl s.bx (irep_list h1 h2 h3 h4)⟩
  | tup ds =>
    rcases q with q | ⟨hd, p, e, n1, n2, h⟩
    · cases q with
      | tup h1 h2 h3 => exact .inr (.inl ⟨_, rfl, ⟨_, .inl (.inl h2)⟩, r _ H Grow.refl s.bx (irep_tup (.inl ⟨h2, h1⟩) h3)⟩)
      | tupK h1 h2 => exact .inr (.inl ⟨_, rfl, ⟨_, .inr h1⟩, r _ H Grow.refl s.bx (irep_tup (.inr h1) h2)⟩)
    · exact h.elim
  | str z =>
    rcases q with q | ⟨hd, p, e, n1, n2, h⟩
    · cases q
      exact .inr (.inr (.inl ⟨z, rfl, r _ H Grow.refl s.bx irep_str⟩))
    · exact h.elim
  | _ => exact r.elim
theorem pi_seq (hK : X.K = T.K) (h : PE X l (EI T W fl)) : PI X tg l (IT T W (iSeq fl)) := ((pi_list h).or ((pi_tup h).or ((pi_str h).or (pi_keys h)))).mono fun σ H Q ⟨c, own, Γ, x, s, r⟩ => by
  rw [hK]
  cases hf : fl Γ x with
  | no => rw [show iSeq fl Γ x = _ from bnd_no hf] at r; exact r.elim
  | er e x1 => rw [show iSeq fl Γ x = _ from bnd_er hf] at r; exact .inl ⟨c, own, Γ, x, s, by rw [hf]; exact r⟩
  | ok d x1 =>
    rw [show iSeq fl Γ x = _ from bnd_ok hf] at r
    have key : ∀ v H1, Grow c.b H H1 → BoxRel c.b x1 H1 → RepI T c.b own H1 (Pp c own) v d → _ := fun v H1 g bx q => wres_items (s.grow g bx) q (r.at g)
    cases d with
    | lst ds => exact .inl ⟨c, own, Γ, x, s, by
        rw [hf]
        exact fun v H1 g bx q => (by
          rcases key v H1 g bx q with h | ⟨a, e, ⟨xs, h1⟩, h2⟩ | ⟨z, e, _⟩ | ⟨_, z⟩
          · exact h
          · subst e
            rcases q with q | ⟨hd, p, e, n1, n2, h⟩
            · cases q with
              | lst q1 q2 q3 => exact ⟨_, rfl, ⟨_, .inl (.inl q2)⟩, (r.at g) _ H1 Grow.refl bx (irep_list q2 q1.2.2 q1.2.1 q3)⟩
            · cases e
              obtain ⟨vs, q1, q2⟩ := h
              exact ⟨_, rfl, ⟨_, .inl (.inl q1)⟩, (r.at g) _ H1 Grow.refl bx (irep_list q1 n2 n1 q2)⟩
          · subst e
            rcases q with q | ⟨hd, p, e, n1, n2, h⟩
            · cases q
            · cases e
          · cases z)⟩
    | tup ds => exact .inr (.inl ⟨c, own, Γ, x, s, by
        rw [hf]
        exact fun v H1 g bx q => (by
          rcases q with q | ⟨hd, p, e, n1, n2, h⟩
          · cases q with
            | tup h1 h2 h3 => exact ⟨_, rfl, ⟨_, .inl (.inl h2)⟩, (r.at g) _ H1 Grow.refl bx (irep_tup (.inl ⟨h2, h1⟩) h3)⟩
            | tupK h1 h2 => exact ⟨_, rfl, ⟨_, .inr h1⟩, (r.at g) _ H1 Grow.refl bx (irep_tup (.inr h1) h2)⟩
          · exact h.elim)⟩)
    | str z => exact .inr (.inr (.inl ⟨c, own, Γ, x, s, by
        rw [hf]
        exact fun v H1 g bx q => (by
          rcases q with q | ⟨hd, p, e, n1, n2, h⟩
          · cases q
            exact ⟨z, rfl, (r.at g) _ H1 Grow.refl bx irep_str⟩
          · exact h.elim)⟩))
    | dic kvs => exact .inr (.inr (.inr ⟨c, own, Γ, x, s, by
        rw [hf]
        exact fun v H1 g bx q => (by
          rcases q with q | ⟨hd, p, e, n1, n2, h⟩
          · cases q with
            | dic h1 h2 h3 => exact ⟨_, _, rfl, .inl ⟨_, h2, (r.at g) _ H1 Grow.refl bx (irep_keys h2 h1 h3)⟩⟩
          · cases hd)⟩))
    | _ => exact r.elim
end
end DL

namespace DL
open PySem PySem.Spec PyProof.Rows L2
section
variable {X : Cx} {T : Tb} {W : WX} {m : Md} {a b e l tg : Expr} {es : List Expr} {f fa fb fl : EC} {fi : AC} {fs : Gm → M (List Ar)} {pos p apos : Pos} {c : Cf} {own own' : Ow} {Γ : Gm} {x x' : Bx} {σ : L2.St} {H H' : Hp} {Q : VK} {y : Str} {vs : List V} {ds : List D} {g : SC} {tf : TC} {P' : Addr → Prop}
/-! range(n), range(a, b) -/
def rangeD (lo hi : Int) : List D := (List.range (hi - lo).toNat).map fun (i : Nat) => .int (lo + i)
theorem irep_range {lo : Int} {n : Nat} : IRep T c own H (Itr lo n) ((List.range n).map fun (i : Nat) => .int (lo + i)) := fun P' H' k => by
  refine ⟨fun i d e => ?_, by show n ≤ _; simp⟩
  rw [List.getElem?_map] at e
  by_cases hi : i < n
  · rw [List.getElem?_range hi] at e
    cases e
    refine ⟨hi, fun x H2 hy => ?_⟩
    obtain ⟨e1, e2⟩ := hy
    subst e1 e2
    exact ⟨Same.refl _, .int _⟩
  · rw [List.getElem?_eq_none (by simpa using hi)] at e
    cases e
def rng1 : List D → Option (List D)
  | [.int j] => if -(2 ^ 62) ≤ j ∧ j < 2 ^ 62 then some (rangeD 0 j) else none
  | _ => none
def rng2 : List D → Option (List D)
  | [.int i, .int j] => if -(2 ^ 62) ≤ i ∧ i < 2 ^ 62 ∧ -(2 ^ 62) ≤ j ∧ j < 2 ^ 62 then some (rangeD i j) else none
  | _ => none
def iRange1 (fs : AC) : AC := fun Γ => bnd (fs Γ) fun ds => opt (rng1 ds)
def iRange2 (fs : AC) : AC := fun Γ => bnd (fs Γ) fun ds => opt (rng2 ds)
theorem pi_drange1 {fs : AC} {n : Nat} (hg : Gl X "range") (hm : X.mg "range" = none) (ha : PA X [a] (EL T W n fs)) (hs : starEach [a] X.env = [(false, eval a X.env)] := by rfl) : PI X tg (.Call (.Name "range" p) [a] [] pos) (IT T W (iRange1 fs)) :=
  (pi_range1 hg hm ha hs).mono fun σ H Q ⟨c, own, Γ, x, s, r⟩ => ⟨c, own, Γ, x, s, by
    cases hf : fs Γ x with
    | no => rw [show iRange1 fs Γ x = _ from bnd_no hf] at r; exact r
    | er e x1 => rw [show iRange1 fs Γ x = _ from bnd_er hf] at r; exact r
    | ok ds x1 =>
      rw [show iRange1 fs Γ x = _ from bnd_ok hf] at r
      refine fun vs H1 g bx q _ => ?_
      replace r := r.at g
      cases hz : rng1 ds with
      | none => rw [hz] at r; exact r.elim
      | some zs =>
        rw [hz] at r
        unfold rng1 at hz
        split at hz
        · rename_i j
          obtain ⟨⟨h1, h2⟩, h3⟩ := ite_some hz
          subst h3
          cases q with
          | cons q1 q2 =>
            cases q1
            cases q2
            refine ⟨j, rfl, h1, h2, r _ H1 Grow.refl bx ?_⟩
            unfold rangeD
            rw [Int.sub_zero]
            exact irep_range
        · cases hz⟩
theorem pi_drange2 {fs : AC} {n : Nat} (hg : Gl X "range") (hm : X.mg "range" = none) (ha : PA X [a, b] (EL T W n fs)) (hs : starEach [a, b] X.env = [(false, eval a X.env), (false, eval b X.env)] := by rfl) (hs2 : starEach [b] X.env = [(false, eval b X.env)] := by rfl) :
    PI X tg (.Call (.Name "range" p) [a, b] [] pos) (IT T W (iRange2 fs)) :=
  (pi_range2 hg hm ha hs hs2).mono fun σ H Q ⟨c, own, Γ, x, s, r⟩ => ⟨c, own, Γ, x, s, by
    cases hf : fs Γ x with
    | no => rw [show iRange2 fs Γ x = _ from bnd_no hf] at r; exact r
    | er e x1 => rw [show iRange2 fs Γ x = _ from bnd_er hf] at r; exact r
    | ok ds x1 =>
      rw [show iRange2 fs Γ x = _ from bnd_ok hf] at r
      refine fun vs H1 g bx q _ => ?_
      replace r := r.at g
      cases hz : rng2 ds with
      | none => rw [hz] at r; exact r.elim
      | some zs =>
        rw [hz] at r
        unfold rng2 at hz
        split at hz
        · rename_i i j
          obtain ⟨h1, h3⟩ := ite_some hz
          subst h3
          cases q with
          | cons q1 q2 =>
            cases q1
            cases q2 with
            | cons q2 q3 =>
              cases q2
              cases q3
              exact ⟨i, j, rfl, h1, r _ H1 Grow.refl bx irep_range⟩
        · cases hz⟩
/-! enumerate(list) -/
def enumD (ds : List D) : List D := (List.range ds.length).map fun (i : Nat) => .tup [.int (i : Nat), ds.getD i .non]
theorem irep_enum {q : Addr} (h : H q = some (.lst vs)) (n1 : some q ∉ own) (n2 : c.b ≠ some q) (r : RepL T c.b H (Pp c own) vs ds) : IRep T c own H (Ite T.K q) (enumD ds) := fun P' H' k => by
  have h1 := k.k3 q _ n1 n2 h
  have r1 := r.mono k.k1 k.k2
  refine ⟨fun i d e => ?_, ⟨vs, .inl (.inl h1), by unfold enumD; rw [r.length]; simp⟩⟩
  unfold enumD at e
  rw [List.getElem?_map] at e
  by_cases hi : i < ds.length
  · rw [List.getElem?_range hi] at e
    cases e
    obtain ⟨v, ev, rv⟩ := r1.get (List.getElem?_eq_getElem hi)
    refine ⟨⟨vs, v, .inl (.inl h1), ev⟩, fun x H2 hy => ?_⟩
    obtain ⟨t, z, e1, e2, e3, hy⟩ := hy
    subst e1 e3
    have e4 := hy vs (.inl (.inl h1))
    rw [ev] at e4
    cases e4
    refine ⟨Same.upd' e2, .tup (k.k4 t e2) upd_same (.cons (.int _) (.cons ?_ .nil))⟩
    rw [List.getD_eq_getElem?_getD, List.getElem?_eq_getElem hi]
    exact rv.same (Same.upd' e2)
  · rw [List.getElem?_eq_none (by simpa using hi)] at e
    cases e
def EIA (T : Tb) (W : WX) (f : EC) : TA := fun σ H Q => EI T W f σ H fun v H' => Q [v] H'
theorem pa_i1 (h : PE X e (EI T W f)) (hs : starEach [e] X.env = (false, eval e X.env) :: starEach [] X.env := by rfl) : PA X [e] (EIA T W f) := (pa_cons h pa_nil hs).mono fun σ H Q ⟨c, own, Γ, x, s, r⟩ => ⟨c, own, Γ, x, s, r⟩
def lsD : D → Option (List D)
  | .lst ds => some ds
  | _ => none
def iEnumC (f : EC) : AC := fun Γ => bnd (f Γ) fun d => opt ((lsD d).map enumD)
theorem pi_denum {tpos : Pos} {elts : List Expr} {kk : Nat} (hK : X.K = T.K) (hg : Gl X "enumerate") (hm : X.mg "enumerate" = none) (ha : PE X e (EI T W f)) (hs : starEach [e] X.env = [(false, eval e X.env)] := by rfl) :
    PI X (.Tuple elts kk tpos) (.Call (.Name "enumerate" p) [e] [] pos) (IT T W (iEnumC f)) := (pi_enum hg hm (pa_i1 ha hs) hs).mono fun σ H Q ⟨c, own, Γ, x, s, r⟩ => ⟨c, own, Γ, x, s, by
  rw [hK]
  cases hf : f Γ x with
  | no => rw [show iEnumC f Γ x = _ from bnd_no hf] at r; exact r
  | er e x1 => rw [show iEnumC f Γ x = _ from bnd_er hf] at r; exact r
  | ok d x1 =>
    rw [show iEnumC f Γ x = _ from bnd_ok hf] at r
    refine fun v H1 g bx q => ?_
    replace r := r.at g
    cases d with
    | lst ds =>
      rcases q with q | ⟨_, p, e, n1, n2, vs, h1, h2⟩
      · cases q with
        | lst h1 h2 h3 => exact ⟨_, _, rfl, .inl (.inl h2), r _ H1 Grow.refl bx (irep_enum h2 h1.2.2 h1.2.1 h3)⟩
      · subst e
        exact ⟨_, _, rfl, .inl (.inl h1), r _ H1 Grow.refl bx (irep_enum h1 n2 n1 h2)⟩
    | _ => exact r.elim⟩
/-! ### targets -/
abbrev GC := D → Gm → Option Gm
def GT (T : Tb) (is : List Nat) (tgt : GC) : TG := fun v σ H Q => ∃ c own Γ x d Γ', Sat T c own Γ x σ H ∧ Rep T c.b H (Pp c own) v d ∧ tgt d Γ = some Γ' ∧ ∀ σ', σ'.length = σ.length → (∀ j, j ∉ is → σ'[j]? = σ[j]?) → Sat T c own Γ' x σ' H → Q σ' H
def GTs (T : Tb) (is : List Nat) (tgt : List D → Gm → Option Gm) : TGs := fun vs σ H Q => ∃ c own Γ x ds Γ', Sat T c own Γ x σ H ∧ RepL T c.b H (Pp c own) vs ds ∧ tgt ds Γ = some Γ' ∧ ∀ σ', σ'.length = σ.length → (∀ j, j ∉ is → σ'[j]? = σ[j]?) → Sat T c own Γ' x σ' H → Q σ' H
theorem _root_.L2.PG.mono {t t' : TG} (h : PG X tg t) (k : ∀ v σ H Q, t' v σ H Q → t v σ H Q) : PG X tg t' := ⟨fun pins s σ H v u Q I r q => h.run pins s σ H v u Q I r (k v σ H Q q)⟩
theorem _root_.L2.PGs.mono {tgs : List Expr} {t t' : TGs} (h : PGs X tgs t) (k : ∀ v σ H Q, t' v σ H Q → t v σ H Q) : PGs X tgs t' := ⟨fun pins s σ H vs us Q I r q => h.run pins s σ H vs us Q I r (k vs σ H Q q)⟩
def gN (i : Nat) : GC := fun d Γ => some (Γ.set i (.sh d))
theorem pg_dname {i : Nat} {z : Str} (hN : X.N.Nodup) (hi : X.N[i]? = some z) (hx : Loc X.env.scope z) (hf : X.fn z = true ∨ X.env.scope.names.lookup z = some .local := by first | exact .inl rfl | exact .inr rfl | assumption) : PG X (.Name z pos) (GT T [i] (gN i)) :=
  (pg_name hN hi hx hf).mono fun v σ H Q ⟨c, own, Γ, x, d, Γ', s, r, e, k⟩ => by
    cases e
    refine k _ (by rw [List.length_set]) (fun j hj => ?_) (s.set i r)
    rw [List.getElem?_set_ne (fun z => hj (by rw [z]; exact List.mem_cons_self))]
def gsN : List D → Gm → Option Gm
  | [], Γ => some Γ
  | _, _ => none
def gsC (t : GC) (ts : List D → Gm → Option Gm) : List D → Gm → Option Gm
  | d :: ds, Γ => (t d Γ).bind (ts ds)
  | [], _ => none
theorem pgs_dnil : PGs X [] (GTs T [] gsN) := pgs_nil.mono fun vs σ H Q ⟨c, own, Γ, x, ds, Γ', s, r, e, k⟩ => by
  cases ds with
  | nil =>
    cases e
    cases r
    exact ⟨rfl, k σ rfl (fun _ _ => rfl) s⟩
  | cons d ds => cases e
theorem pgs_dcons {t : GC} {ts : List D → Gm → Option Gm} {is js : List Nat} (h1 : PG X e (GT T is t)) (h2 : PGs X es (GTs T js ts)) (hs : (assignEach (e :: es) X.env).map (·.2) = assign e X.env :: (assignEach es X.env).map (·.2) := by rfl) : PGs X (e :: es) (GTs T (is ++ js) (gsC t ts)) := (pgs_cons h1 h2 hs).mono fun vs σ H Q ⟨c, own, Γ, x, ds, Γ', s, r, e, k⟩ => by
  cases ds with
  | nil => cases e
  | cons d ds =>
    have e' : (t d Γ).bind (ts ds) = some Γ' := e
    cases ht : t d Γ with
    | none => rw [ht] at e'; cases e'
    | some Γ1 =>
      rw [ht] at e'
      cases r with
      | cons r1 r2 =>
        refine ⟨_, _, rfl, c, own, Γ, x, d, Γ1, s, r1, ht, fun σ1 l1 j1 s1 => ⟨c, own, Γ1, x, ds, Γ', s1, r2, e', fun σ2 l2 j2 s2 => k σ2 (l2.trans l1) (fun j hj => ?_) s2⟩⟩
        rw [j2 j fun z => hj (List.mem_append_right _ z), j1 j fun z => hj (List.mem_append_left _ z)]
def gT (n : Nat) (ts : List D → Gm → Option Gm) : GC := fun d Γ => match d with
  | .tup ds => if ds.length = n then ts ds Γ else none
  | _ => none
theorem pg_dtup {k n : Nat} {is : List Nat} {ts : List D → Gm → Option Gm} (hK : X.K = T.K) (hc : X.calm = true) (h : PGs X es (GTs T is ts)) (hn : (assignEach es X.env).length = n := by rfl) (hst : (assignEach es X.env).findIdx? (·.1) = none := by rfl) : PG X (.Tuple es k pos) (GT T is (gT n ts)) :=
  (pg_tup hc h hn hst).mono fun v σ H Q ⟨c, own, Γ, x, d, Γ', s, r, e, k⟩ => by
    cases d with
    | tup ds =>
      obtain ⟨p, vs, e1, e2, e3⟩ := RepQ.tup (.inl r)
      have e' : (if ds.length = n then ts ds Γ else none) = some Γ' := e
      by_cases hl : ds.length = n
      · rw [if_pos hl] at e'
        exact ⟨p, vs, e1, by rw [hK]; exact e2, by rw [e3.length]; exact hl, c, own, Γ, x, ds, Γ', s, e3, e', k⟩
      · rw [if_neg hl] at e'
        cases e'
    | _ => cases e
/-- target = e -/
def sAsgG (t : GC) (f : EC) : SC := sE f fun d Γ x => match t d Γ with
  | some Γ' => .nx Γ' x
  | none => .no
theorem ps_dasg {t : GC} {is : List Nat} (he : PE X e (E T W .fz f)) (hg : PG X tg (GT T is t)) (hs : swapsWithSole [tg] e pos.line X.env = pure false := by rfl) (hw : swappedStores [tg] e X.env = pure none := by rfl) (h1 : (assignEach [tg] X.env).map (·.2) = [assign tg X.env] := by rfl) : PS X (.Assign [tg] e pos) (SS T W (sAsgG t f)) :=
  (ps_asg he hg hs hw h1).mono fun D σ H ⟨c, own, Γ, x, s, r⟩ => ⟨c, own, Γ, x, s, (SRes.bindD (m := .fz) s r).imp fun v H1 ⟨d, x1, s1, g, q, r1⟩ => by
    cases ht : t d Γ with
    | none => rw [ht] at r1; exact r1.elim
    | some Γ' => rw [ht] at r1; exact ⟨c, own, Γ, x1, d, Γ', s1, q, ht, fun σ' _ _ s2 => r1 own σ' H1 Fz.refl s2⟩⟩
/-! ### for -/
def forGo (t : GC) (g : SC) : List D → SC
  | [], Γ, x => .nx Γ x
  | d :: ds, Γ, x => match t d Γ with
    | none => .no
    | some Γ1 => match g Γ1 x with
      | .nx Γ2 x2 => forGo t g ds Γ2 x2
      | .ct Γ2 x2 => forGo t g ds Γ2 x2
      | .bk Γ2 x2 => .nx Γ2 x2
      | r => r
def sFor (fi : AC) (t : GC) (g : SC) : SC := fun Γ x => match fi Γ x with
  | .ok ds x' => forGo t g ds Γ x'
  | .er e x' => .er e Γ x'
  | .no => .no
theorem Fz.keep {H1 : Hp} (fz : Fz c.b own H own' H1) (s : Sat T c own' Γ x σ H1) : Keep c.b own (Pp c own) H (Pp c own') H1 :=
  ⟨fun a o p e => (fz a o p.2.2 p.2.1 e).1, fun a o p e => ⟨p.1, p.2.1, (fz a o p.2.2 p.2.1 e).2⟩, fun a o h1 h2 e => (fz a o h1 h2 e).1, fun p n => s.freshP n⟩
theorem for_ok {De : Ends} {J : It} {t : GC} {is : List Nat} (hJ : IRep T c own H J ds) (s0 : Sat T c own Γ x σ H) (r0 : SRes T W c own H De (forGo t g ds Γ x)) :
    ∃ Wv : Nat → Nat → L2.St → Hp → Prop, (∃ m, Wv 0 m σ H) ∧ ∀ i m σ H, Wv i m σ H →
      (J.stop i H ∧ De.nx σ H) ∨ (J.go i H ∧ ∃ N : L2.St → Hp → Prop, (∀ σ' H', N σ' H' → ∃ m', m' < m ∧ Wv (i + 1) m' σ' H') ∧ ∀ x H', J.yld i H x H' → GT T is t x σ H' fun σ2 H2 => SS T W g { De with nx := N, ct := N, bk := De.nx } σ2 H2) := by
  refine ⟨fun i m σ' H' => m = ds.length - i ∧ i ≤ ds.length ∧ ∃ own' Γ' x', Fz c.b own H own' H' ∧ Sat T c own' Γ' x' σ' H' ∧ SRes T W c own' H' De (forGo t g (ds.drop i) Γ' x'), ⟨ds.length, rfl, Nat.zero_le _, own, Γ, x, Fz.refl, s0, r0⟩, ?_⟩
  rintro i m σ' H' ⟨rfl, hi, own', Γ', x', fz, s, r⟩
  obtain ⟨k1, k2⟩ := hJ _ _ (fz.keep s)
  by_cases hlt : i < ds.length
  · rw [List.drop_eq_getElem_cons hlt] at r
    obtain ⟨g1, g2⟩ := k1 i ds[i] (List.getElem?_eq_getElem hlt)
    have r' : SRes T W c own' H' De (match t ds[i] Γ' with
      | none => .no
      | some Γ1 => match g Γ1 x' with
        | .nx Γ2 x2 => forGo t g (ds.drop (i + 1)) Γ2 x2
        | .ct Γ2 x2 => forGo t g (ds.drop (i + 1)) Γ2 x2
        | .bk Γ2 x2 => .nx Γ2 x2
        | r => r) := r
    cases ht : t ds[i] Γ' with
    | none => rw [ht] at r'; exact r'.elim
    | some Γ1 =>
      rw [ht] at r'
      dsimp only at r'
      refine .inr ⟨g1, fun σ2 H2 => ∃ own2 Γ2 x2, Fz c.b own H own2 H2 ∧ Sat T c own2 Γ2 x2 σ2 H2 ∧ SRes T W c own2 H2 De (forGo t g (ds.drop (i + 1)) Γ2 x2), fun σ2 H2 h => ⟨ds.length - (i + 1), by omega, rfl, hlt, h⟩, fun v H2 hy => ?_⟩
      obtain ⟨sm, rv⟩ := g2 v H2 hy
      have sg : Grow c.b H' H2 := Grow.same sm
      have s2 := s.grow sg (s.bx.same sm)
      have fz2 : Fz c.b own' H' own' H2 := Fz.grow sg
      refine ⟨c, own', Γ', x', ds[i], Γ1, s2, rv, ht, fun σ3 _ _ s3 => ⟨c, own', Γ1, x', s3, ?_⟩⟩
      replace r' := r'.at fz2
      cases hg : g Γ1 x' with
      | nx Γ2 x2 => rw [hg] at r'; exact fun own3 σ4 H4 fz4 s4 => ⟨own3, Γ2, x2, (fz.trans fz2).trans fz4, s4, r'.at fz4⟩
      | ct Γ2 x2 => rw [hg] at r'; exact fun own3 σ4 H4 fz4 s4 => ⟨own3, Γ2, x2, (fz.trans fz2).trans fz4, s4, r'.at fz4⟩
      | bk Γ2 x2 => rw [hg] at r'; exact r'
      | rt d x2 => rw [hg] at r'; exact r'
      | er d Γ2 x2 => rw [hg] at r'; exact r'
      | no => rw [hg] at r'; exact r'
  · have e : i = ds.length := by omega
    subst e
    rw [List.drop_length] at r
    exact .inl ⟨k2, r own' σ' H' Fz.refl s⟩
theorem ps_dfor {iter : Expr} {body : List Stmt} {t : GC} {is : List Nat} (hp : PassesOwn (model X.prog X.w) X.A X.env X.xe) (hc : X.calm = true) (hi : PI X tg iter (IT T W fi)) (hg : PG X tg (GT T is t)) (hb : PSs X body (SS T W g))
    (hs : ∀ x, foldedSetIterable iter X.env x = pure x := by intro _; rfl) : PS X (.For tg iter body [] pos) (SS T W (sFor fi t g)) :=
  (ps_for hp hc hi hg hb hs).mono fun D σ H ⟨c, own, Γ, x, s, r⟩ => ⟨c, own, Γ, x, s, by
    unfold sFor at r
    cases hf : fi Γ x with
    | ok ds x1 => rw [hf] at r; exact fun J H1 g1 bx hJ => for_ok hJ (s.grow g1 bx) (r.at (Fz.grow g1))
    | er e x1 => rw [hf] at r; exact fun cls dd H1 g1 bx q => r cls dd own σ H1 (Fz.grow g1) (s.grow g1 bx) q
    | no => rw [hf] at r; exact r⟩
/-! ### while, with so many turns at most -/
def whGo (t : TC) (g : SC) : Nat → SC
  | 0, _, _ => .no
  | n + 1, Γ, x => sT t (fun k Γ x => if k = true then match g Γ x with
      | .nx Γ2 x2 => whGo t g n Γ2 x2
      | .ct Γ2 x2 => whGo t g n Γ2 x2
      | .bk Γ2 x2 => .nx Γ2 x2
      | r => r
    else .nx Γ x) Γ x
theorem ps_dwhile {cn : Expr} {body : List Stmt} (n : Nat) (hp : PassesOwn (model X.prog X.w) X.A X.env X.xe) (hc : PT X cn (ET T W tf)) (hb : PSs X body (SS T W g)) : PS X (.While cn body [] pos) (SS T W (whGo tf g n)) :=
  (ps_while hp hc hb).mono fun D σ H ⟨c, own, Γ, x, s, r⟩ => by
    refine ⟨fun m σ' H' => ∃ own' Γ' x', Fz c.b own H own' H' ∧ Sat T c own' Γ' x' σ' H' ∧ SRes T W c own' H' D (whGo tf g m Γ' x'), ⟨n, own, Γ, x, Fz.refl, s, r⟩, ?_⟩
    rintro m σ' H' ⟨own', Γ', x', fz, s, r⟩
    cases m with
    | zero => exact r.elim
    | succ m =>
      refine ⟨c, own', Γ', x', s, (SRes.bindT s r).imp fun k H1 ⟨x1, s1, g1, r1⟩ => ?_⟩
      cases k with
      | false => exact r1 own' σ' H1 Fz.refl s1
      | true =>
        have fz1 : Fz c.b own' H' own' H1 := Fz.grow g1
        refine ⟨fun σ2 H2 => ∃ own2 Γ2 x2, Fz c.b own H own2 H2 ∧ Sat T c own2 Γ2 x2 σ2 H2 ∧ SRes T W c own2 H2 D (whGo tf g m Γ2 x2), fun σ2 H2 h => ⟨m, Nat.lt_succ_self _, h⟩, c, own', Γ', x1, s1, ?_⟩
        rw [if_pos rfl] at r1
        cases hg : g Γ' x1 with
        | nx Γ2 x2 => rw [hg] at r1; exact fun own3 σ4 H4 fz4 s4 => ⟨own3, Γ2, x2, (fz.trans fz1).trans fz4, s4, r1.at fz4⟩
        | ct Γ2 x2 => rw [hg] at r1; exact fun own3 σ4 H4 fz4 s4 => ⟨own3, Γ2, x2, (fz.trans fz1).trans fz4, s4, r1.at fz4⟩
        | bk Γ2 x2 => rw [hg] at r1; exact r1
        | rt d x2 => rw [hg] at r1; exact r1
        | er d Γ2 x2 => rw [hg] at r1; exact r1
        | no => rw [hg] at r1; exact r1
end
end DL

namespace DL
open PySem PySem.Spec PyProof.Rows L2
/-! ### comprehensions -/
def lend : Sl → Sl
  | .ow d => .bo d
  | s => s
def wipeG (Γ : Gm) : List Nat → Gm
  | [] => Γ.map lend
  | v :: vs => (wipeG Γ vs).set v .no
def lcGo (t : GC) (tst : TC) (fe : EC) (Γ : Gm) : List D → M (List D)
  | [] => M.pure []
  | d :: ds => fun x => match t d Γ with
    | none => .no
    | some Γ1 => bnd (noEr (tst Γ1)) (fun k => if k = true then bnd (noEr (fe Γ1)) fun y => bnd (lcGo t tst fe Γ ds) fun ys => M.pure (y :: ys) else lcGo t tst fe Γ ds) x
def eLc (fi : AC) (t : GC) (tst : TC) (fe : EC) (vs : List Nat) : EC := fun Γ => bnd (fi Γ) fun ds => if ds.length ≤ 100000 then bnd (lcGo t tst fe (wipeG Γ vs) ds) fun ys => M.pure (.lst ys) else M.no
def tYesC : TC := fun _ => M.pure true
section
variable {X : Cx} {T : Tb} {W : WX} {m : Md} {a b e l tg : Expr} {es : List Expr} {f fa fb fl fe : EC} {fi : AC} {fs : Gm → M (List Ar)} {pos p apos : Pos} {c : Cf} {own own' : Ow} {Γ : Gm} {x x' : Bx} {σ : L2.St} {H H' : Hp} {Q : VK} {y : Str} {vs : List V} {ds : List D} {g : SC} {tf : TC} {P' : Addr → Prop}
theorem wipeG_length (Γ : Gm) : ∀ vs : List Nat, (wipeG Γ vs).length = Γ.length
  | [] => by unfold wipeG; rw [List.length_map]
  | v :: vs => by unfold wipeG; rw [List.length_set, wipeG_length Γ vs]
/-- the inner view -/
def cIn (c : Cf) (own : Ow) (H : Hp) (Dl : Addr) : Cf := ⟨c.b, fun a => c.B a ∨ some a ∈ own ∨ a = Dl, H, none⟩
abbrev noO (n : Nat) : Ow := List.replicate n none
theorem noO_mem {n : Nat} {a : Addr} (h : some a ∈ noO n) : False := by
  have h3 := List.eq_of_mem_replicate h
  cases h3
theorem noO_get {n i : Nat} {a : Addr} (h : (noO n)[i]? = some (some a)) : False := noO_mem (List.mem_of_getElem? h)
theorem cIn_P {Dl : Addr} {n : Nat} {H0 : Hp} : ∀ a, Pp (cIn c own H0 Dl) (noO n) a ↔ (Pp c own a ∧ a ≠ Dl) := fun a =>
  ⟨fun h => ⟨⟨fun z => h.1 (.inl z), h.2.1, fun z => h.1 (.inr (.inl z))⟩, fun z => h.1 (.inr (.inr z))⟩, fun h => ⟨fun z => z.elim h.1.1 fun z => z.elim h.1.2.2 h.2, h.1.2.1, fun z => noO_mem z⟩⟩
/-- a slot within the block -/
theorem slot_lend {u : Sl} {sv : Option (Option V)} {o : Option (Option Addr)} {Dl : Addr} {o' : HO} {H1 : Hp} (hD : H Dl = none) (q : SlotOk T c.b H (Pp c own) H1 sv o u) (ho : ∀ p, o = some (some p) → c.b ≠ some p) :
    SlotOk T c.b (upd H Dl o') (Pp (cIn c own H Dl) (noO Γ.length)) H sv none (lend u) := by
  have sm : Same H (upd H Dl o') := Same.upd' hD
  have pk : ∀ a o, Pp c own a → H a = some o → Pp (cIn c own H Dl) (noO Γ.length) a := fun a o pa e => (cIn_P a).mpr ⟨pa, ne_of_none e hD⟩
  cases u with
  | no => trivial
  | sh d => obtain ⟨v, e, r⟩ := q; exact ⟨v, e, r.mono (fun a o _ e => sm a o e) pk⟩
  | bo d =>
    obtain ⟨v, e, r⟩ := q
    refine ⟨v, e, ?_⟩
    rcases r with r | ⟨q, e1, e2, e3, e4⟩
    · exact .inl (r.mono (fun a o _ e => sm a o e) pk)
    · exact .inr ⟨q, e1, e2, e4.tracked, e4.mono (fun a o _ e => sm a o e) pk fun o e => sm _ _ e⟩
  | ow d =>
    obtain ⟨p, e1, e2, e3⟩ := q
    exact ⟨_, e1, .inr ⟨p, rfl, ho p e2, e3.tracked, e3.mono (fun a o _ e => sm a o e) pk fun o e => sm _ _ e⟩⟩
theorem SlotOk.any_own {u : Sl} {sv : Option (Option V)} {o o' : Option (Option Addr)} {H1 : Hp} (q : SlotOk T c.b H P' H1 sv o (lend u)) : SlotOk T c.b H P' H1 sv o' (lend u) := by
  cases u with
  | no => trivial
  | sh d => exact q
  | bo d => exact q
  | ow d => exact q
theorem Sat.block (s : Sat T c own Γ x σ H) {Dl : Addr} (hD : H Dl = none) : ∀ vs : List Nat, Sat T (cIn c own H Dl) (noO Γ.length) (wipeG Γ vs) x (wipe σ vs) (upd H Dl (.lst []))
  | [] => by
    have sm : Same H (upd H Dl (.lst [])) := Same.upd' hD
    refine ⟨by unfold wipe wipeG; rw [List.length_map]; exact s.l1, by unfold wipeG; simp, Grow.same sm, s.bx.same sm, fun a h => ?_, fun i p h => (noO_get h).elim, fun a h => ?_, fun i p h => (noO_get h).elim, fun i j p h => (noO_get h).elim, fun p cn fs h => (nomatch h), fun i u h => ?_⟩
    · rcases h with h | h | h
      · have h3 := s.bd a h
        cases e : H a with
        | none => exact absurd e h3
        | some o => rw [sm a o e]; exact fun z => nomatch z
      · obtain ⟨i, hi⟩ := List.getElem?_of_mem h
        have h3 := (s.fresh i a hi).2
        cases e : H a with
        | none => exact absurd e h3
        | some o => rw [sm a o e]; exact fun z => nomatch z
      · rw [h, upd_same]; exact fun z => nomatch z
    · have h' : c.b = some a := h
      show H a ≠ none
      rw [s.bx a h']; exact fun z => nomatch z
    · unfold wipeG at h
      rw [List.getElem?_map] at h
      cases hg : Γ[i]? with
      | none => rw [hg] at h; cases h
      | some u0 =>
        rw [hg] at h
        have h' : lend u0 = u := by simpa using h
        subst h'
        exact SlotOk.any_own (slot_lend (Γ := Γ) (o' := .lst []) hD (s.slot i u0 hg) (fun p h => s.own_ne h))
  | v :: vs => by
    have ih := s.block hD vs
    refine ⟨by unfold wipe wipeG; rw [List.length_set, List.length_set]; exact ih.l1, by unfold wipeG; rw [List.length_set]; exact ih.l2, ih.gr, ih.bx, ih.bd, ih.ob, ih.bb, ih.fresh, ih.nodup, fun p cn fs h => (nomatch h), fun i u h => ?_⟩
    unfold wipeG at h
    unfold wipe
    by_cases hi : v = i
    · subst hi
      have hlt := (List.getElem?_eq_some_iff.mp h).1
      rw [List.length_set] at hlt
      rw [List.getElem?_set_self hlt] at h
      cases h
      trivial
    · rw [List.getElem?_set_ne hi] at h
      rw [List.getElem?_set_ne hi]
      exact ih.slot i u h
theorem wipe_eq {σ σ' : L2.St} (hl : σ'.length = σ.length) : ∀ {vs : List Nat}, (∀ j, j ∉ vs → σ'[j]? = (wipe σ vs)[j]?) → wipe σ' vs = wipe σ vs := fun {vs} h => by
  apply List.ext_getElem?
  intro j
  by_cases hj : j ∈ vs
  · have key : ∀ (τ : L2.St) (ws : List Nat), j ∈ ws → (wipe τ ws)[j]? = if j < τ.length then some none else none := fun τ ws => by
      induction ws with
      | nil => intro z; cases z
      | cons w ws ih =>
        intro z
        unfold wipe
        by_cases hw : w = j
        · subst hw
          by_cases hlt : w < τ.length
          · rw [if_pos hlt, List.getElem?_set_self (by rw [wipe_length]; exact hlt)]
          · rw [if_neg hlt, List.getElem?_eq_none (by rw [List.length_set, wipe_length]; omega)]
        · rw [List.getElem?_set_ne hw]
          exact ih ((List.mem_cons.mp z).resolve_left fun e => hw e.symm)
    rw [key σ' vs hj, key σ vs hj, hl]
  · rw [wipe_out hj]
    exact h j hj
/-- the turns of a comprehension -/
theorem lc_ok {J : It} {t : GC} {is : List Nat} {vs : List Nat} {Dl : Addr} {H0 : Hp} {x0 : Bx} (hD : H Dl = none) (hJ : IRep T c own H J ds) (s0 : Sat T c own Γ x σ H) (hs : ∀ j ∈ is, j ∈ vs) (hl : ds.length ≤ 100000)
    (fin : ∀ H' ys x', bnd (lcGo t tf fe (wipeG Γ vs) ds) (fun ys => M.pure (D.lst ys)) x = .ok (.lst ys) x' → Grow c.b H H' → BoxRel c.b x' H' → OwnAt T c.b H' (PN c own Dl) Dl (.lst ys) → Q (.ref Dl) H') (hno : ∀ e x', lcGo t tf fe (wipeG Γ vs) ds x ≠ .er e x') (hno2 : lcGo t tf fe (wipeG Γ vs) ds x ≠ .no) :
    ∃ Wv : Nat → Nat → Hp → Prop, (∃ m, Wv 0 m (upd H Dl (.lst []))) ∧ ∀ i m H, Wv i m H →
      (J.stop i H ∧ Q (.ref Dl) H) ∨ (J.go i H ∧ ∃ Nx : Hp → Prop, (∀ H', Nx H' → ∃ m', m' < m ∧ Wv (i + 1) m' H') ∧ ∀ z H', J.yld i H z H' → GT T is t z (wipe σ vs) H' fun σ2 H2 => wipe σ2 vs = wipe σ vs ∧ ET T E0' tf σ2 H2 fun k H3 =>
        if k = true then E T E0' .fz fe σ2 H3 fun y H4 => ∃ acc, H4 Dl = some (.lst acc) ∧ acc.length < sizeLine ∧ Nx (upd H4 Dl (.lst (acc ++ [y]))) else Nx H3) := by
  have sB := s0.block hD vs
  -- between two turns
  let Inv : Nat → Hp → Prop := fun i H' => ∃ x' acc as, Sat T (cIn c own H Dl) (noO Γ.length) (wipeG Γ vs) x' (wipe σ vs) H' ∧ H' Dl = some (.lst acc) ∧ acc.length ≤ i ∧ RepL T c.b H' (Pp (cIn c own H Dl) (noO Γ.length)) acc as ∧
    ∃ ys x2, lcGo t tf fe (wipeG Γ vs) (ds.drop i) x' = .ok ys x2 ∧ lcGo t tf fe (wipeG Γ vs) ds x = .ok (as ++ ys) x2
  have h0 : Inv 0 (upd H Dl (.lst [])) := by
    cases hz : lcGo t tf fe (wipeG Γ vs) ds x with
    | er e x' => exact absurd hz (hno e x')
    | no => exact absurd hz hno2
    | ok ys x2 => exact ⟨x, [], [], sB, upd_same, Nat.le_refl _, .nil, ys, x2, hz, hz⟩
  have keep : ∀ {H'} {x'}, Sat T (cIn c own H Dl) (noO Γ.length) (wipeG Γ vs) x' (wipe σ vs) H' → Keep c.b own (Pp c own) H (Pp (cIn c own H Dl) (noO Γ.length)) H' := fun s => by
    have g : Grow c.b H _ := s.gr
    exact ⟨fun a o pa e => g a o pa.2.1 e, fun a o pa e => (cIn_P a).mpr ⟨pa, ne_of_none e hD⟩, fun a o h1 h2 e => g a o h2 e, fun p n => s.freshP n⟩
  refine ⟨fun i m H' => m = ds.length - i ∧ i ≤ ds.length ∧ Inv i H', ⟨ds.length, rfl, Nat.zero_le _, h0⟩, ?_⟩
  rintro i m H' ⟨rfl, hi, x', acc, as, s, eD, la, ra, ys, x2, e1, e2⟩
  obtain ⟨k1, k2⟩ := hJ _ _ (keep s)
  by_cases hlt : i < ds.length
  · rw [List.drop_eq_getElem_cons hlt] at e1
    obtain ⟨g1, g2⟩ := k1 i ds[i] (List.getElem?_eq_getElem hlt)
    have e1' : (match t ds[i] (wipeG Γ vs) with
      | none => R.no
      | some Γ1 => bnd (noEr (tf Γ1)) (fun k => if k = true then bnd (noEr (fe Γ1)) fun y => bnd (lcGo t tf fe (wipeG Γ vs) (ds.drop (i + 1))) fun ys => M.pure (y :: ys) else lcGo t tf fe (wipeG Γ vs) (ds.drop (i + 1))) x') = .ok ys x2 := e1
    cases ht : t ds[i] (wipeG Γ vs) with
    | none => rw [ht] at e1'; cases e1'
    | some Γ1 =>
      rw [ht] at e1'
      dsimp only at e1'
      refine .inr ⟨g1, Inv (i + 1), fun H2 h => ⟨ds.length - (i + 1), by omega, rfl, hlt, h⟩, fun z H2 hy => ?_⟩
      obtain ⟨sm, rv⟩ := g2 z H2 hy
      have s2 := s.grow (Grow.same sm) (s.bx.same sm)
      refine ⟨cIn c own H Dl, noO Γ.length, wipeG Γ vs, x', ds[i], Γ1, s2, rv, ht, fun σ3 l3 j3 s3 => ⟨wipe_eq (by rw [l3, wipe_length]) fun j hj => j3 j fun z => hj (hs j z), cIn c own H Dl, noO Γ.length, Γ1, x', s3, ?_⟩⟩
      cases hk : tf Γ1 x' with
      | er e x3 => rw [bnd_no (by unfold noEr; rw [hk])] at e1'; cases e1'
      | no => rw [bnd_no (by unfold noEr; rw [hk])] at e1'; cases e1'
      | ok k x3 =>
        rw [bnd_ok (a := k) (y := x3) (by unfold noEr; rw [hk])] at e1'
        refine fun H3 g3 bx3 => ?_
        have s4 := s2.grow g3 bx3
        have sm3 : Same H' H3 → True := fun _ => trivial
        have nbD : (cIn c own H Dl).b ≠ some Dl := fun z => by
          have h5 := s0.bx Dl z
          rw [hD] at h5
          cases h5
        have eD3 : H3 Dl = some (.lst acc) := g3 Dl _ nbD (sm Dl _ eD)
        have ra3 : RepL T c.b H3 (Pp (cIn c own H Dl) (noO Γ.length)) acc as := RepL.grow (c := cIn c own H Dl) g3 (ra.same sm)
        cases k with
        | false =>
          rw [if_neg (by decide)] at e1'
          show Inv (i + 1) H3
          exact ⟨x3, acc, as, s4, eD3, by omega, ra3, ys, x2, e1', e2⟩
        | true =>
          rw [if_pos rfl] at e1'
          show E T E0' .fz fe σ3 H3 _
          refine ⟨cIn c own H Dl, noO Γ.length, Γ1, x3, s3.grow g3 bx3, ?_⟩
          cases hy2 : fe Γ1 x3 with
          | er e x4 => rw [bnd_no (by unfold noEr; rw [hy2])] at e1'; cases e1'
          | no => rw [bnd_no (by unfold noEr; rw [hy2])] at e1'; cases e1'
          | ok yd x4 =>
            rw [bnd_ok (a := yd) (y := x4) (by unfold noEr; rw [hy2])] at e1'
            refine fun yv H4 g4 bx4 ry => ?_
            have eD4 : H4 Dl = some (.lst acc) := g4 Dl _ nbD eD3
            have s5 := s4.grow g4 bx4
            have ra4 : RepL T c.b H4 (Pp (cIn c own H Dl) (noO Γ.length)) acc as := RepL.grow (c := cIn c own H Dl) g4 ra3
            refine ⟨acc, eD4, Nat.lt_of_le_of_lt (Nat.le_trans la hi) (Nat.lt_of_le_of_lt hl (by decide)), ?_⟩
            have kp : ∀ a o, Pp (cIn c own H Dl) (noO Γ.length) a → H4 a = some o → upd H4 Dl (.lst (acc ++ [yv])) a = some o := fun a o pa e => by
              rw [upd_ne ((cIn_P a).mp pa).2]
              exact e
            cases hr : lcGo t tf fe (wipeG Γ vs) (ds.drop (i + 1)) x4 with
            | er e x5 => rw [bnd_er hr] at e1'; cases e1'
            | no => rw [bnd_no hr] at e1'; cases e1'
            | ok zs x5 =>
              rw [bnd_ok hr] at e1'
              cases e1'
              refine ⟨x4, acc ++ [yv], as ++ [yd], ?_, upd_same, by rw [List.length_append]; simp; omega, (ra4.append (.cons ry .nil)).mono kp fun _ _ p _ => p, zs, x2, hr, by rw [e2, List.append_assoc]; rfl⟩
              refine ⟨s5.l1, s5.l2, fun a o h1 h2 => ?_, fun a h => ?_, fun a h => ?_, s5.ob, s5.bb, fun i p h => (noO_get h).elim, s5.nodup, s5.me, fun j u h => ?_⟩
              · have hne : a ≠ Dl := ne_of_none h2 hD
                rw [upd_ne hne]
                exact s5.gr a o h1 h2
              · have hne : a ≠ Dl := fun z => nbD (by rw [← z]; exact h)
                rw [upd_ne hne]
                exact s5.bx a h
              · by_cases hne : a = Dl
                · rw [hne, upd_same]; exact fun z => nomatch z
                · rw [upd_ne hne]; exact s5.bd a h
              · have q := s5.slot j u h
                cases u with
                | no => trivial
                | sh d => obtain ⟨v, e, r⟩ := q; exact ⟨v, e, r.mono kp fun _ _ p _ => p⟩
                | bo d =>
                  obtain ⟨v, e, r⟩ := q
                  refine ⟨v, e, ?_⟩
                  rcases r with r | ⟨q, e1, e2, e3, e4⟩
                  · exact .inl (r.mono kp fun _ _ p _ => p)
                  · by_cases hq : q = Dl
                    · exact absurd hD (by rw [← hq]; exact e3)
                    · exact .inr ⟨q, e1, e2, e3, e4.mono kp (fun _ _ p _ => p) fun o e => by rw [upd_ne hq]; exact e⟩
                | ow d => obtain ⟨p, e1, e2, e3⟩ := q; exact (noO_get e2).elim
  · have e : i = ds.length := by omega
    subst e
    rw [List.drop_length] at e1
    have e1' : R.ok [] x' = R.ok ys x2 := e1
    cases e1'
    rw [List.append_nil] at e2
    refine .inl ⟨k2, fin H' as x' (by rw [bnd_ok e2]; rfl) s.gr s.bx ⟨acc, eD, ra.mono (fun _ _ _ e => e) fun a o pa _ => (cIn_P a).mp pa⟩⟩

theorem lcGo_noEr (t : GC) (tst : TC) (fe : EC) (Γ : Gm) : ∀ (ds : List D) (x : Bx) (e : D) (x' : Bx), lcGo t tst fe Γ ds x ≠ .er e x'
  | [], x, e, x' => fun h => by cases h
  | d :: ds, x, e, x' => fun h => by
    have h' : (match t d Γ with
      | none => R.no
      | some Γ1 => bnd (noEr (tst Γ1)) (fun k => if k = true then bnd (noEr (fe Γ1)) fun y => bnd (lcGo t tst fe Γ ds) fun ys => M.pure (y :: ys) else lcGo t tst fe Γ ds) x) = .er e x' := h
    cases ht : t d Γ with
    | none => rw [ht] at h'; cases h'
    | some Γ1 =>
      rw [ht] at h'
      dsimp only at h'
      cases hk : tst Γ1 x with
      | er e x3 => rw [bnd_no (by unfold noEr; rw [hk])] at h'; cases h'
      | no => rw [bnd_no (by unfold noEr; rw [hk])] at h'; cases h'
      | ok k x3 =>
        rw [bnd_ok (a := k) (y := x3) (by unfold noEr; rw [hk])] at h'
        cases k with
        | false =>
          rw [if_neg (by decide)] at h'
          exact lcGo_noEr t tst fe Γ ds x3 e x' h'
        | true =>
          rw [if_pos rfl] at h'
          cases hy2 : fe Γ1 x3 with
          | er e x4 => rw [bnd_no (by unfold noEr; rw [hy2])] at h'; cases h'
          | no => rw [bnd_no (by unfold noEr; rw [hy2])] at h'; cases h'
          | ok yd x4 =>
            rw [bnd_ok (a := yd) (y := x4) (by unfold noEr; rw [hy2])] at h'
            cases hr : lcGo t tst fe Γ ds x4 with
            | er e2 x5 => exact lcGo_noEr t tst fe Γ ds x4 e2 x5 hr
            | no => rw [bnd_no hr] at h'; cases h'
            | ok zs x5 => rw [bnd_ok hr] at h'; cases h'
theorem lc_read {t : GC} {is vs : List Nat} (his : ∀ j ∈ is, j ∈ vs) (h : EF T W (eLc fi t tf fe vs) σ H Q) : tLc (IT T W fi) (GT T is t) (ET T E0' tf) (E T E0' .fz fe) vs σ H Q := by
  obtain ⟨c, own, Γ, x, s, r⟩ := h
  refine ⟨c, own, Γ, x, s, ?_⟩
  cases hf : fi Γ x with
  | no => rw [show eLc fi t tf fe vs Γ x = _ from bnd_no hf] at r; exact r
  | er e x1 => rw [show eLc fi t tf fe vs Γ x = _ from bnd_er hf] at r; exact r
  | ok ds x1 =>
    rw [show eLc fi t tf fe vs Γ x = _ from bnd_ok hf] at r
    refine fun J H1 g bx hJ Dl hD => ?_
    by_cases hl : ds.length ≤ 100000
    · rw [if_pos hl] at r
      have s1 := s.grow g bx
      cases hz : lcGo t tf fe (wipeG Γ vs) ds x1 with
      | no => rw [bnd_no hz] at r; exact r.elim
      | er e x2 => exact absurd hz (lcGo_noEr t tf fe _ ds x1 e x2)
      | ok ys x2 =>
        rw [bnd_ok hz] at r
        exact lc_ok (x0 := x) (H0 := H) hD hJ s1 his hl (fun H' ys' x' e g' bx' q => by
          rw [bnd_ok hz] at e
          cases e
          exact r Dl H' (s1.none_back' s g hD) (g.trans g') bx' q rfl) (fun e x' z => by rw [hz] at z; cases z) (fun z => by rw [hz] at z; cases z)
    · rw [if_neg hl] at r
      exact r.elim
theorem pts_dnil : PTs X [] (ET T W tYesC) := ⟨fun pins s σ H Q I ⟨c, own, Γ, x, st, r⟩ => pts_nil.run pins s σ H Q I (r H Grow.refl st.bx)⟩
theorem pf_lc {elt iter : Expr} {ifs : List Expr} {scope : Scope} {own : List (Str × Nat)} {t : GC} {is : List Nat} (hc : X.calm = true) (hN : X.N.Nodup) (hi : PI X tg iter (IT T W fi)) (ok : BlkOk X.N X.env.scope scope own)
    (hg : ∀ (s : Shared) (H : Hp) (C : Addr) (cl : List (Str × Addr)) (fp : List Addr), PG (X.blk s H scope (compEnvC scope cl C X.env) fp) tg (GT T is t)) (ht : ∀ (s : Shared) (H : Hp) (C : Addr) (cl : List (Str × Addr)) (fp : List Addr), PTs (X.blk s H scope (compEnvC scope cl C X.env) fp) ifs (ET T E0' tf))
    (he : ∀ (s : Shared) (H : Hp) (C : Addr) (cl : List (Str × Addr)) (fp : List Addr), PE (X.blk s H scope (compEnvC scope cl C X.env) fp) elt (E T E0' .fz fe)) (his : ∀ j ∈ is, j ∈ own.map (·.2) := by decide) (hs : ∀ x, foldedSetIterable iter X.env x = pure x := by intro _; rfl) :
    PE X (.ListComp elt [⟨tg, iter, ifs, 0⟩] scope pos) (EF T W (eLc fi t tf fe (own.map (·.2)))) := (pe_lc hc hN hi ok hg ht he hs).mono fun σ H Q h => lc_read his h
/-- y = [..] -/
theorem ps_dsetLc {i : Nat} {z : Str} {py spos : Pos} {elt iter : Expr} {ifs : List Expr} {scope : Scope} {own : List (Str × Nat)} {t : GC} {is : List Nat} (hc : X.calm = true) (hN : X.N.Nodup) (hy : X.N[i]? = some z) (hyl : X.env.scope.names.lookup z = some .local)
    (hsw : swapsWith (.ListComp elt [⟨tg, iter, ifs, 0⟩] scope pos) (some (.Name z py)) spos.line X.env = pure true) (hi : PI X tg iter (IT T W fi)) (ok : BlkOk X.N X.env.scope scope own)
    (hg : ∀ (s : Shared) (H : Hp) (C : Addr) (cl : List (Str × Addr)) (fp : List Addr), PG (X.blk s H scope (compEnvC scope cl C X.env) fp) tg (GT T is t)) (ht : ∀ (s : Shared) (H : Hp) (C : Addr) (cl : List (Str × Addr)) (fp : List Addr), PTs (X.blk s H scope (compEnvC scope cl C X.env) fp) ifs (ET T E0' tf))
    (he : ∀ (s : Shared) (H : Hp) (C : Addr) (cl : List (Str × Addr)) (fp : List Addr), PE (X.blk s H scope (compEnvC scope cl C X.env) fp) elt (E T E0' .fz fe)) (his : ∀ j ∈ is, j ∈ own.map (·.2) := by decide) (hs : ∀ x, foldedSetIterable iter X.env x = pure x := by intro _; rfl) :
    PS X (.Assign [.Name z py] (.ListComp elt [⟨tg, iter, ifs, 0⟩] scope pos) spos) (SS T W (sOwn i (eLc fi t tf fe (own.map (·.2))))) := (ps_setLc hc hN hy hyl hsw hi ok hg ht he hs).mono fun D σ H ⟨c, own, Γ, x, s, r⟩ => by
  refine lc_read his ⟨c, own, Γ, x, s, ?_⟩
  unfold sOwn sE at r
  cases hz : eLc fi t tf fe (_) Γ x with
  | ok d x1 =>
    rw [hz] at r
    exact fun p H1 n g bx q hc => (by
      obtain ⟨s2, fz⟩ := s.owned i n g bx q hc
      exact r _ _ H1 fz s2)
  | er d x1 => rw [hz] at r; exact fun cls dd H1 g bx q => r cls dd own σ H1 (Fz.grow g) (s.grow g bx) q
  | no => rw [hz] at r; exact r
end
end DL

namespace DL
open PySem PySem.Spec PyProof.Rows L2
section
variable {X : Cx} {T : Tb} {W : WX} {m : Md} {a b e l tg o : Expr} {es : List Expr} {f fa fb fl fe fo : EC} {fi : AC} {fs : AC} {pos p apos : Pos} {c : Cf} {own own' : Ow} {Γ : Gm} {x x' : Bx} {σ : L2.St} {H H' : Hp} {Q : VK} {y : Str} {vs : List V} {ds : List D} {g : SC} {tf : TC} {P' : Addr → Prop}
/-! ### arguments that are only looked at -/
def QRes (T : Tb) (W : WX) (c : Cf) (own : Ow) (σ : L2.St) (H : Hp) (Q : List V → Hp → Prop) : R (List D) → Prop
  | .ok ds x => ∀ vs H', Grow c.b H H' → BoxRel c.b x H' → Paired (RepQ T c.b H' (Pp c own)) vs ds → Q vs H'
  | .er e x => ∀ cls dd H', Grow c.b H H' → BoxRel c.b x H' → RepE T c.b H' (Pp c own) cls dd e → W cls dd σ H'
  | .no => False
def EQ (T : Tb) (W : WX) (f : AC) : TA := fun σ H Q => ∃ c own Γ x, Sat T c own Γ x σ H ∧ QRes T W c own σ H Q (f Γ x)
theorem QRes.at {Q : List V → Hp → Prop} {z : R (List D)} (g : Grow c.b H H') (r : QRes T W c own σ H Q z) : QRes T W c own σ H' Q z := by
  cases z with
  | ok d x => exact fun v H2 g2 bx q => r v H2 (g.trans g2) bx q
  | er d x => exact fun cl dd H2 g2 bx q => r cl dd H2 (g.trans g2) bx q
  | no => exact r
theorem QRes.imp {Q Q' : List V → Hp → Prop} {z : R (List D)} (r : QRes T W c own σ H Q z) (k : ∀ v H', Q v H' → Q' v H') : QRes T W c own σ H Q' z := by
  cases z with
  | ok d x1 => exact fun v H1 g1 bx q => k _ _ (r v H1 g1 bx q)
  | er d x1 => exact r
  | no => exact r
theorem pq_nil : PA X [] (EQ T W lNil) := pa_nil.mono fun σ H Q ⟨c, own, Γ, x, s, r⟩ => r [] H Grow.refl s.bx .nil
theorem RepQs.grow (g : Grow c.b H H') {vs : List V} {ds : List D} (h : Paired (RepQ T c.b H (Pp c own)) vs ds) : Paired (RepQ T c.b H' (Pp c own)) vs ds := L2.Paired.mapP h fun _ _ r => RepQ.grow g r
theorem pq_cons (ha : PE X e (E T W .tr f)) (hr : PA X es (EQ T W fs)) (hs : starEach (e :: es) X.env = (false, eval e X.env) :: starEach es X.env := by rfl) : PA X (e :: es) (EQ T W (lCons f fs)) :=
  (pa_cons ha hr hs).mono fun σ H Q ⟨c, own, Γ, x, s, r⟩ => ⟨c, own, Γ, x, s, by
    cases hf : f Γ x with
    | ok d x1 =>
      rw [show lCons f fs Γ x = _ from bnd_ok hf] at r
      refine fun v H1 g bx q => ⟨c, own, Γ, x1, s.grow g bx, ?_⟩
      replace r := r.at g
      cases hg : fs Γ x1 with
      | ok ds x2 =>
        rw [bnd_ok hg] at r
        exact fun vs H2 g2 bx2 q2 => r (v :: vs) H2 g2 bx2 (.cons (RepQ.grow g2 q) q2)
      | er d x2 => rw [bnd_er hg] at r; exact r
      | no => rw [bnd_no hg] at r; exact r
    | er d x1 => rw [show lCons f fs Γ x = _ from bnd_er hf] at r; exact r
    | no => rw [show lCons f fs Γ x = _ from bnd_no hf] at r; exact r⟩
/-! ### built-ins -/
abbrev RC := List V → Hp → VK → Prop
/-- a built-in's call, told over trees -/
def CallD (T : Tb) (r : RC) (g : List D → Option D) : Prop := ∀ (b : Option Addr) (H : Hp) (P : Addr → Prop) (vs : List V) (ds : List D) (dz : D) (Q : VK), (∀ p, H p = none → P p) → Paired (RepQ T b H P) vs ds → g ds = some dz →
  (∀ v H', Same H H' → Rep T b H' P v dz → Q v H') → r vs H Q
/-- .. that makes a new list -/
def CallF (T : Tb) (r : RC) (g : List D → Option D) : Prop := ∀ (b : Option Addr) (H : Hp) (P : Addr → Prop) (vs : List V) (ds : List D) (dz : D) (Q : VK), (∀ p, H p = none → P p) → Paired (RepQ T b H P) vs ds → g ds = some dz →
  (∀ p o, H p = none → OwnAt T b (upd H p o) (fun a => P a ∧ a ≠ p) p dz → isCon dz = true → Q (.ref p) (upd H p o)) → r vs H Q
def eB (g : List D → Option D) (fs : AC) : EC := fun Γ => bnd (fs Γ) fun ds => opt (g ds)
theorem CallR.or {fn : Value} {r r' : RC} (h : CallR X fn r) (h' : CallR X fn r') : CallR X fn (fun xs H Q => r xs H Q ∨ r' xs H Q) := fun pins s σ H xs us Q I rv q => q.elim (h pins s σ H xs us Q I rv) (h' pins s σ H xs us Q I rv)
theorem bres {g : List D → Option D} (s : Sat T c own Γ x σ H) (r : ERes T W .fz c own σ H Q (eB g fs Γ x)) {rc : RC} (hg : CallD T rc g) : QRes T W c own σ H (fun vs H1 => rc vs H1 Q) (fs Γ x) := by
  cases hf : fs Γ x with
  | no => rw [show eB g fs Γ x = _ from bnd_no hf] at r; exact r
  | er e x1 => rw [show eB g fs Γ x = _ from bnd_er hf] at r; exact r
  | ok ds x1 =>
    rw [show eB g fs Γ x = _ from bnd_ok hf] at r
    refine fun vs H1 gr bx q => ?_
    replace r := r.at gr
    have s1 := s.grow gr bx
    cases hz : g ds with
    | none => rw [hz] at r; exact r.elim
    | some dz =>
      rw [hz] at r
      exact hg c.b H1 (Pp c own) vs ds dz Q (fun p n => s1.freshP n) q hz fun v H' sm rp => r v H' (Grow.same sm) (s1.bx.same sm) rp
theorem bresF {g : List D → Option D} (s : Sat T c own Γ x σ H) (r : FRes T W c own σ H Q (eB g fs Γ x)) {rc : RC} (hg : CallF T rc g) : QRes T W c own σ H (fun vs H1 => rc vs H1 Q) (fs Γ x) := by
  cases hf : fs Γ x with
  | no => rw [show eB g fs Γ x = _ from bnd_no hf] at r; exact r
  | er e x1 => rw [show eB g fs Γ x = _ from bnd_er hf] at r; exact r
  | ok ds x1 =>
    rw [show eB g fs Γ x = _ from bnd_ok hf] at r
    refine fun vs H1 gr bx q => ?_
    have s1 := s.grow gr bx
    cases hz : g ds with
    | none => rw [hz] at r; exact r.elim
    | some dz =>
      rw [hz] at r
      exact hg c.b H1 (Pp c own) vs ds dz Q (fun p n => s1.freshP n) q hz fun p o n q hc => r p _ (s1.none_back' s gr n) (gr.trans (Grow.same (Same.upd' n))) (bx.same (Same.upd' n)) q hc
theorem pd_callB {id : String} {rc : RC} {g : List D → Option D} (hc : CallR X (.builtin id) rc) (hgd : CallD T rc g) (hg : Gl X y) (hm : X.mg y = none) (hv : bootBuiltins y = some (.builtin id)) (ha : PA X (e :: es) (EQ T W fs)) (hn : y ≠ "__name__" := by decide) (hdb : (y == ("__debug__" : Str)) = false := by decide)
    (he : starEach (e :: es) X.env = (false, eval e X.env) :: starEach es X.env := by rfl) (hpl : (backTo pos (starEach es X.env)).any (·.1) = false := by rfl) : PE X (.Call (.Name y p) (e :: es) [] pos) (E T W .fz (eB g fs)) :=
  (pe_callB hc hg hm hv ha hn hdb he hpl).mono fun σ H Q ⟨c, own, Γ, x, s, r⟩ => ⟨c, own, Γ, x, s, bres s r hgd⟩
theorem pd_callTy {id : String} {rc : RC} {g : List D → Option D} (hc : CallR X (.type id) rc) (hgd : CallD T rc g) (hg : Gl X y) (hm : X.mg y = none) (hv : bootBuiltins y = some (.type id)) (ha : PA X (e :: es) (EQ T W fs)) (hn : y ≠ "__name__" := by decide) (hdb : (y == ("__debug__" : Str)) = false := by decide)
    (he : starEach (e :: es) X.env = (false, eval e X.env) :: starEach es X.env := by rfl) (hpl : (backTo pos (starEach es X.env)).any (·.1) = false := by rfl) : PE X (.Call (.Name y p) (e :: es) [] pos) (E T W .fz (eB g fs)) :=
  (pe_callTy hc hg hm hv ha hn hdb he hpl).mono fun σ H Q ⟨c, own, Γ, x, s, r⟩ => ⟨c, own, Γ, x, s, bres s r hgd⟩
theorem pf_callTy {id : String} {rc : RC} {g : List D → Option D} (hc : CallR X (.type id) rc) (hgd : CallF T rc g) (hg : Gl X y) (hm : X.mg y = none) (hv : bootBuiltins y = some (.type id)) (ha : PA X (e :: es) (EQ T W fs)) (hn : y ≠ "__name__" := by decide) (hdb : (y == ("__debug__" : Str)) = false := by decide)
    (he : starEach (e :: es) X.env = (false, eval e X.env) :: starEach es X.env := by rfl) (hpl : (backTo pos (starEach es X.env)).any (·.1) = false := by rfl) : PE X (.Call (.Name y p) (e :: es) [] pos) (EF T W (eB g fs)) :=
  (pe_callTy hc hg hm hv ha hn hdb he hpl).mono fun σ H Q ⟨c, own, Γ, x, s, r⟩ => ⟨c, own, Γ, x, s, bresF s r hgd⟩
theorem paired1 {α β : Type} {F : α → β → Prop} {vs : List α} {d : β} (h : Paired F vs [d]) : ∃ v, vs = [v] ∧ F v d := by
  cases h with
  | cons h1 h2 => cases h2; exact ⟨_, rfl, h1⟩
theorem paired2 {α β : Type} {F : α → β → Prop} {vs : List α} {d d' : β} (h : Paired F vs [d, d']) : ∃ v v', vs = [v, v'] ∧ F v d ∧ F v' d' := by
  cases h with
  | cons h1 h2 => obtain ⟨v', rfl, h3⟩ := paired1 h2; exact ⟨_, _, rfl, h1, h3⟩
/-! len -/
def dLen : List D → Option D
  | [.lst ds] => some (.int (ds.length : Nat))
  | [.tup ds] => some (.int (ds.length : Nat))
  | [.str z] => if z.length ≤ 100000 then some (.int (z.length : Nat)) else none
  | _ => none
def rLenU (K : PySem.W.Frag) : RC := fun xs H Q => (∃ p ys, xs = [.ref p] ∧ (SqL K H p ys ∨ SqT K H p ys) ∧ Q (.int ys.length) H) ∨ (∃ z, xs = [.str z] ∧ z.length ≤ sizeLine ∧ Q (.int z.length) H)
theorem call_lenU : CallR X (.builtin "len") (rLenU X.K) := CallR.or call_len_seq call_len_str
end
end DL

namespace DL
open PySem PySem.Spec PyProof.Rows L2
section
variable {X : Cx} {T : Tb} {W : WX} {m : Md} {a b e l tg o : Expr} {es : List Expr} {f fa fb fl fe fo : EC} {fi : AC} {fs : AC} {pos p apos : Pos} {c : Cf} {own own' : Ow} {Γ : Gm} {x x' : Bx} {σ : L2.St} {H H' : Hp} {Q : VK} {y : Str} {vs : List V} {ds : List D} {g : SC} {tf : TC} {P' : Addr → Prop}
/-! ### built-ins of one or two arguments -/
theorem cd_len : CallD T (rLenU T.K) dLen := fun b H P vs ds dz Q hP hv hz k => by
  unfold dLen at hz
  split at hz
  · obtain ⟨v, rfl, h⟩ := paired1 hv
    cases hz
    obtain ⟨p, us, rfl, h1, h2⟩ := h.lst
    refine .inl ⟨p, us, rfl, .inl (.inl (.inl h1)), ?_⟩
    rw [h2.length]
    exact k _ H (Same.refl H) (.int _)
  · obtain ⟨v, rfl, h⟩ := paired1 hv
    cases hz
    obtain ⟨p, us, rfl, h1, h2⟩ := h.tup
    refine .inl ⟨p, us, rfl, .inr h1, ?_⟩
    rw [h2.length]
    exact k _ H (Same.refl H) (.int _)
  · obtain ⟨v, rfl, h⟩ := paired1 hv
    obtain ⟨h1, h2⟩ := ite_some hz
    subst h2
    cases h.str
    exact .inr ⟨_, rfl, sz_of h1, k _ H (Same.refl H) (.int _)⟩
  · cases hz
def dAbs : List D → Option D
  | [.int i] => some (.int (if i < 0 then -i else i))
  | _ => none
theorem cd_abs : CallD T (fun xs H Q => ∃ i, xs = [.int i] ∧ Q (.int (if i < 0 then -i else i)) H) dAbs := fun b H P vs ds dz Q hP hv hz k => by
  unfold dAbs at hz
  split at hz
  · obtain ⟨v, rfl, h⟩ := paired1 hv
    cases hz
    cases h.int
    exact ⟨_, rfl, k _ H (Same.refl H) (.int _)⟩
  · cases hz
def dMin : List D → Option D
  | [.int i, .int j] => some (.int (if j < i then j else i))
  | _ => none
theorem cd_min : CallD T (fun xs H Q => ∃ i j, xs = [.int i, .int j] ∧ Q (.int (if j < i then j else i)) H) dMin := fun b H P vs ds dz Q hP hv hz k => by
  unfold dMin at hz
  split at hz
  · obtain ⟨v, v', rfl, h, h'⟩ := paired2 hv
    cases hz
    cases h.int
    cases h'.int
    exact ⟨_, _, rfl, k _ H (Same.refl H) (.int _)⟩
  · cases hz
def dMax : List D → Option D
  | [.int i, .int j] => some (.int (if j > i then j else i))
  | _ => none
theorem cd_max : CallD T (fun xs H Q => ∃ i j, xs = [.int i, .int j] ∧ Q (.int (if j > i then j else i)) H) dMax := fun b H P vs ds dz Q hP hv hz k => by
  unfold dMax at hz
  split at hz
  · obtain ⟨v, v', rfl, h, h'⟩ := paired2 hv
    cases hz
    cases h.int
    cases h'.int
    exact ⟨_, _, rfl, k _ H (Same.refl H) (.int _)⟩
  · cases hz
def dIntOf : List D → Option D
  | [.int i] => some (.int i)
  | [.bl k] => some (.int (if k then 1 else 0))
  | [.str z] => if z.length ≤ 640 then (PySem.intText? z).map D.int else none
  | _ => none
def rIntU : RC := fun xs H Q => ((∃ i, xs = [.int i] ∧ Q (.int i) H) ∨ ∃ k, xs = [.bl k] ∧ Q (.int (if k then 1 else 0)) H) ∨ ∃ a n, xs = [.str a] ∧ PySem.intText? a = some n ∧ a.length ≤ 640 ∧ Q (.int n) H
theorem call_intU : CallR X (.type "int") rIntU := CallR.or call_int1 call_int_str
theorem cd_int : CallD T rIntU dIntOf := fun b H P vs ds dz Q hP hv hz k => by
  unfold dIntOf at hz
  split at hz
  · obtain ⟨v, rfl, h⟩ := paired1 hv
    cases hz
    cases h.int
    exact .inl (.inl ⟨_, rfl, k _ H (Same.refl H) (.int _)⟩)
  · obtain ⟨v, rfl, h⟩ := paired1 hv
    cases hz
    cases h.bl
    exact .inl (.inr ⟨_, rfl, k _ H (Same.refl H) (.int _)⟩)
  · obtain ⟨v, rfl, h⟩ := paired1 hv
    rename_i z
    cases h.str
    by_cases hl : z.length ≤ 640
    · rw [if_pos hl] at hz
      cases hn : PySem.intText? z with
      | none => rw [hn] at hz; cases hz
      | some n =>
        rw [hn] at hz
        cases hz
        exact .inr ⟨z, n, rfl, hn, hl, k _ H (Same.refl H) (.int _)⟩
    · rw [if_neg hl] at hz
      cases hz
  · cases hz
def dStrOf : List D → Option D
  | [.int i] => if i.natAbs.log2 < 1920 then some (.str (toString i)) else none
  | _ => none
theorem cd_str : CallD T (fun xs H Q => ∃ i, xs = [.int i] ∧ i.natAbs.log2 < 1920 ∧ Q (.str (toString i)) H) dStrOf := fun b H P vs ds dz Q hP hv hz k => by
  unfold dStrOf at hz
  split at hz
  · obtain ⟨v, rfl, h⟩ := paired1 hv
    obtain ⟨h1, h2⟩ := ite_some hz
    subst h2
    cases h.int
    exact ⟨_, rfl, h1, k _ H (Same.refl H) (.str _)⟩
  · cases hz
def dListOf : List D → Option D
  | [.lst ds] => some (.lst ds)
  | [.tup ds] => some (.lst ds)
  | _ => none
theorem own_new {b : Option Addr} {P : Addr → Prop} {p : Addr} (n : H p = none) (r : RepL T b H P vs ds) : OwnAt T b (upd H p (.lst vs)) (fun a => P a ∧ a ≠ p) p (.lst ds) := ⟨vs, upd_same, r.mono (fun a o _ e => Same.upd' n a o e) fun a o pa e => ⟨pa, ne_of_none e n⟩⟩
theorem cf_list : CallF T (fun xs H Q => ∃ p ys, xs = [.ref p] ∧ (SqL T.K H p ys ∨ SqT T.K H p ys) ∧ ∀ l, H l = none → Q (.ref l) (upd H l (.lst ys))) dListOf := fun b H P vs ds dz Q hP hv hz k => by
  unfold dListOf at hz
  split at hz
  · obtain ⟨v, rfl, h⟩ := paired1 hv
    cases hz
    obtain ⟨p, us, rfl, h1, h2⟩ := h.lst
    exact ⟨p, us, rfl, .inl (.inl (.inl h1)), fun l n => k l _ n (own_new n h2) rfl⟩
  · obtain ⟨v, rfl, h⟩ := paired1 hv
    cases hz
    obtain ⟨p, us, rfl, h1, h2⟩ := h.tup
    exact ⟨p, us, rfl, .inr h1, fun l n => k l _ n (own_new n h2) rfl⟩
  · cases hz
def dTupOf : List D → Option D
  | [.lst ds] => some (.tup ds)
  | [.tup ds] => some (.tup ds)
  | _ => none
theorem cd_tuple : CallD T (fun xs H Q => ∃ p ys, xs = [.ref p] ∧ ((SqL T.K H p ys ∧ ∀ l, H l = none → Q (.ref l) (upd H l (.tup ys))) ∨ (SqT T.K H p ys ∧ Q (.ref p) H))) dTupOf := fun b H P vs ds dz Q hP hv hz k => by
  unfold dTupOf at hz
  split at hz
  · obtain ⟨v, rfl, h⟩ := paired1 hv
    cases hz
    obtain ⟨p, us, rfl, h1, h2⟩ := h.lst
    exact ⟨p, us, rfl, .inl ⟨.inl (.inl h1), fun l n => k _ _ (Same.upd' n) (.tup (hP l n) upd_same (h2.same (Same.upd' n)))⟩⟩
  · obtain ⟨v, rfl, h⟩ := paired1 hv
    cases hz
    have h' := h
    obtain ⟨p, us, rfl, h1, h2⟩ := h.tup
    refine ⟨p, us, rfl, .inr ⟨h1, k _ H (Same.refl H) ?_⟩⟩
    rcases h' with h' | ⟨_, _, _, h'⟩
    · exact h'
    · exact h'.elim
  · cases hz
/-- the truth values of a list -/
def blsD : List D → Option (List Bool)
  | [] => some []
  | .bl k :: r => (blsD r).map (k :: ·)
  | _ => none
def intsD : List D → Option (List Int)
  | [] => some []
  | .int k :: r => (intsD r).map (k :: ·)
  | _ => none
def strsD : List D → Option (List Str)
  | [] => some []
  | .str k :: r => (strsD r).map (k :: ·)
  | _ => none
theorem RepL.bls' {b : Option Addr} {P : Addr → Prop} : ∀ {ds : List D} {vs : List V} {bs : List Bool}, RepL T b H P vs ds → blsD ds = some bs → vs = bs.map V.bl
  | [], vs, bs, h, e => by cases e; cases h; rfl
  | d :: ds, vs, bs, h, e => by
    cases d <;> try cases e
    rename_i k
    have e' : (blsD ds).map (k :: ·) = some bs := e
    cases hb : blsD ds with
    | none => rw [hb] at e'; cases e'
    | some r =>
      rw [hb] at e'
      cases e'
      cases h with
      | cons h1 h2 =>
        cases h1
        rw [RepL.bls' h2 hb]
        rfl
theorem RepL.ints' {b : Option Addr} {P : Addr → Prop} : ∀ {ds : List D} {vs : List V} {bs : List Int}, RepL T b H P vs ds → intsD ds = some bs → vs = bs.map V.int
  | [], vs, bs, h, e => by cases e; cases h; rfl
  | d :: ds, vs, bs, h, e => by
    cases d <;> try cases e
    rename_i k
    have e' : (intsD ds).map (k :: ·) = some bs := e
    cases hb : intsD ds with
    | none => rw [hb] at e'; cases e'
    | some r =>
      rw [hb] at e'
      cases e'
      cases h with
      | cons h1 h2 =>
        cases h1
        rw [RepL.ints' h2 hb]
        rfl
theorem RepL.strs' {b : Option Addr} {P : Addr → Prop} : ∀ {ds : List D} {vs : List V} {bs : List Str}, RepL T b H P vs ds → strsD ds = some bs → vs = bs.map V.str
  | [], vs, bs, h, e => by cases e; cases h; rfl
  | d :: ds, vs, bs, h, e => by
    cases d <;> try cases e
    rename_i k
    have e' : (strsD ds).map (k :: ·) = some bs := e
    cases hb : strsD ds with
    | none => rw [hb] at e'; cases e'
    | some r =>
      rw [hb] at e'
      cases e'
      cases h with
      | cons h1 h2 =>
        cases h1
        rw [RepL.strs' h2 hb]
        rfl
def dAll : List D → Option D
  | [.lst ds] => (blsD ds).map fun bs => .bl (bs.all id)
  | _ => none
def dAny : List D → Option D
  | [.lst ds] => (blsD ds).map fun bs => .bl (bs.any id)
  | _ => none
def dSum : List D → Option D
  | [.lst ds] => (intsD ds).map fun bs => .int bs.sum
  | _ => none
theorem map_some {α β : Type} {o : Option α} {f : α → β} {z : β} (h : o.map f = some z) : ∃ a, o = some a ∧ f a = z := by
  cases o with
  | none => cases h
  | some a => exact ⟨a, rfl, Option.some.inj h⟩
theorem cd_all : CallD T (rAll T.K) dAll := fun b H P vs ds dz Q hP hv hz k => by
  unfold dAll at hz
  split at hz
  · obtain ⟨v, rfl, h⟩ := paired1 hv
    obtain ⟨bs, e1, rfl⟩ := map_some hz
    obtain ⟨p, us, rfl, h1, h2⟩ := h.lst
    rw [h2.bls' e1] at h1
    exact ⟨p, bs, rfl, .inl (.inl h1), k _ H (Same.refl H) (.bl _)⟩
  · cases hz
theorem cd_any : CallD T (rAny T.K) dAny := fun b H P vs ds dz Q hP hv hz k => by
  unfold dAny at hz
  split at hz
  · obtain ⟨v, rfl, h⟩ := paired1 hv
    obtain ⟨bs, e1, rfl⟩ := map_some hz
    obtain ⟨p, us, rfl, h1, h2⟩ := h.lst
    rw [h2.bls' e1] at h1
    exact ⟨p, bs, rfl, .inl (.inl h1), k _ H (Same.refl H) (.bl _)⟩
  · cases hz
theorem cd_sum : CallD T (rSum T.K) dSum := fun b H P vs ds dz Q hP hv hz k => by
  unfold dSum at hz
  split at hz
  · obtain ⟨v, rfl, h⟩ := paired1 hv
    obtain ⟨bs, e1, rfl⟩ := map_some hz
    obtain ⟨p, us, rfl, h1, h2⟩ := h.lst
    rw [h2.ints' e1] at h1
    exact ⟨p, bs, rfl, .inl (.inl h1), k _ H (Same.refl H) (.int _)⟩
  · cases hz
/-! ### == and != of data -/
mutual
def toPy : D → Option PyData
  | .non => some .none
  | .bl k => some (.bool k)
  | .int i => some (.int i)
  | .str x => some (.str x)
  | .lst ds => (toPys ds).map .list
  | .tup ds => (toPys ds).map .tuple
  | _ => none
def toPys : List D → Option (List PyData)
  | [] => some []
  | d :: ds => (toPy d).bind fun p => (toPys ds).map (p :: ·)
end
mutual
theorem toPy_dp {b : Option Addr} {P : Addr → Prop} : ∀ {d : D} {v : V} {q : PyData}, Rep T b H P v d → toPy d = some q → Dp T.K H v q
  | .non, _, _, h, e => by unfold toPy at e; cases e; cases h; exact .non
  | .bl k, _, _, h, e => by unfold toPy at e; cases e; cases h; exact .bl k
  | .int i, _, _, h, e => by unfold toPy at e; cases e; cases h; exact .int i
  | .str i, _, _, h, e => by unfold toPy at e; cases e; cases h; exact .str i
  | .lst ds, _, _, h, e => by
    unfold toPy at e
    obtain ⟨ps, e1, rfl⟩ := map_some e
    cases h with
    | lst h1 h2 h3 => exact .lst (.inl (.inl h2)) (toPys_dp h3 e1)
  | .tup ds, _, _, h, e => by
    unfold toPy at e
    obtain ⟨ps, e1, rfl⟩ := map_some e
    cases h with
    | tup h1 h2 h3 => exact .tup (.inl (.inl h2)) (toPys_dp h3 e1)
    | tupK h1 h2 => exact .tup (.inr h1) (toPys_dp h2 e1)
  | .dic _, _, _, h, e => by unfold toPy at e; cases e
  | .dit _, _, _, h, e => by unfold toPy at e; cases e
  | .obj _ _, _, _, h, e => by unfold toPy at e; cases e
  | .exc _ _, _, _, h, e => by unfold toPy at e; cases e
  | .cl _, _, _, h, e => by unfold toPy at e; cases e
  | .ty _, _, _, h, e => by unfold toPy at e; cases e
  | .box, _, _, h, e => by unfold toPy at e; cases e
theorem toPys_dp {b : Option Addr} {P : Addr → Prop} : ∀ {ds : List D} {vs : List V} {qs : List PyData}, RepL T b H P vs ds → toPys ds = some qs → DpAll T.K H vs qs
  | [], _, _, h, e => by unfold toPys at e; cases e; cases h; exact .nil
  | d :: ds, _, _, h, e => by
    unfold toPys at e
    cases hd : toPy d with
    | none => rw [hd] at e; cases e
    | some q =>
      rw [hd] at e
      obtain ⟨ps, e1, rfl⟩ := map_some e
      cases h with
      | cons h1 h2 => exact .cons (toPy_dp h1 hd) (toPys_dp h2 e1)
end
theorem toPyQ {b : Option Addr} {P : Addr → Prop} {d : D} {v : V} {q : PyData} (h : RepQ T b H P v d) (e : toPy d = some q) : Dp T.K H v q := by
  rcases h with h | ⟨p, rfl, n, h⟩
  · exact toPy_dp h e
  · cases d <;> try exact h.elim
    · obtain ⟨vs, h1, h2⟩ := h
      unfold toPy at e
      obtain ⟨ps, e1, rfl⟩ := map_some e
      exact .lst (.inl (.inl h1)) (toPys_dp h2 e1)
    · unfold toPy at e; cases e
    · unfold toPy at e; cases e
    · unfold toPy at e; cases e
def dEqB (f : Bool → Bool) (x y : D) : Option D := (toPy x).bind fun p => (toPy y).bind fun q => if SeqAt.shaped p = true ∧ SeqAt.shaped q = true then some (.bl (f (PyData.eqv p q))) else none
theorem dEqB_some {f : Bool → Bool} {x y z : D} (h : dEqB f x y = some z) : ∃ p q, toPy x = some p ∧ toPy y = some q ∧ SeqAt.shaped p = true ∧ SeqAt.shaped q = true ∧ z = .bl (f (PyData.eqv p q)) := by
  unfold dEqB at h
  cases hx : toPy x with
  | none => rw [hx] at h; cases h
  | some p =>
    cases hy : toPy y with
    | none => rw [hx, hy] at h; cases h
    | some q =>
      rw [hx, hy] at h
      obtain ⟨⟨h1, h2⟩, h3⟩ := ite_some h
      exact ⟨p, q, rfl, rfl, h1, h2, h3.symm⟩
theorem opd_eq : OpD T (rEqD T.K) (dEqB id) := fun b H P x y dx dy dz Q hP hx hy hz k => by
  obtain ⟨p, q, e1, e2, s1, s2, rfl⟩ := dEqB_some hz
  exact ⟨p, q, toPyQ hx e1, toPyQ hy e2, s1, s2, k _ H (Same.refl H) (.bl _)⟩
theorem opd_ne : OpD T (rNeD T.K) (dEqB not) := fun b H P x y dx dy dz Q hP hx hy hz k => by
  obtain ⟨p, q, e1, e2, s1, s2, rfl⟩ := dEqB_some hz
  exact ⟨p, q, toPyQ hx e1, toPyQ hy e2, s1, s2, k _ H (Same.refl H) (.bl _)⟩
/-! is None -/
def isNonD : D → Bool
  | .non => true
  | _ => false
def dIsN (f : Bool → Bool) (x y : D) : Option D := match y with
  | .non => some (.bl (f (isNonD x)))
  | _ => none
theorem repq_non {b : Option Addr} {P : Addr → Prop} {d : D} {v : V} (h : RepQ T b H P v d) : decide (v = .non) = isNonD d := by
  rcases h with h | ⟨p, rfl, n, h⟩
  · cases h <;> rfl
  · cases d <;> first | rfl | exact h.elim
theorem opd_isN : OpD T (fun x y H Q => y = .non ∧ Q (.bl (decide (x = .non))) H) (dIsN id) := fun b H P x y dx dy dz Q hP hx hy hz k => by
  cases dy <;> cases hz
  refine ⟨hy.non, ?_⟩
  rw [repq_non hx]
  exact k _ H (Same.refl H) (.bl _)
theorem opd_notN : OpD T (fun x y H Q => y = .non ∧ Q (.bl (!decide (x = .non))) H) (dIsN not) := fun b H P x y dx dy dz Q hP hx hy hz k => by
  cases dy <;> cases hz
  refine ⟨hy.non, ?_⟩
  rw [repq_non hx]
  exact k _ H (Same.refl H) (.bl _)
end
end DL

namespace DL
open PySem PySem.Spec PyProof.Rows L2
section
variable {X : Cx} {T : Tb} {W : WX} {m : Md} {a b e l tg o : Expr} {es : List Expr} {f fa fb fl fe fo : EC} {fi : AC} {fs : AC} {pos p apos : Pos} {c : Cf} {own own' : Ow} {Γ : Gm} {x x' : Bx} {σ : L2.St} {H H' : Hp} {Q : VK} {y : Str} {vs : List V} {ds : List D} {g : SC} {tf : TC} {P' : Addr → Prop}
/-! ### x[i] -/
theorem atI_rep {b : Option Addr} {P : Addr → Prop} (r : RepL T b H P vs ds) {i : Int} {d : D} (h : atI ds i = some d) : ∃ v, atI vs i = some v ∧ Rep T b H P v d := by
  unfold atI at h ⊢
  rw [r.length]
  cases hj : ixN ds.length i with
  | none => rw [hj] at h; cases h
  | some j =>
    rw [hj] at h
    exact r.get h
def dIx : D → D → Option D
  | .lst ds, .int i => atI ds i
  | .tup ds, .int i => atI ds i
  | .str z, .int i => if z.length ≤ 100000 then (atI z.cps.toList i).map fun c => .str ⟨#[c]⟩ else none
  | _, _ => none
theorem opd_ix : OpD T (rIx T.K) dIx := fun b H P x y dx dy dz Q hP hx hy hz k => by
  cases dx <;> try cases hz
  all_goals (cases dy <;> try cases hz)
  · rename_i z i
    have hz' : (if z.length ≤ 100000 then (atI z.cps.toList i).map fun c => D.str ⟨#[c]⟩ else none) = some dz := hz
    by_cases hl : z.length ≤ 100000
    · rw [if_pos hl] at hz'
      obtain ⟨ch, e1, rfl⟩ := map_some hz'
      rw [hx.str, hy.int]
      exact .inr (.inr ⟨z, i, ch, rfl, rfl, sz_of hl, e1, k _ H (Same.refl H) (.str _)⟩)
    · rw [if_neg hl] at hz'
      cases hz'
  · obtain ⟨p, vs, rfl, h1, r1⟩ := hx.lst
    obtain ⟨v, e1, r2⟩ := atI_rep r1 (show atI _ _ = some dz from hz)
    rw [hy.int]
    exact .inl ⟨p, vs, _, v, rfl, rfl, .inl (.inl h1), e1, k _ H (Same.refl H) r2⟩
  · obtain ⟨p, vs, rfl, h1, r1⟩ := hx.tup
    obtain ⟨v, e1, r2⟩ := atI_rep r1 (show atI _ _ = some dz from hz)
    rw [hy.int]
    exact .inr (.inl ⟨p, vs, _, v, rfl, rfl, h1, e1, k _ H (Same.refl H) r2⟩)
theorem pd_dix (hK : X.K = T.K) (ha : PE X a (E T W .tr fa)) (hb : PE X b (E T W .tr fb)) (hs : PlainIx b := by exact fun _ _ => rfl) : PE X (.Subscript a b pos) (E T W .fz (e2 dIx fa fb)) := by
  have h := ix_seq (X := X)
  rw [hK] at h
  exact pd_ix h opd_ix ha hb hs
/-! ### slices -/
def ORes (T : Tb) (W : WX) (c : Cf) (own : Ow) (σ : L2.St) (H : Hp) (Q : Option Int → Hp → Prop) : R (Option Int) → Prop
  | .ok d x => ∀ H', Grow c.b H H' → BoxRel c.b x H' → Q d H'
  | .er e x => ∀ cls dd H', Grow c.b H H' → BoxRel c.b x H' → RepE T c.b H' (Pp c own) cls dd e → W cls dd σ H'
  | .no => False
def EO (T : Tb) (W : WX) (f : Gm → M (Option Int)) : TO := fun σ H Q => ∃ c own Γ x, Sat T c own Γ x σ H ∧ ORes T W c own σ H Q (f Γ x)
theorem _root_.L2.PO.mono {oe : Option Expr} {t t' : TO} (h : PO X oe t) (k : ∀ σ H Q, t' σ H Q → t σ H Q) : PO X oe t' := ⟨fun pins s σ H R I q => h.run pins s σ H R I (k σ H R q)⟩
def oNo : Gm → M (Option Int) := fun _ => M.pure none
def oInt : D → M (Option Int)
  | .int i => M.pure (some i)
  | _ => M.no
def oYes (f : EC) : Gm → M (Option Int) := fun Γ => bnd (f Γ) oInt
theorem po_dnone : PO X none (EO T W oNo) := po_none.mono fun σ H Q ⟨c, own, Γ, x, s, r⟩ => r H Grow.refl s.bx
theorem po_dsome (h : PE X e (E T W .tr f)) : PO X (some e) (EO T W (oYes f)) := (po_some h).mono fun σ H Q ⟨c, own, Γ, x, s, r⟩ => ⟨c, own, Γ, x, s, by
  cases hf : f Γ x with
  | no => rw [show oYes f Γ x = _ from bnd_no hf] at r; exact r
  | er e x1 => rw [show oYes f Γ x = _ from bnd_er hf] at r; exact r
  | ok d x1 =>
    rw [show oYes f Γ x = _ from bnd_ok hf] at r
    refine fun v H1 g bx q => ?_
    cases d with
    | int i => exact ⟨i, q.int, r H1 g bx⟩
    | _ => exact r.elim⟩
def cutD (ds : List D) (lo hi : Option Int) : List D := (ds.drop (HT.sIx ds.length 0 lo)).take (HT.sIx ds.length ds.length hi - HT.sIx ds.length 0 lo)
theorem RepL.cut {b : Option Addr} {P : Addr → Prop} (r : RepL T b H P vs ds) (lo hi : Option Int) : RepL T b H P (cutV vs lo hi) (cutD ds lo hi) := by
  unfold cutV cutD
  rw [r.length]
  exact (r.drop _).take _
def dSl (lo hi : Option Int) : D → Option D
  | .lst ds => some (.lst (cutD ds lo hi))
  | .tup ds => some (.tup (cutD ds lo hi))
  | .str z => if z.length ≤ 100000 then some (.str (cutS z lo hi)) else none
  | .scr ns => some (.lst (cutD (ns.map D.int) lo hi))
  | _ => none
theorem repL_ints {b : Option Addr} {P : Addr → Prop} : ∀ ns : List Int, RepL T b H P (ns.map V.int) (ns.map D.int)
  | [] => .nil
  | n :: ns => .cons (.int n) (repL_ints ns)
theorem RepQ.scr {b : Option Addr} {P : Addr → Prop} {v : V} {ns : List Int} (h : RepQ T b H P v (.scr ns)) : ∃ p, v = .ref p ∧ SqL T.K H p (ns.map V.int) := by
  rcases h with h | ⟨_, _, _, h⟩
  · cases h with
    | scr h1 h2 => exact ⟨_, rfl, .inl h2⟩
    | scrK h => exact ⟨_, rfl, .inr h⟩
  · exact h.elim
def dSlL (lo hi : Option Int) : D → Option D
  | .lst ds => some (.lst (cutD ds lo hi))
  | _ => none
def eSl (h : Option Int → Option Int → D → Option D) (f : EC) (lo hi : Gm → M (Option Int)) : EC := fun Γ => bnd (f Γ) fun d => bnd (lo Γ) fun a => bnd (hi Γ) fun b => opt (h a b d)
def rSlU (K : PySem.W.Frag) : V → Option Int → Option Int → Hp → VK → Prop := fun x lo hi H Q => rSlL K x lo hi H Q ∨ rSlA K x lo hi H Q ∨ rSlS x lo hi H Q
theorem sl_U : SlR X (rSlU X.K) := sl_list.or (sl_tupA.or sl_str)
/-- the parts of a slice -/
theorem sl_read {k : D → Option Int → Option Int → M D} {lo hi : Gm → M (Option Int)} (h : E T W m (fun Γ => bnd (f Γ) fun d => bnd (lo Γ) fun a => bnd (hi Γ) fun b => k d a b) σ H Q) :
    E T W .tr f σ H fun v H1 => EO T W lo σ H1 fun a H2 => EO T W hi σ H2 fun b H3 => ∃ c own Γ x d, Sat T c own Γ x σ H3 ∧ RepQ T c.b H3 (Pp c own) v d ∧ ERes T W m c own σ H3 Q (k d a b x) := by
  obtain ⟨c, own, Γ, x, s, r⟩ := h
  refine ⟨c, own, Γ, x, s, (res_bind (m' := .tr) s r).imp fun v H1 ⟨d, x1, s1, g1, q1, r1⟩ => ⟨c, own, Γ, x1, s1, ?_⟩⟩
  cases h2 : lo Γ x1 with
  | no => rw [bnd_no h2] at r1; exact r1
  | er e x2 => rw [bnd_er h2] at r1; exact r1
  | ok a x2 =>
    rw [bnd_ok h2] at r1
    refine fun H2 g2 bx2 => ⟨c, own, Γ, x2, s1.grow g2 bx2, ?_⟩
    replace r1 := r1.at g2
    cases h3 : hi Γ x2 with
    | no => rw [bnd_no h3] at r1; exact r1
    | er e x3 => rw [bnd_er h3] at r1; exact r1
    | ok b x3 =>
      rw [bnd_ok h3] at r1
      exact fun H3 g3 bx3 => ⟨c, own, Γ, x3, d, (s1.grow g2 bx2).grow g3 bx3, RepQ.grow (g2.trans g3) q1, r1.at g3⟩
theorem EO.imp {fo : Gm → M (Option Int)} {Q Q' : Option Int → Hp → Prop} (h : EO T W fo σ H Q) (k : ∀ v H', Q v H' → Q' v H') : EO T W fo σ H Q' := by
  obtain ⟨c, own, Γ, x, s, r⟩ := h
  refine ⟨c, own, Γ, x, s, ?_⟩
  cases hf : fo Γ x with
  | ok d x1 => rw [hf] at r; exact fun H1 g1 bx => k _ _ (r H1 g1 bx)
  | er d x1 => rw [hf] at r; exact r
  | no => rw [hf] at r; exact r
theorem pd_slice {lo hi : Option Expr} {flo fhi : Gm → M (Option Int)} {p2 : Pos} (hK : X.K = T.K) (he : PE X e (E T W .tr f)) (hl : PO X lo (EO T W flo)) (hu : PO X hi (EO T W fhi)) : PE X (.Subscript e (.Slice lo hi none p2) pos) (E T W .fz (eSl dSl f flo fhi)) := by
  have h := sl_U (X := X)
  rw [hK] at h
  refine (pe_slice h he hl hu).mono fun σ H Q h => (sl_read h).imp fun v H1 h1 => h1.imp fun a H2 h2 => h2.imp fun b H3 ⟨c, own, Γ, x, d, s, q, r⟩ => ?_
  cases d with
  | lst ds =>
    obtain ⟨p, vs, rfl, h1, r1⟩ := q.lst
    exact .inl ⟨p, vs, rfl, .inl (.inl h1), fun w n => r _ _ (Grow.same (Same.upd' n)) (s.bx.same (Same.upd' n)) (.lst (s.freshP n) upd_same ((r1.cut _ _).same (Same.upd' n)))⟩
  | tup ds =>
    have q' := q
    obtain ⟨p, vs, rfl, h1, r1⟩ := q.tup
    refine .inr (.inl ⟨p, vs, rfl, h1, fun hw => ?_, fun _ w n => r _ _ (Grow.same (Same.upd' n)) (s.bx.same (Same.upd' n)) (.tup (s.freshP n) upd_same ((r1.cut _ _).same (Same.upd' n)))⟩)
    have e1 : cutD ds a b = ds := by
      unfold cutD
      rw [r1.length] at hw
      rw [hw.1, hw.2]
      simp
    have r' : ERes T W .fz c own σ H3 Q (.ok (.tup (cutD ds a b)) x) := r
    rw [e1] at r'
    rcases q' with q' | ⟨_, _, _, q'⟩
    · exact r' _ H3 Grow.refl s.bx q'
    · exact q'.elim
  | scr ns =>
    obtain ⟨p, rfl, hs1⟩ := q.scr
    exact .inl ⟨p, _, rfl, hs1, fun w n => r _ _ (Grow.same (Same.upd' n)) (s.bx.same (Same.upd' n)) (.lst (s.freshP n) upd_same (((repL_ints ns).cut _ _).same (Same.upd' n)))⟩
  | str z =>
    have r' : ERes T W .fz c own σ H3 Q (opt (if z.length ≤ 100000 then some (.str (cutS z a b)) else none) x) := r
    by_cases hz : z.length ≤ 100000
    · rw [if_pos hz] at r'
      exact .inr (.inr ⟨z, q.str, sz_of hz, r' _ H3 Grow.refl s.bx (.str _)⟩)
    · rw [if_neg hz] at r'
      exact r'.elim
  | _ => exact r.elim
/-- a slice of a list, as a new list -/
theorem pf_slice {lo hi : Option Expr} {flo fhi : Gm → M (Option Int)} {p2 : Pos} (hK : X.K = T.K) (he : PE X e (E T W .tr f)) (hl : PO X lo (EO T W flo)) (hu : PO X hi (EO T W fhi)) : PE X (.Subscript e (.Slice lo hi none p2) pos) (EF T W (eSl dSlL f flo fhi)) := by
  have h := sl_list (X := X)
  rw [hK] at h
  refine (pe_slice h he hl hu).mono fun σ H Q ⟨c, own, Γ, x, s, r⟩ => ⟨c, own, Γ, x, s, ?_⟩
  cases h1 : f Γ x with
  | no => rw [show eSl dSlL f flo fhi Γ x = _ from bnd_no h1] at r; exact r
  | er e x2 => rw [show eSl dSlL f flo fhi Γ x = _ from bnd_er h1] at r; exact r
  | ok d x1 =>
    rw [show eSl dSlL f flo fhi Γ x = _ from bnd_ok h1] at r
    refine fun v H1 g1 bx1 q1 => ⟨c, own, Γ, x1, s.grow g1 bx1, ?_⟩
    have s1 := s.grow g1 bx1
    replace r := r.at g1 fun p n => s1.none_back' s g1 n
    cases h2 : flo Γ x1 with
    | no => rw [bnd_no h2] at r; exact r
    | er e x2 => rw [bnd_er h2] at r; exact r
    | ok a x2 =>
      rw [bnd_ok h2] at r
      refine fun H2 g2 bx2 => ⟨c, own, Γ, x2, s1.grow g2 bx2, ?_⟩
      have s2 := s1.grow g2 bx2
      replace r := r.at g2 fun p n => s2.none_back' s1 g2 n
      cases h3 : fhi Γ x2 with
      | no => rw [bnd_no h3] at r; exact r
      | er e x3 => rw [bnd_er h3] at r; exact r
      | ok b x3 =>
        rw [bnd_ok h3] at r
        refine fun H3 g3 bx3 => ?_
        have s3 := s2.grow g3 bx3
        replace r := r.at g3 fun p n => s3.none_back' s2 g3 n
        cases d with
        | lst ds =>
          obtain ⟨p, vs, rfl, e1, r1⟩ := (RepQ.grow (g2.trans g3) q1).lst
          exact ⟨p, vs, rfl, .inl (.inl e1), fun w n => r w _ n (Grow.same (Same.upd' n)) (s3.bx.same (Same.upd' n)) (own_new n (r1.cut a b)) rfl⟩
        | _ => exact r.elim
/-! ### numbers -/
instance {i j : Int} : Decidable (CMul i j) := by unfold CMul; infer_instance
instance {i j : Int} : Decidable (CMulW i j) := by unfold CMulW; infer_instance
instance {i j : Int} : Decidable (CDivW i j) := by unfold CDivW; infer_instance
instance {i j : Int} : Decidable (CPow i j) := by unfold CPow; infer_instance
def dMul : D → D → Option D
  | .int i, .int j => if CMul i j ∨ CMulW i j then some (.int (i * j)) else none
  | .lst ds, .int k => if -(2 ^ 63) ≤ k ∧ k < 2 ^ 63 ∧ ds.length * k.toNat ≤ 100000 then some (.lst (List.replicate k.toNat ds).flatten) else none
  | _, _ => none
def rMulU : R2 := fun x y H Q => (rI CMul fun i j => .int (i * j)) x y H Q ∨ (rI CMulW fun i j => .int (i * j)) x y H Q ∨ rRep x y H Q
theorem op_mulU : OpR X (binaryOp .Mult) rMulU := op_mul.or (op_mulW.or op_rep)
theorem RepL.rep {b : Option Addr} {P : Addr → Prop} (r : RepL T b H P vs ds) : ∀ n : Nat, RepL T b H P (List.replicate n vs).flatten (List.replicate n ds).flatten
  | 0 => .nil
  | n + 1 => by
    rw [List.replicate_succ, List.replicate_succ, List.flatten_cons, List.flatten_cons]
    exact r.append (RepL.rep r n)
theorem opd_mulU : OpD T rMulU dMul := fun b H P x y dx dy dz Q hP hx hy hz k => by
  cases dx <;> try cases hz
  all_goals (cases dy <;> try cases hz)
  · obtain ⟨h1, rfl⟩ := ite_some hz
    rw [hx.int, hy.int]
    rcases h1 with h1 | h1
    · exact .inl ⟨_, _, rfl, rfl, h1, k _ H (Same.refl H) (.int _)⟩
    · exact .inr (.inl ⟨_, _, rfl, rfl, h1, k _ H (Same.refl H) (.int _)⟩)
  · obtain ⟨⟨h1, h2, h3⟩, rfl⟩ := ite_some hz
    obtain ⟨p, vs, rfl, e1, r1⟩ := hx.lst
    rw [hy.int]
    exact .inr (.inr ⟨p, _, vs, rfl, rfl, e1, h1, h2, by rw [r1.length]; exact sz_of h3, fun w n => k _ _ (Same.upd' n) (.lst (hP w n) upd_same ((r1.rep _).same (Same.upd' n)))⟩)
def dMod : D → D → Option D := dInt2 fun i j => if 0 < j then some (.int (i % j)) else none
theorem opd_mod : OpD T (rI (fun _ j => 0 < j) fun i j => .int (i % j)) dMod := opd_I fun _ _ _ _ _ => .int _
def dFdiv : D → D → Option D := dInt2 fun i j => if CDivW i j then some (.int (i / j)) else none
theorem opd_fdiv : OpD T (rI CDivW fun i j => .int (i / j)) dFdiv := opd_I fun _ _ _ _ _ => .int _
def dPow : D → D → Option D := dInt2 fun i j => if CPow i j then some (.int (i ^ j.toNat)) else none
theorem opd_pow : OpD T (rI CPow fun i j => .int (i ^ j.toNat)) dPow := opd_I fun _ _ _ _ _ => .int _
theorem opd_sub : OpD T (rI0 fun i j => .int (i - j)) dSub := opd_I0 fun _ _ _ _ _ => .int _
theorem opd_lt : OpD T (rI0 fun i j => .bl (decide (i < j))) dLt := opd_I0 fun _ _ _ _ _ => .bl _
theorem opd_le : OpD T (rI0 fun i j => .bl (decide (i ≤ j))) dLe := opd_I0 fun _ _ _ _ _ => .bl _
theorem opd_gt : OpD T (rI0 fun i j => .bl (decide (j < i))) dGt := opd_I0 fun _ _ _ _ _ => .bl _
theorem opd_ge : OpD T (rI0 fun i j => .bl (decide (j ≤ i))) dGe := opd_I0 fun _ _ _ _ _ => .bl _
def dNeg : D → Option D
  | .int i => some (.int (-i))
  | _ => none
theorem pd_neg (ha : PE X a (E T W .tr fa)) : PE X (.UnaryOp .USub a pos) (E T W .fz (e1 dNeg fa)) := (pe_un un_neg ha).mono fun σ H Q h => (e_then (m' := .tr) h).imp fun v H1 ⟨c, own, Γ, x, d, s, q, r⟩ => by
  cases d with
  | int i => exact ⟨i, RepQ.int q, r _ H1 Grow.refl s.bx (.int _)⟩
  | _ => exact r.elim
/-! ### in -/
def flatD : D → Option V
  | .non => some .non
  | .bl k => some (.bl k)
  | .int i => some (.int i)
  | .str z => some (.str z)
  | _ => none
def flatsD : List D → Option (List V)
  | [] => some []
  | d :: ds => (flatD d).bind fun v => (flatsD ds).map (v :: ·)
theorem flat_rep {b : Option Addr} {P : Addr → Prop} {d : D} {v u : V} (h : RepQ T b H P v d) (e : flatD d = some u) : v = u ∧ flatV u = true := by
  cases d <;> try cases e
  · exact ⟨h.non, rfl⟩
  · exact ⟨h.bl, rfl⟩
  · exact ⟨h.int, rfl⟩
  · exact ⟨h.str, rfl⟩
theorem flats_rep {b : Option Addr} {P : Addr → Prop} : ∀ {ds : List D} {vs us : List V}, RepL T b H P vs ds → flatsD ds = some us → vs = us ∧ us.all flatV = true
  | [], _, _, h, e => by cases e; cases h; exact ⟨rfl, rfl⟩
  | d :: ds, _, _, h, e => by
    unfold flatsD at e
    cases hd : flatD d with
    | none => rw [hd] at e; cases e
    | some u =>
      rw [hd] at e
      obtain ⟨us, e1, rfl⟩ := map_some e
      cases h with
      | cons h1 h2 =>
        obtain ⟨rfl, f1⟩ := flat_rep (.inl h1) hd
        obtain ⟨rfl, f2⟩ := flats_rep h2 e1
        exact ⟨rfl, by rw [List.all_cons, f1, f2]; rfl⟩
/-- x in y: one sign in a text; a flat thing in a list or tuple of such -/
def dIn (f : Bool → Bool) : D → D → Option D
  | .str c, .str z => if c.cps.size = 1 then some (.bl (f (decide (c.cps.toList.headD 0 ∈ z.cps.toList)))) else none
  | d, .lst ds => (flatD d).bind fun v => (flatsD ds).map fun vs => .bl (f (inV v vs))
  | d, .tup ds => (flatD d).bind fun v => (flatsD ds).map fun vs => .bl (f (inV v vs))
  | _, _ => none
def rInU (K : PySem.W.Frag) (neg : Bool) : R2 := fun x y H Q => (∃ (c : Nat) (z : Str), x = .str ⟨#[c]⟩ ∧ y = .str z ∧ Q (.bl (if neg then !decide (c ∈ z.cps.toList) else decide (c ∈ z.cps.toList))) H) ∨ rIn K neg x y H Q
theorem op_inU : OpR X (compareOp .In) (rInU X.K false) := op_in_sign.or op_in_seq
theorem op_ninU : OpR X (compareOp .NotIn) (rInU X.K true) := op_notIn_sign.or op_notIn_seq
def negF (neg : Bool) : Bool → Bool := fun k => if neg then !k else k
theorem one_sign {z : Str} (h : z.cps.size = 1) : z = ⟨#[z.cps.toList.headD 0]⟩ := by
  obtain ⟨⟨l⟩⟩ := z
  match l, h with
  | [c], _ => rfl
theorem opd_in {neg : Bool} : OpD T (rInU T.K neg) (dIn (negF neg)) := fun b H P x y dx dy dz Q hP hx hy hz k => by
  unfold dIn at hz
  split at hz
  · rename_i ch z
    obtain ⟨h1, rfl⟩ := ite_some hz
    rw [hy.str]
    refine .inl ⟨ch.cps.toList.headD 0, z, by rw [hx.str]; exact congrArg V.str (one_sign h1), rfl, k _ H (Same.refl H) (.bl _)⟩
  · cases hd : flatD dx with
    | none => rw [hd] at hz; cases hz
    | some u =>
      rw [hd] at hz
      obtain ⟨us, e1, rfl⟩ := map_some hz
      obtain ⟨rfl, f1⟩ := flat_rep hx hd
      obtain ⟨p, vs, rfl, h1, r1⟩ := hy.lst
      obtain ⟨rfl, f2⟩ := flats_rep r1 e1
      exact .inr ⟨p, _, rfl, .inl (.inl (.inl h1)), f1, f2, k _ H (Same.refl H) (.bl _)⟩
  · cases hd : flatD dx with
    | none => rw [hd] at hz; cases hz
    | some u =>
      rw [hd] at hz
      obtain ⟨us, e1, rfl⟩ := map_some hz
      obtain ⟨rfl, f1⟩ := flat_rep hx hd
      obtain ⟨p, vs, rfl, h1, r1⟩ := hy.tup
      obtain ⟨rfl, f2⟩ := flats_rep r1 e1
      exact .inr ⟨p, _, rfl, .inr h1, f1, f2, k _ H (Same.refl H) (.bl _)⟩
  · cases hz
end
end DL

namespace DL
open PySem PySem.Spec PyProof.Rows L2
/-! ### exceptions: their making -/
/-- __init__ of an own exception: what it leaves -/
def spX (C : Addr) (n : Nat) (Rl : List V → Hp → Hp → List (Str × V) → Prop) : Sp := fun vs H Q _ => ∃ a us, vs = .ref a :: us ∧ us.length = n ∧ H a = some (exo a C none) ∧
  ∀ G d gs, Same H G → G d = none → d ≠ a → Rl us H G gs → Q .non (upd (upd G d (exd d gs)) a (exo a C (some d)))
/-- the arguments, as the fields fl; or given = () -/
def RlN (fl : List Str) : List V → Hp → Hp → List (Str × V) → Prop := fun us H G gs => G = H ∧ gs = (fl.zip us).reverse
def Rl0 : List V → Hp → Hp → List (Str × V) → Prop := fun us H G gs => ∃ p, H p = none ∧ G = upd H p (.tup []) ∧ gs = [(("given" : Str), .ref p)]
section
variable {X : Cx} {T : Tb} {W : WX} {pins : List (Addr × Obj)} {σ : L2.St} {H : Hp} {s s' : Shared} {e : Expr} {es : List Expr} {pos p : Pos} {y : Str}
/-- a made exception, tracked as a value -/
theorem mk_val {Q : VK} {u : Value} {Qx : XK} (h : MkP X pins σ Qx u s') (k : ∀ a cls d H', H' a = none → Qx cls d H' → Q (.ref a) (upd H' a (exV cls d a))) : EP X pins σ Q u s' := by
  obtain ⟨a, oe, vs, sI, H', cls, d, rfl, J, kp, hne, ha, hz, hd, h1, na, os, ag, r, q⟩ := h
  have hob : ObjOk X.prog X.w (upd H' a (exV cls d a)) s'.heap a (exV cls d a) := ⟨⟨oe, vs, ha, hz, hd⟩, ⟨oe, ha⟩, fun h1 h2 ⟨o, v, e, r⟩ kk => ⟨o, v, kk o e, r⟩⟩
  have I1 : Inv X pins σ (upd H' a (exV cls d a)) { sI with heap := s'.heap, toks := s'.toks } := J.laidN kp hne na hob
  obtain ⟨h5, g5, d5, t5, o5⟩ := s'
  have e5 : o5 = sI.os := os
  subst e5
  exact ⟨.ref a, _, ⟨I1.ok, I1.os, ag, I1.base, I1.loc, I1.cell, I1.free, I1.freeC, I1.pin, I1.hok, I1.len⟩, rfl, k a cls d H' na q⟩
theorem PMk.mono {t t' : L2.St → Hp → XK → Prop} (h : PMk X e t) (k : ∀ σ H Q, t' σ H Q → t σ H Q) : PMk X e t' := fun pins s σ H Q I q => h pins s σ H Q I (k σ H Q q)
theorem pe_mk {t : L2.St → Hp → XK → Prop} (h : PMk X e t) : PE X e (fun σ H Q => t σ H fun cls d H' => ∀ a, H' a = none → Q (.ref a) (upd H' a (exV cls d a))) := ⟨fun pins s σ H Q I q => wpAny_mono (h pins s σ H _ I q) (fun u s1 m => mk_val m fun a cls d H' n q => q a n) fun _ _ z => z⟩
/-- what the text says of an own exception class -/
structure XcOk (P : Program) (w : World) (K : PySem.W.Frag) (mg : Str → Option Value) (base : Heap) (T : Tb) (cn : Str) (n : Nat) (Rl : List V → Hp → Hp → List (Str × V) → Prop) (k : Nat) (C fI : Addr) (fd : FuncData) (ps : List Str) : Prop where
  cls : T.cls cn = some C
  oc : OexC K C
  ini : PySem.W.findIn K (.ref C) "__init__" = some (some (.ref fI))
  tyf : PySem.W.typeIn K (.ref fI) = some (.type "function")
  mgc : mg cn = some (.ref C)
  bnd : Binds K fd ps []
  fn : FnOk P w K mg base (L2.CX P w) k fI fd ps (spX C n Rl)
theorem del_upd_a {G : Hp} {a d : Addr} {o u : HO} : del (upd (upd G d o) a u) a = del (upd G d o) a := by
  funext b
  by_cases h : b = a
  · rw [h, del_same, del_same]
  · rw [del_ne h, del_ne h, upd_ne h]
/-- an exception's making, over trees -/
def XRes (T : Tb) (W : WX) (c : Cf) (own : Ow) (σ : L2.St) (H : Hp) (Q : XK) : R D → Prop
  | .ok d x => ∀ cls dd H', Grow c.b H H' → BoxRel c.b x H' → RepE T c.b H' (Pp c own) cls dd d → Q cls dd H'
  | .er e x => ∀ cls dd H', Grow c.b H H' → BoxRel c.b x H' → RepE T c.b H' (Pp c own) cls dd e → W cls dd σ H'
  | .no => False
def XM (T : Tb) (W : WX) (f : EC) : L2.St → Hp → XK → Prop := fun σ H Q => ∃ c own Γ x, Sat T c own Γ x σ H ∧ XRes T W c own σ H Q (f Γ x)
def eExc (cn : Str) (fl : List Str) (fs : AC) : EC := fun Γ => bnd (fs Γ) fun ds => M.pure (.exc cn (fl.zip ds).reverse)
theorem RepF.zip {T : Tb} {b : Option Addr} {H : Hp} {P : Addr → Prop} : ∀ {fl : List Str} {vs : List V} {ds : List D}, RepL T b H P vs ds → RepF T b H P (fl.zip vs) (fl.zip ds)
  | [], _, _, _ => .nil
  | f :: fl, _, _, .nil => .nil
  | f :: fl, _, _, .cons h1 h2 => .cons h1 (RepF.zip h2)
theorem RepF.append {T : Tb} {b : Option Addr} {H : Hp} {P : Addr → Prop} {fs gs : List (Str × V)} {ds es : List (Str × D)} (h : RepF T b H P fs ds) (h' : RepF T b H P gs es) : RepF T b H P (fs ++ gs) (ds ++ es) := by
  induction ds generalizing fs with
  | nil => cases h; exact h'
  | cons p ds ih => cases h with
    | cons h1 h2 => exact .cons h1 (ih h2)
theorem RepF.rev {T : Tb} {b : Option Addr} {H : Hp} {P : Addr → Prop} {fs : List (Str × V)} {ds : List (Str × D)} (h : RepF T b H P fs ds) : RepF T b H P fs.reverse ds.reverse := by
  induction ds generalizing fs with
  | nil => cases h; exact .nil
  | cons p ds ih => cases h with
    | cons h1 h2 => rw [List.reverse_cons, List.reverse_cons]; exact (ih h2).append (.cons h1 .nil)
theorem RepF.same {T : Tb} {b : Option Addr} {H H' : Hp} {P : Addr → Prop} (s : Same H H') {fs : List (Str × V)} {ds : List (Str × D)} (h : RepF T b H P fs ds) : RepF T b H' P fs ds := h.mono (fun a o _ e => s a o e) fun _ _ p _ => p
theorem h3_n {H1 : Hp} {a d : Addr} {gs : List (Str × V)} {o o' : HO} (na : H1 a = none) (ne : d ≠ a) : upd (del (upd (upd (upd H1 a o) d o') a o) a) d (.xd gs) = upd H1 d (.xd gs) := by
  funext b
  by_cases h : b = d
  · rw [h, upd_same, upd_same]
  · rw [upd_ne h, upd_ne h]
    by_cases h2 : b = a
    · rw [h2, del_same, na]
    · rw [del_ne h2, upd_ne h2, upd_ne h, upd_ne h2]
theorem pmk_n {cn : Str} {fl : List Str} {k n : Nat} {C fI : Addr} {fd : FuncData} {ps : List Str} {fs : AC} (Z : XcOk X.prog X.w X.K X.mg X.base T cn fl.length (RlN fl) k C fI fd ps) (hr : Room (k + 1) X.A) (hg : Gl X cn) (ha : PA X (e :: es) (EL T W n fs)) (hn : n = fl.length := by rfl) (hn2 : n ≤ 1000 := by decide)
    (hdb : (cn == ("__debug__" : Str)) = false := by decide) (he : starEach (e :: es) X.env = (false, eval e X.env) :: starEach es X.env := by rfl) (hpl : (backTo pos (starEach es X.env)).any (·.1) = false := by rfl) : PMk X (.Call (.Name cn p) (e :: es) [] pos) (XM T W (eExc cn fl fs)) :=
  PMk.mono (pmk_oex (dvs := []) Z.oc Z.ini Z.tyf Z.fn hr Z.bnd .nil passL hg Z.mgc ha hdb he hpl) fun σ H Q ⟨c, own, Γ, x, s, r⟩ => ⟨c, own, Γ, x, s, by
    cases hf : fs Γ x with
    | no => rw [show eExc cn fl fs Γ x = _ from bnd_no hf] at r; exact r
    | er e x1 => rw [show eExc cn fl fs Γ x = _ from bnd_er hf] at r; exact r
    | ok ds x1 =>
      rw [show eExc cn fl fs Γ x = _ from bnd_ok hf] at r
      refine fun vs H1 g bx q hl => ⟨by omega, fun a na => ⟨a, vs, by rw [List.append_nil], hl.trans hn, upd_same, fun G d gs sm nd ne hR => ?_⟩⟩
      obtain ⟨rfl, rfl⟩ := hR
      have nd1 : H1 d = none := by rw [upd_ne ne] at nd; exact nd
      refine ⟨rfl, d, _, upd_same, by rw [upd_ne ne, upd_same], nd1, ?_⟩
      have eq : upd (del (upd (upd (upd H1 a (exo a C none)) d (exd d (fl.zip vs).reverse)) a (exo a C (some d))) a) d (.xd (fl.zip vs).reverse) = upd H1 d (.xd (fl.zip vs).reverse) := by
        funext b
        by_cases h : b = d
        · rw [h, upd_same, upd_same]
        · rw [upd_ne h, upd_ne h]
          by_cases h2 : b = a
          · rw [h2, del_same, na]
          · rw [del_ne h2, upd_ne h2, upd_ne h, upd_ne h2]
      rw [eq]
      have s1 := s.grow g bx
      have sm1 : Same H1 (upd H1 d (.xd (fl.zip vs).reverse)) := Same.upd' nd1
      exact r _ _ _ (g.trans (Grow.same sm1)) (bx.same sm1) ⟨cn, C, d, _, _, rfl, Z.cls, rfl, rfl, s1.freshP nd1, upd_same, ((RepF.zip q).rev).same sm1⟩⟩
def eExc0 (cn : Str) : EC := fun _ => M.pure (.exc cn [(("given" : Str), .tup [])])
/-- pmk_oex, without arguments -/
theorem pmk_oex0 {CX : CXT} {x : Str} {C fI : Addr} {k : Nat} {fd : FuncData} {ps : List Str} {sp : Sp} (T : OexC X.K C) (iC : PySem.W.findIn X.K (.ref C) "__init__" = some (some (.ref fI))) (tI : PySem.W.typeIn X.K (.ref fI) = some (.type "function"))
    (F1 : FnOk X.prog X.w X.K X.mg X.base CX k fI fd ps sp) (hr : Room (k + 1) X.A) (hb : Binds X.K fd ps []) (hx : Passes CX X (fun _ _ _ => False)) (hg : Gl X x) (hm : X.mg x = some (.ref C)) (hdb : (x == ("__debug__" : Str)) = false := by decide) :
    PMk X (.Call (.Name x p) [] [] pos) (tMkO C sp [] tNil) := by
  intro pins s σ H Q I h
  obtain ⟨nm, q, N, bs, bm, sn, sub, ab, col, dd, k0, k1, k2, k3, k5, hC, hbm⟩ := T.cls
  refine wpAny_Call_Name_kw (ld_glob I hg hm ?_ hdb)
  refine PySem.W.callWith_K0 I.kIn T.kC ?_
  show wpAny _ _ (call (.ref C) []) _ _ _
  obtain ⟨hz, q1⟩ := h
  obtain ⟨hp, g, dr, tk, os⟩ := s
  have hsz : hp.objs.size ≤ hp.objs.size + 1 := Nat.le_succ _
  have hn : H (hp.objs.size + 1) = none := I.hok.fresh hsz
  have hq := q1 (hp.objs.size + 1) hn
  have kk : ∀ b o, hp.get? b = some o → ((hp.push (PySem.W.kdv_tup [])).push (PySem.HandSPX.excO C hp.objs.size)).get? b = some o := fun b o e => Heap.get?_push_of_some _ (Heap.get?_push_of_some _ e)
  have hget : ((hp.push (PySem.W.kdv_tup [])).push (PySem.HandSPX.excO C hp.objs.size)).get? (hp.objs.size + 1) = some (PySem.HandSPX.excO C hp.objs.size) := by heap_get
  have I2 : Inv X pins σ (upd H (hp.objs.size + 1) (exo (hp.objs.size + 1) C none)) ⟨(hp.push (PySem.W.kdv_tup [])).push (PySem.HandSPX.excO C hp.objs.size), g, dr, tk, os⟩ :=
    I.laid (t' := tk) (a := hp.objs.size + 1) (o := exo (hp.objs.size + 1) C none) (h' := (hp.push (PySem.W.kdv_tup [])).push (PySem.HandSPX.excO C hp.objs.size)) kk hsz (exo_ok hget)
  have r2 : Vals [V.ref (hp.objs.size + 1)] [Value.ref (hp.objs.size + 1)] := .cons rfl .nil
  have hl : ([Value.ref (hp.objs.size + 1)] ++ []).length = ps.length := by
    have e := F1.len _ _ _ _ hq
    rw [← e]
    rfl
  have hbb := hb _ [Value.ref (hp.objs.size + 1)] I2.kIn hl
  rw [List.append_nil] at hbb
  refine wpAny_call (PySem.HandSPX.call_own F.excBase_ValueError (fun Y => PySem.HandSPX.refsVE_contains Y bm hbm) (I.kIn _ _ hC) (PySem.W.looks_findIn I.kIn iC) (fun self => PySem.W.bind_fn I.kIn self tI) (Nat.zero_le _)
    (codeAny_mono (F1.run _ X.stack _ _ ⟨[Value.ref (hp.objs.size + 1)], []⟩ [Value.ref (hp.objs.size + 1)] [V.ref (hp.objs.size + 1)] _ (fun _ _ _ => False) (hr.make C [] []) (I2.env0.make C [] []) hbb r2 hq) fun r s' hq' => ?_))
  cases r with
  | error er => exact hx pins σ _ _ er s' I2 hq'
  | ok fl =>
    cases fl with
    | ret u =>
      obtain ⟨v, H2, os2, bare2, un2, hok2, rv, ev, d, fs, ea, ed, hd1, q2⟩ := hq'
      subst ev
      obtain ⟨h2, g2, d2, t2, os'⟩ := s'
      exact ⟨rv, mk_end (raises_own T.exC T.tyC) I hsz kk un2 hok2 os2 bare2 ea ed hd1 q2⟩
    | next => exact False.elim hq'
    | brk => exact False.elim hq'
    | cont => exact False.elim hq'
theorem pmk_0 {cn : Str} {k : Nat} {C fI : Addr} {fd : FuncData} {ps : List Str} (Z : XcOk X.prog X.w X.K X.mg X.base T cn 0 Rl0 k C fI fd ps) (hr : Room (k + 1) X.A) (hg : Gl X cn) (hdb : (cn == ("__debug__" : Str)) = false := by decide) : PMk X (.Call (.Name cn p) [] [] pos) (XM T W (eExc0 cn)) :=
  PMk.mono (pmk_oex0 Z.oc Z.ini Z.tyf Z.fn hr Z.bnd passL hg Z.mgc hdb) fun σ H Q ⟨c, own, Γ, x, s, r⟩ => ⟨Nat.zero_le _, fun a na => ⟨a, [], rfl, rfl, upd_same, fun G d gs sm nd ne hR => by
    obtain ⟨q, nq, rfl, rfl⟩ := hR
    have nqa : q ≠ a := fun z => by rw [z, upd_same] at nq; cases nq
    have nq1 : H q = none := by rw [upd_ne nqa] at nq; exact nq
    have ndq : d ≠ q := fun z => by rw [z, upd_same] at nd; cases nd
    have nd1 : H d = none := by rw [upd_ne ndq, upd_ne ne] at nd; exact nd
    refine ⟨rfl, d, _, upd_same, by rw [upd_ne ne, upd_same], nd1, ?_⟩
    have eq : upd (del (upd (upd (upd (upd H a (exo a C none)) q (.tup [])) d (exd d [(("given" : Str), .ref q)])) a (exo a C (some d))) a) d (.xd [(("given" : Str), .ref q)]) = upd (upd H q (.tup [])) d (.xd [(("given" : Str), .ref q)]) := by
      funext b
      by_cases h : b = d
      · rw [h, upd_same, upd_same]
      · rw [upd_ne h, upd_ne h]
        by_cases h2 : b = a
        · rw [h2, del_same, upd_ne (Ne.symm nqa), na]
        · rw [del_ne h2, upd_ne h2, upd_ne h]
          by_cases h3 : b = q
          · rw [h3, upd_same, upd_same]
          · rw [upd_ne h3, upd_ne h2, upd_ne h3]
    rw [eq]
    have sm1 : Same H (upd H q (.tup [])) := Same.upd' nq1
    have nd2 : upd H q (.tup []) d = none := by rw [upd_ne ndq]; exact nd1
    have sm2 : Same (upd H q (.tup [])) (upd (upd H q (.tup [])) d (.xd [(("given" : Str), .ref q)])) := Same.upd' nd2
    have s1 := s.grow (Grow.same sm1) (s.bx.same sm1)
    exact r _ _ _ (Grow.same (sm1.trans sm2)) ((s.bx.same sm1).same sm2) ⟨cn, C, d, _, _, rfl, Z.cls, rfl, rfl, s1.freshP nd2, upd_same, .cons (.tup (s.freshP nq1) (sm2 _ _ upd_same) .nil) .nil⟩⟩⟩
/-- raise X(..) -/
def sRaise (f : EC) : SC := fun Γ x => match f Γ x with
  | .ok d x => .er d Γ x
  | .er d x => .er d Γ x
  | .no => .no
theorem ps_draise {f : EC} (hc : X.calm = true) (tk : Takes X W) (he : PMk X e (XM T W f)) : PS X (.Raise (some e) none pos) (SS T W (sRaise f)) := (ps_raise hc tk he).mono fun D σ H ⟨c, own, Γ, x, s, r⟩ => ⟨c, own, Γ, x, s, by
  unfold sRaise at r
  cases hf : f Γ x with
  | ok d x1 => rw [hf] at r; exact fun cls dd H' g bx q => r cls dd own σ H' (Fz.grow g) (s.grow g bx) q
  | er d x1 => rw [hf] at r; exact fun cls dd H' g bx q => r cls dd own σ H' (Fz.grow g) (s.grow g bx) q
  | no => rw [hf] at r; exact r⟩
/-- X(..) as a value -/
theorem pd_exc {f : EC} (he : PMk X e (XM T W f)) : PE X e (E T W .fz f) := (pe_mk he).mono fun σ H Q ⟨c, own, Γ, x, s, r⟩ => ⟨c, own, Γ, x, s, by
  cases hf : f Γ x with
  | ok d x1 =>
    rw [hf] at r
    intro cls dd H' g bx q a na
    have s1 := s.grow g bx
    have sm1 : Same H' (upd H' a (exV cls dd a)) := Same.upd' na
    refine r _ _ (g.trans (Grow.same sm1)) (bx.same sm1) ?_
    obtain ⟨c', C, d', fs, ds, rfl, h2, rfl, rfl, h5, h6, h7⟩ := q
    exact .exc (s1.freshP na) h5 h2 upd_same (sm1 _ _ h6) (h7.same sm1)
  | er d x1 => rw [hf] at r; exact r
  | no => rw [hf] at r; exact r⟩
end
end DL

namespace PySem.W
open PySem PySem.Spec PySem.Calls PyProof.Rows
section
variable {prog : Program} {w : World} {A : Around} {E : Value → Shared → Prop} {s : Shared} {K : Frag} {x D : Addr} {ox : Obj} {od : Option Obj}
theorem kin_classE2 {Q : Option Value → Shared → Prop} (hga : findIn K (.ref D) "__getattribute__" = some (some (.builtin "BaseException.__getattribute__"))) (hgt : findIn K (.ref D) "__getattr__" = some none) (hsub : subIn K (.ref D) (.type "BaseException") = some true)
    (hdct : hasDictIn K D = true) (ha : findIn K (.ref D) "__class__" = some (some (.builtin "object.__class__")))
    (hn : specialIn K (.builtin "object.__class__") "__get__" = some (some (.builtin "getset_descriptor.__get__"))) (htk : takesIn K (.builtin "object.__class__") = some true) (hm : mroIn K D (.type "object") = some true)
    (X : K.In s.heap) (I : InstAt s.heap x ox D od) (h : Q (some (.ref D)) { s with toks := s.toks + 1 }) : wpAny (model prog w) A (getAttr? (.ref x) "__class__") Q E s := by
  have hf : findObj K D od "__class__" = some (.bind (.builtin "getset_descriptor.__get__") (.builtin "object.__class__")) := by
    have hc : (clsIn K D).isSome = true := by obtain ⟨cd, hc, _⟩ := any_some hdct; rw [hc]; rfl
    cases od with
    | none => exact findObj_dataN hc ha hn htk
    | some o => exact findObj_data hc ha hn htk
  obtain ⟨hp, g, d, t, os⟩ := s
  have L0 := I.type (M := model prog w)
  have L1 := looks_findIn (M := model prog w) X hga
  have L2 := looks_findIn (M := model prog w) X hgt
  have L3 := looks_find (M := model prog w) X I hf
  have sub : Looks (model prog w) hp (isInstance (.ref x) (.type "BaseException")) true := L0.andThen (looks_subIn X hsub)
  have hx0 : (false && onTheHeap (Value.builtin "BaseException.__getattribute__")) = false := rfl
  have hx2 : (Value.builtin "BaseException.__getattribute__" == Value.builtin "object.__getattribute__") = false := by decide +kernel
  have hx1 : (onTheHeap (Value.ref D) && Value.builtin "BaseException.__getattribute__" == Value.builtin "object.__getattribute__") = false := by rw [hx2]; rfl
  unfold getAttr? getAttrBy? getAttrBy
  refine wpAny_bind (wpAny_mkText (wpAny_bind (wpAny_attempt (wpAny_holding (wpAny_bind (L0.at (wpAny_bind (L1.at ?_))))))))
  show wpAny _ _ (if (onTheHeap (Value.ref D) && Value.builtin "BaseException.__getattribute__" == Value.builtin "object.__getattribute__") = true then _ else _) _ _ _
  rw [hx1, if_neg Bool.false_ne_true]
  unfold getAttrByItsOwn hookBefore
  refine wpAny_bind ?_
  rw [if_pos (show onTheHeap (Value.ref D) = true from rfl)]
  refine L2.at ?_
  refine wpAny_bind (wpAny_attempt (wpAny_holding ?_))
  unfold callGetattribute
  rw [hx0, if_neg Bool.false_ne_true]
  unfold boundAndCalled
  rw [PySem.F.excAttr_ValueError.ga.bind (.ref x)]
  refine wpAny_bind (wpAny_pure ?_)
  show wpAny _ _ (call (.builtin "BaseException.__getattribute__") [.ref x, .str "__class__" t]) _ _ _
  refine wpAny_call (codeAny_call_builtin PySem.F.excAttr_ValueError.ga.plain PySem.F.entry_bexc_ga ?_)
  refine @check_slot (model prog w) _ _ ⟨hp, g, d, t + 1, os⟩ "BaseException.__getattribute__" "BaseException" "__getattribute__" (.ref x) [.str "__class__" t] [] _ (by decide +kernel) (by decide +kernel) sub (PySem.F.args_bexc_ga (.ref x) (.str "__class__" t)) ?_
  unfold Builtin.«object.__getattribute__»
  refine wpAny_bind (wpAny_of_eq (a := ((Value.ref x : Value), [Value.str "__class__" t])) (by first | rfl | (simp only [slotArgs]; rfl)) ?_)
  refine wpAny_bind (wpAny_pure (wpAny_bind (L0.at (wpAny_bind (L3.at ?_)))))
  show wpAny _ _ (holding [Value.builtin "object.__class__"] (call (.builtin "getset_descriptor.__get__") [.builtin "object.__class__", .ref x, .ref D]) >>= ret) _ _ _
  refine wpAny_bind (wpAny_holding (wpAny_call (class_get (s := ⟨hp, g, d, t + 1, os⟩) (ox := ox) (od := od) X I hm ?_)))
  refine wpAny_pure ?_
  show wpAny _ _ (handedOut (.ref D)) _ _ _
  rw [handedOut_of (v := .ref D) rfl]
  first
    | exact wpAny_pure (wpAny_pure h)
    | exact wpAny_pure h
    | exact wpAny_pure (wpAny_bind (wpAny_pure (wpAny_pure h)))
theorem kitx_exc2 (hga : findIn K (.ref D) "__getattribute__" = some (some (.builtin "BaseException.__getattribute__"))) (hgt : findIn K (.ref D) "__getattr__" = some none) (hsub : subIn K (.ref D) (.type "BaseException") = some true) (hdct : hasDictIn K D = true) (ha : findIn K (.ref D) "__class__" = some (some (.builtin "object.__class__")))
    (hn : specialIn K (.builtin "object.__class__") "__get__" = some (some (.builtin "getset_descriptor.__get__"))) (htk : takesIn K (.builtin "object.__class__") = some true) (hm : mroIn K D (.type "object") = some true) :
    KitX K (.ref x) (.ref D) (fun h => InstAt h x ox D od) where
  ty := fun _ _ _ I => I.type
  it := fun _ _ X _ => by
    obtain ⟨cdD, hcD, _⟩ := any_some hdct
    unfold clsIn at hcD
    split at hcD
    · rename_i c' d' cd' sl' ho
      intro A' Q' E' s' k q
      unfold isType loadHead
      exact wpAny_bind (wpAny_loadPart (k _ _ (X _ _ ho)) (wpAny_pure q))
    · cases hcD
  ne := fun h tp dd its n sl X htp => by
    obtain ⟨cdD, hcD, _⟩ := any_some hdct
    refine Bool.eq_false_iff.mpr fun q => ?_
    have e : D = tp := Value.ref.inj (beq_iff_eq.mp q)
    subst e
    unfold clsIn at hcD
    split at hcD
    · rename_i c' d' cd' sl' ho
      have z := (X _ _ ho).symm.trans htp
      cases z
    · cases hcD
  ca := fun X I k => kin_classE2 hga hgt hsub hdct ha hn htk hm X I k
end
end PySem.W
namespace DL
open PySem PySem.Spec PyProof.Rows L2
/-! ### isinstance -/
inductive CT where
  | bi (n : String) | ow (c : Str) | xc (c : Str)
  deriving DecidableEq
def tyT : D → Option CT
  | .non => some (.bi "NoneType")
  | .bl _ => some (.bi "bool")
  | .int _ => some (.bi "int")
  | .str _ => some (.bi "str")
  | .lst _ => some (.bi "list")
  | .tup _ => some (.bi "tuple")
  | .dic _ => some (.bi "dict")
  | .obj c _ => some (.ow c)
  | .exc c _ => some (.xc c)
  | _ => none
def ctV (T : Tb) : CT → Option Value
  | .bi n => some (.type n)
  | .ow c => (T.cls c).map .ref
  | .xc c => (T.cls c).map .ref
/-- what an own class must say to be asked: a plain one, or an exception's -/
def OwnI (K : PySem.W.Frag) (C : Addr) : Prop := Cls K C ∧ PySem.W.findIn K (.ref C) "__class__" = some (some (.builtin "object.__class__")) ∧ PySem.W.specialIn K (.builtin "object.__class__") "__get__" = some (some (.builtin "getset_descriptor.__get__")) ∧
  PySem.W.takesIn K (.builtin "object.__class__") = some true ∧ PySem.W.mroIn K C (.type "object") = some true
/-- the answers of isinstance(.., u), by the type's own name -/
structure IsiOk (T : Tb) (u : Value) (L : List (CT × Bool)) : Prop where
  ans : ∀ t k, L.lookup t = some k → ∀ tv, ctV T t = some tv → PySem.W.kitOne T.K tv u = some k
  own : ∀ c k C, L.lookup (.ow c) = some k → T.cls c = some C → OwnI T.K C
  exc : ∀ c k C, L.lookup (.xc c) = some k → T.cls c = some C → ExcC T.K C
def dIsi (L : List (CT × Bool)) (d : D) : Option D := (tyT d).bind fun t => (L.lookup t).map D.bl
def rIsX (K : PySem.W.Frag) : List V → Hp → VK → Prop := fun xs H Q => ∃ (a C : Addr) (dd : Option Addr) (c : V) (u : Value) (b : Bool), xs = [.ref a, c] ∧ ClsV c u ∧ H a = some (exV (.ref C) dd a) ∧ (∀ d, dd = some d → ∃ fs, H d = some (.xd fs)) ∧ ExcC K C ∧ PySem.W.kitOne K (.ref C) u = some b ∧ Q (.bl b) H
theorem call_isX {X : Cx} : CallR X (.builtin "isinstance") (rIsX X.K) := by
  intro pins s σ H xs us Q I r h
  obtain ⟨a, C, dd, c, u, b, rfl, k, ea, hdd, Z, e, q⟩ := h
  obtain ⟨u1, u2, rfl, r1, r2⟩ := vals2 r
  have e2 := k.eq r2
  subst e2
  cases r1
  have x : ObjOk X.prog X.w H s.heap a (.ext fun h => ∃ (oe : Obj) (vs : Array Value), h.get? a = some oe ∧ Zc (.ref C) dd oe ∧ oe.data = .fields vs) := I.hok a _ ea
  obtain ⟨⟨oe, vs, ho, hz, hd⟩, _, _⟩ := x
  have key : ∃ od, PySem.W.InstAt s.heap a oe C od := by
    cases dd with
    | none => exact ⟨none, ho, hz.1, by unfold PySem.W.notCls; rw [hd] <;> rfl, by rw [hz.2]; trivial⟩
    | some d =>
      obtain ⟨fs, hf⟩ := hdd d rfl
      obtain ⟨mA, hns, _⟩ := (show ObjOk X.prog X.w H s.heap d (.xd fs) from I.hok d _ hf)
      obtain ⟨od, hod, _⟩ := lookIn_ns hns
      exact ⟨some od, ho, hz.1, by unfold PySem.W.notCls; rw [hd] <;> rfl, by rw [hz.2]; exact hod⟩
  obtain ⟨od, J⟩ := key
  exact PySem.W.kia_one (PySem.W.kitx_exc2 Z.hg Z.hk Z.hs Z.hd Z.ha Z.hn Z.ht Z.hm) I.kIn J e (fun z => nomatch z) fun tk => ⟨.bl b, H, I.tok tk, rfl, q⟩
section
variable {X : Cx} {T : Tb} {W : WX} {a ce e : Expr} {fa : EC} {pos p : Pos}
theorem isi_ok {b : Option Addr} {H : Hp} {P : Addr → Prop} {u : Value} {L : List (CT × Bool)} (O : IsiOk T u L) {v cv : V} {d z : D} {Q : VK} (hu : ClsV cv u) (h : RepQ T b H P v d) (hz : dIsi L d = some z) (k : ∀ v H', Same H H' → Rep T b H' P v z → Q v H') :
    rIsi T.K [v, cv] H Q ∨ rIsX T.K [v, cv] H Q := by
  unfold dIsi at hz
  cases ht : tyT d with
  | none => rw [ht] at hz; cases hz
  | some t =>
    rw [ht] at hz
    obtain ⟨kk, e1, rfl⟩ := map_some hz
    have fin : ∀ tv, TyX T.K H v tv → ctV T t = some tv → rIsi T.K [v, cv] H Q := fun tv ty e => ⟨v, cv, tv, u, kk, rfl, hu, ty, O.ans t kk e1 tv e, k _ H (Same.refl H) (.bl _)⟩
    cases d <;> try cases ht
    · exact .inl (fin _ (by rw [h.non]; exact .base .non) rfl)
    · exact .inl (fin _ (by rw [h.bl]; exact .base (.bl _)) rfl)
    · exact .inl (fin _ (by rw [h.int]; exact .base (.int _)) rfl)
    · exact .inl (fin _ (by rw [h.str]; exact .base (.str _)) rfl)
    · obtain ⟨p, vs, rfl, h1, h2⟩ := h.lst
      exact .inl (fin _ (.base (.lst h1)) rfl)
    · obtain ⟨p, vs, rfl, h1, h2⟩ := h.tup
      rcases h1 with (h1 | ⟨o, h1⟩) | ⟨o, its, n, h1, h3, _⟩
      · exact .inl (fin _ (.base (.tup h1)) rfl)
      · exact .inl (fin _ (.fTuple h1) rfl)
      · exact .inl (fin _ (.kTuple h1 h3) rfl)
    · rcases h with h | ⟨p, rfl, n, vs, h1, h2⟩
      · cases h with
        | dic h1 h2 h3 =>
          exact .inl (fin _ (.fDict h2) rfl)
      · exact .inl (fin _ (.base (.dK h1)) rfl)
    · rename_i c fs
      obtain ⟨p, C, dx, gs, rfl, h1, h2, h3⟩ := h.obj
      have o1 := O.own c kk C e1 h1
      exact .inl (fin _ (.base (.ins h2 o1.1 o1.2.1 o1.2.2.1 o1.2.2.2.1 o1.2.2.2.2)) (by show (T.cls c).map _ = _; rw [h1]; rfl))
    · rename_i c fs
      rcases h with h | ⟨p, rfl, n, h⟩
      · cases h with
        | @exc p C dd _ gs _ h1 h2 h3 h4 h5 h6 =>
          exact .inr ⟨p, C, some dd, cv, u, kk, rfl, hu, h4, fun d e => ⟨_, by cases e; exact h5⟩, O.exc c kk C e1 h3, O.ans _ kk e1 _ (by show (T.cls c).map _ = _; rw [h3]; rfl), k _ H (Same.refl H) (.bl _)⟩
      · exact h.elim
theorem pd_isi {u : Value} {cv : V} {L : List (CT × Bool)} (hK : X.K = T.K) (O : IsiOk T u L) (hu : ClsV cv u) (hg : Gl X "isinstance") (hm : X.mg "isinstance" = none) (ha : PE X a (E T W .tr fa)) (hc : PE X ce (tC cv))
    (he : starEach [a, ce] X.env = (false, eval a X.env) :: starEach [ce] X.env := by rfl) (he2 : starEach [ce] X.env = (false, eval ce X.env) :: starEach [] X.env := by rfl) (hpl : (backTo pos (starEach [ce] X.env)).any (·.1) = false := by rfl) :
    PE X (.Call (.Name "isinstance" p) [a, ce] [] pos) (E T W .fz (e1 (dIsi L) fa)) := by
  have hcr : CallR X (.builtin "isinstance") (fun xs H Q => rIsi T.K xs H Q ∨ rIsX T.K xs H Q) := by
    have h1 := call_isi (X := X)
    have h2 := call_isX (X := X)
    rw [hK] at h1 h2
    exact CallR.or h1 h2
  refine (pe_callB hcr hg hm (by decide +kernel) (pa_cons ha (pa_cons hc pa_nil he2) he) (by decide) (by decide) he hpl).mono fun σ H Q h => (e_then (m' := .tr) h).imp fun v H1 ⟨c, own, Γ, x, d, s, q, r⟩ => ?_
  cases hz : dIsi L d with
  | none => rw [hz] at r; exact r.elim
  | some z =>
    rw [hz] at r
    exact isi_ok O hu q hz fun w H' sm rp => r w H' (Grow.same sm) (s.bx.same sm) rp
/-- isinstance(x, (A, B)) -/
structure IsiTk (T : Tb) (us : List Value) (L : List (CT × Bool)) : Prop where
  ans : ∀ t k, L.lookup t = some k → ∀ tv, ctV T t = some tv → PySem.W.kitAny T.K tv us = some k
  own : ∀ c k C, L.lookup (.ow c) = some k → T.cls c = some C → OwnI T.K C
  exc : ∀ c k, L.lookup (.xc c) ≠ some k
theorem isiT_ok {b : Option Addr} {H : Hp} {P : Addr → Prop} {us : List Value} {L : List (CT × Bool)} (O : IsiTk T us L) {v : V} {cs : List V} {tp : Addr} {d z : D} {Q : VK} (hu : Paired ClsV cs us) (htp : H tp = some (.tup cs)) (h : RepQ T b H P v d) (hz : dIsi L d = some z) (k : Q (match z with | .bl k => .bl k | _ => .non) H) :
    rIsiT T.K [v, .ref tp] H Q := by
  unfold dIsi at hz
  cases ht : tyT d with
  | none => rw [ht] at hz; cases hz
  | some t =>
    rw [ht] at hz
    obtain ⟨kk, e1, rfl⟩ := map_some hz
    have fin : ∀ tv, TyX T.K H v tv → ctV T t = some tv → rIsiT T.K [v, .ref tp] H Q := fun tv ty e => ⟨v, tp, cs, tv, us, kk, rfl, htp, hu, ty, O.ans t kk e1 tv e, k⟩
    cases d <;> try cases ht
    · exact fin _ (by rw [h.non]; exact .base .non) rfl
    · exact fin _ (by rw [h.bl]; exact .base (.bl _)) rfl
    · exact fin _ (by rw [h.int]; exact .base (.int _)) rfl
    · exact fin _ (by rw [h.str]; exact .base (.str _)) rfl
    · obtain ⟨p, vs, rfl, h1, h2⟩ := h.lst
      exact fin _ (.base (.lst h1)) rfl
    · obtain ⟨p, vs, rfl, h1, h2⟩ := h.tup
      rcases h1 with (h1 | ⟨o, h1⟩) | ⟨o, its, n, h1, h3, _⟩
      · exact fin _ (.base (.tup h1)) rfl
      · exact fin _ (.fTuple h1) rfl
      · exact fin _ (.kTuple h1 h3) rfl
    · rcases h with h | ⟨p, rfl, n, vs, h1, h2⟩
      · cases h with
        | dic h1 h2 h3 =>
          exact fin _ (.fDict h2) rfl
      · exact fin _ (.base (.dK h1)) rfl
    · rename_i c fs _
      obtain ⟨p, C, dx, gs, rfl, h1, h2, h3⟩ := h.obj
      have o1 := O.own c kk C e1 h1
      exact fin _ (.base (.ins h2 o1.1 o1.2.1 o1.2.2.1 o1.2.2.2.1 o1.2.2.2.2)) (by show (T.cls c).map _ = _; rw [h1]; rfl)
    · exact absurd e1 (O.exc _ kk)
theorem pd_isiT {c1 c2 : Expr} {v1 v2 : V} {us : List Value} {L : List (CT × Bool)} {kt : Nat} {tpos : Pos} (hK : X.K = T.K) (O : IsiTk T us L) (hu : Paired ClsV [v1, v2] us) (hg : Gl X "isinstance") (hm : X.mg "isinstance" = none) (ha : PE X a (E T W .tr fa)) (h1 : PE X c1 (tC v1)) (h2 : PE X c2 (tC v2))
    (s1 : starEach [c1, c2] X.env = (false, eval c1 X.env) :: starEach [c2] X.env := by rfl) (s2 : starEach [c2] X.env = (false, eval c2 X.env) :: starEach [] X.env := by rfl)
    (he : starEach [a, .Tuple [c1, c2] kt tpos] X.env = (false, eval a X.env) :: starEach [.Tuple [c1, c2] kt tpos] X.env := by rfl) (he2 : starEach [.Tuple [c1, c2] kt tpos] X.env = (false, eval (.Tuple [c1, c2] kt tpos) X.env) :: starEach [] X.env := by rfl) (hpl : (backTo pos (starEach [.Tuple [c1, c2] kt tpos] X.env)).any (·.1) = false := by rfl) :
    PE X (.Call (.Name "isinstance" p) [a, .Tuple [c1, c2] kt tpos] [] pos) (E T W .fz (e1 (dIsi L) fa)) := by
  have hcr := call_isiT (X := X)
  rw [hK] at hcr
  refine (pe_callB hcr hg hm (by decide +kernel) (pa_cons ha (pa_cons (pe_tup (pa_cons h1 (pa_cons h2 pa_nil s2) s1)) pa_nil he2) he) (by decide) (by decide) he hpl).mono fun σ H Q h => (e_then (m' := .tr) h).imp fun v H1 ⟨c, own, Γ, x, d, s, q, r⟩ => ⟨by show 2 ≤ sizeLine; decide, fun tp np => ?_⟩
  cases hz : dIsi L d with
  | none => rw [hz] at r; exact r.elim
  | some z =>
    rw [hz] at r
    have sm : Same H1 (upd H1 tp (.tup [v1, v2])) := Same.upd' np
    refine isiT_ok O hu upd_same (RepQ.grow (Grow.same sm) q) hz ?_
    have key : ∃ kk, z = .bl kk := by
      unfold dIsi at hz
      cases ht : tyT d with
      | none => rw [ht] at hz; cases hz
      | some t =>
        rw [ht] at hz
        obtain ⟨kk, _, e⟩ := map_some hz
        exact ⟨kk, e.symm⟩
    obtain ⟨kk, rfl⟩ := key
    exact r _ _ (Grow.same sm) (s.bx.same sm) (.bl kk)
/-! ### a field of an exception -/
def dXf (cs : List Str) (f : Str) : D → Option D
  | .exc c fs => if c ∈ cs then fs.lookup f else none
  | _ => none
theorem pd_xf {cs : List Str} {f : Str} (hK : X.K = T.K) (hcs : ∀ c ∈ cs, ∀ C, T.cls c = some C → XfC T.K C ∧ PySem.W.findIn T.K (.ref C) f = some none) (he : PE X e (E T W .tr fa)) (hb : attributeBase e f X.env (eval e X.env) = eval e X.env := by rfl) :
    PE X (.Attribute e f pos) (E T W .fz (e1 (dXf cs f) fa)) := by
  refine ⟨fun pins s σ H Q I h => ?_⟩
  refine attr_of hb (thn (he.run pins s σ H _ I (e_then (m' := .tr) h)) fun u s1 ⟨v, H1, I1, rx, c, own, Γ, x, d, st, q, r⟩ => ?_)
  cases d with
  | exc c' fs =>
    have r' : ERes T W .fz c own σ H1 Q (opt (if c' ∈ cs then fs.lookup f else none) x) := r
    by_cases hc : c' ∈ cs
    · rw [if_pos hc] at r'
      cases hl : fs.lookup f with
      | none => rw [hl] at r'; exact r'.elim
      | some z =>
        rw [hl] at r'
        rcases q with q | ⟨p, _, _, q⟩
        · cases q with
          | @exc p C dd _ gs _ h1 h2 h3 h4 h5 h6 =>
            obtain ⟨Z, hno⟩ := hcs c' hc C h3
            obtain ⟨v', l1, l2⟩ := (h6.look f).2 z hl
            cases rx
            have xo : ObjOk X.prog X.w H1 s1.heap p (.ext fun h => ∃ (oe : Obj) (vs : Array Value), h.get? p = some oe ∧ Zc (.ref C) (some dd) oe ∧ oe.data = .fields vs) := I1.hok p _ h4
            obtain ⟨⟨oe, vs, ho, hz, hd⟩, _, _⟩ := xo
            obtain ⟨mA, hns, hr⟩ := (show ObjOk X.prog X.w H1 s1.heap dd (.xd gs) from I1.hok dd _ h5)
            obtain ⟨od, hod, hlk⟩ := lookIn_ns hns
            obtain ⟨uu, hu, ru⟩ := RelO.some_of (v := v') (o := mA f) (by rw [← l1]; exact hr f)
            have J : PySem.W.InstAt s1.heap p oe C (some od) := ⟨ho, hz.1, by unfold PySem.W.notCls; rw [hd] <;> rfl, by rw [hz.2]; exact hod⟩
            have kin := I1.kIn
            rw [hK] at kin
            exact HandSPX.exc_get kin J Z.ga Z.gg Z.exC (PySem.W.findObj_own Z.hdC hno rfl (by rw [hlk, hu])) (handed_of ru) ⟨v', H1, I1.tok _, ru, r' v' H1 Grow.refl st.bx l2⟩
        · exact q.elim
    · rw [if_neg hc] at r'
      exact r'.elim
  | _ => exact r.elim
end
end DL

namespace DL
open PySem PySem.Spec PyProof.Rows L2
section
variable {X : Cx} {T : Tb} {W : WX} {m : Md} {a b e e' l tg o : Expr} {es : List Expr} {f fa fb fl fe fo f1 f2 f3 : EC} {fi : AC} {fs : AC} {pos p apos : Pos} {c : Cf} {own own' : Ow} {Γ : Gm} {x x' : Bx} {σ : L2.St} {H H' : Hp} {Q : VK} {y : Str} {vs : List V} {ds : List D} {g : SC} {tf : TC} {P' : Addr → Prop}
/-! ### several targets at once -/
/-- one value: frozen, or a container of its own -/
inductive PF (X : Cx) (T : Tb) (W : WX) (e : Expr) : Bool → EC → Prop
  | sh {f : EC} (h : PE X e (E T W .fz f)) : PF X T W e false f
  | ow {f : EC} (h : PE X e (EF T W f)) : PF X T W e true f
def slOf : Bool → D → Sl
  | false, d => .sh d
  | true, d => .ow d
/-- a slot's place is kept for a container -/
theorem Sat.reserve (s : Sat T c own Γ x σ H) (i : Nat) {q : Addr} {d : D} (n : H q = none) (g : Grow c.b H H') (bx : BoxRel c.b x' H') (r : OwnAt T c.b H' (PN c own q) q d) (hc : isCon d = true) :
    Sat T c (own.set i (some q)) (Γ.set i .no) x' σ H' ∧ Fz c.b own H (own.set i (some q)) H' ∧ OwnAt T c.b H' (Pp c (own.set i (some q))) q d := by
  obtain ⟨s1, fz⟩ := s.owned i n g bx r hc
  have hm : ∀ {a : Addr}, some a ∉ own → a ≠ q → some a ∉ own.set i (some q) := fun h1 h2 h3 => (mem_set h3).elim h1 fun z => h2 (Option.some.inj z)
  refine ⟨⟨by rw [List.length_set]; exact s.l1, by rw [List.length_set, List.length_set]; exact s.l2, s1.gr, s1.bx, s1.bd, s1.ob, s1.bb, s1.fresh, s1.nodup, fun p cn fs h1 h2 => ?_, fun j u h => ?_⟩, fz, r.mono (fun _ _ _ e => e) (fun a o pa _ => ⟨pa.1.1, pa.1.2.1, hm pa.1.2.2 pa.2⟩) fun _ e => e⟩
  · by_cases h0 : i = 0
    · subst h0
      have hlt := (List.getElem?_eq_some_iff.mp h2).1
      rw [List.length_set] at hlt
      rw [List.getElem?_set_self hlt] at h2
      cases h2
    · rw [List.getElem?_set_ne h0] at h2
      exact s1.me p cn fs h1 (by rw [List.getElem?_set_ne h0]; exact h2)
  · by_cases hj : i = j
    · subst hj
      have hlt := (List.getElem?_eq_some_iff.mp h).1
      rw [List.length_set] at hlt
      rw [List.getElem?_set_self hlt] at h
      cases h
      trivial
    · rw [List.getElem?_set_ne hj] at h
      have q := s1.slot j u (by rw [List.getElem?_set_ne hj]; exact h)
      rw [List.getElem?_set_ne hj] at q
      exact q
theorem Sat.place (s : Sat T c own Γ x σ H) (i : Nat) {q : Addr} {d : D} (e2 : own[i]? = some (some q)) (r : OwnAt T c.b H (Pp c own) q d) (hc : isCon d = true) : Sat T c own (Γ.set i (.ow d)) x (σ.set i (some (.ref q))) H := by
  refine ⟨by rw [List.length_set, List.length_set]; exact s.l1, by rw [List.length_set]; exact s.l2, s.gr, s.bx, s.bd, s.ob, s.bb, s.fresh, s.nodup, fun p cn fs h1 h2 => ?_, fun j u h => ?_⟩
  · by_cases h0 : i = 0
    · subst h0
      have hlt := (List.getElem?_eq_some_iff.mp h2).1
      rw [List.length_set] at hlt
      rw [List.getElem?_set_self hlt] at h2
      cases h2
      cases hc
    · rw [List.getElem?_set_ne h0] at h2
      exact s.me p cn fs h1 h2
  · by_cases hj : i = j
    · subst hj
      have hlt := (List.getElem?_eq_some_iff.mp h).1
      rw [List.length_set] at hlt
      rw [List.getElem?_set_self hlt] at h
      cases h
      exact ⟨q, List.getElem?_set_self (by rw [s.l1]; exact hlt), e2, r⟩
    · rw [List.getElem?_set_ne hj] at h
      rw [List.getElem?_set_ne hj]
      exact s.slot j u h
/-- the values of a row of targets: each slot is emptied while the later ones are reckoned -/
def parE : List (Nat × Bool × EC) → Gm → M (List (Nat × Sl) × Gm)
  | [], Γ => M.pure ([], Γ)
  | (i, k, f) :: r, Γ => if i < Γ.length then bnd (f Γ) fun d => bnd (parE r (Γ.set i .no)) fun q => M.pure ((i, slOf k d) :: q.1, q.2) else M.no
def putAll (Γ : Gm) (l : List (Nat × Sl)) : Gm := l.foldl (fun g p => g.set p.1 p.2) Γ
/-- what each of them is -/
inductive ParRep (T : Tb) (c : Cf) (own : Ow) (H : Hp) : List V → List (Nat × Sl) → Prop
  | nil : ParRep T c own H [] []
  | sh {i : Nat} {v : V} {d : D} {vs : List V} {l : List (Nat × Sl)} : Rep T c.b H (Pp c own) v d → ParRep T c own H vs l → ParRep T c own H (v :: vs) ((i, .sh d) :: l)
  | ow {i : Nat} {q : Addr} {d : D} {vs : List V} {l : List (Nat × Sl)} : own[i]? = some (some q) → OwnAt T c.b H (Pp c own) q d → isCon d = true → ParRep T c own H vs l → ParRep T c own H (.ref q :: vs) ((i, .ow d) :: l)
/-- all that stood stands, what was not this def's to change is not either -/
def Gz (b : Option Addr) (own : Ow) (H : Hp) (own' : Ow) (H' : Hp) : Prop := Grow b H H' ∧ ∀ a o, H a = some o → some a ∉ own → some a ∉ own'
theorem Gz.fz {b : Option Addr} (h : Gz b own H own' H') : Fz b own H own' H' := fun a o n nb e => ⟨h.1 a o nb e, h.2 a o e n⟩
theorem Gz.refl {b : Option Addr} : Gz b own H own H := ⟨Grow.refl, fun _ _ _ h => h⟩
theorem Gz.grow {b : Option Addr} (g : Grow b H H') : Gz b own H own H' := ⟨g, fun _ _ _ h => h⟩
theorem Gz.trans {b : Option Addr} {o1 o2 o3 : Ow} {H1 H2 H3 : Hp} (h : Gz b o1 H1 o2 H2) (h' : Gz b o2 H2 o3 H3) (hb : ∀ a, b = some a → some a ∉ o3) : Gz b o1 H1 o3 H3 := ⟨h.1.trans h'.1, fun a o e n => by
  by_cases hba : b = some a
  · exact hb a hba
  · exact h'.2 a o (h.1 a o hba e) (h.2 a o e n)⟩
def ParRes (T : Tb) (W : WX) (is : List Nat) (c : Cf) (own : Ow) (σ : L2.St) (H : Hp) (Q : List V → Hp → Prop) : R (List (Nat × Sl) × Gm) → Prop
  | .ok r x => ∀ vs own' H', Gz c.b own H own' H' → Sat T c own' r.2 x σ H' → ParRep T c own' H' vs r.1 → (∀ j, j ∉ is → own'[j]? = own[j]?) → Q vs H'
  | .er e x => ∀ cls dd own' Γ' H', Gz c.b own H own' H' → Sat T c own' Γ' x σ H' → RepE T c.b H' (Pp c own') cls dd e → W cls dd σ H'
  | .no => False
def PAr (T : Tb) (W : WX) (cs : List (Nat × Bool × EC)) : TA := fun σ H Q => ∃ c own Γ x, Sat T c own Γ x σ H ∧ ParRes T W (cs.map (·.1)) c own σ H Q (parE cs Γ x)
theorem par_nil : PA X [] (PAr T W []) := pa_nil.mono fun σ H Q ⟨c, own, Γ, x, s, r⟩ => r [] own H Gz.refl s .nil fun _ _ => rfl
theorem Sat.drop (s : Sat T c own Γ x σ H) (i : Nat) : Sat T c own (Γ.set i .no) x σ H := by
  refine ⟨by rw [List.length_set]; exact s.l1, by rw [List.length_set]; exact s.l2, s.gr, s.bx, s.bd, s.ob, s.bb, s.fresh, s.nodup, fun p cn fs h1 h2 => ?_, fun j u h => ?_⟩
  · by_cases h0 : i = 0
    · subst h0
      have hlt := (List.getElem?_eq_some_iff.mp h2).1
      rw [List.length_set] at hlt
      rw [List.getElem?_set_self hlt] at h2
      cases h2
    · rw [List.getElem?_set_ne h0] at h2
      exact s.me p cn fs h1 h2
  · by_cases hj : i = j
    · subst hj
      have hlt := (List.getElem?_eq_some_iff.mp h).1
      rw [List.length_set] at hlt
      rw [List.getElem?_set_self hlt] at h
      cases h
      trivial
    · rw [List.getElem?_set_ne hj] at h
      exact s.slot j u h
theorem Sat.nob (s : Sat T c own Γ x σ H) : ∀ a, c.b = some a → some a ∉ own := fun a h hm => by
  obtain ⟨i, hi⟩ := List.getElem?_of_mem hm
  exact s.own_ne hi h
theorem par_cons {i : Nat} {k : Bool} {cs : List (Nat × Bool × EC)} (h1 : PF X T W e k f) (h2 : PA X es (PAr T W cs)) (hi : i ∉ cs.map (·.1)) (hs : starEach (e :: es) X.env = (false, eval e X.env) :: starEach es X.env := by rfl) : PA X (e :: es) (PAr T W ((i, k, f) :: cs)) := by
  have un : ∀ {k f} {Γ : Gm} {x : Bx}, i < Γ.length → parE ((i, k, f) :: cs) Γ x = bnd (f Γ) (fun d => bnd (parE cs (Γ.set i .no)) fun q => M.pure ((i, slOf k d) :: q.1, q.2)) x := fun h => by simp only [parE, if_pos h]
  have un2 : ∀ {k f} {Γ : Gm} {x : Bx}, ¬ i < Γ.length → parE ((i, k, f) :: cs) Γ x = .no := fun h => by simp only [parE, if_neg h]; rfl
  cases h1 with
  | sh h1 =>
    refine (pa_cons h1 h2 hs).mono fun σ H Q ⟨c, own, Γ, x, s, r⟩ => ⟨c, own, Γ, x, s, ?_⟩
    by_cases hlt : i < Γ.length
    case neg => rw [un2 hlt] at r; exact r.elim
    rw [un hlt] at r
    cases hf : f Γ x with
    | no => rw [bnd_no hf] at r; exact r
    | er d x1 => rw [bnd_er hf] at r; exact fun cls dd H1 g bx q => r cls dd own Γ H1 (Gz.grow g) (s.grow g bx) q
    | ok d x1 =>
      rw [bnd_ok hf] at r
      refine fun v H1 g bx q => ⟨c, own, Γ.set i .no, x1, (s.grow g bx).drop i, ?_⟩
      cases hp : parE cs (Γ.set i .no) x1 with
      | no => rw [bnd_no hp] at r; exact r
      | er d2 x2 => rw [bnd_er hp] at r; exact fun cls dd own' Γ' H2 gz s2 q2 => r cls dd own' Γ' H2 ((Gz.grow g).trans gz s2.nob) s2 q2
      | ok rr x2 =>
        rw [bnd_ok hp] at r
        refine fun vs own' H2 gz s2 pr hj => r (v :: vs) own' H2 ((Gz.grow g).trans gz s2.nob) s2 (.sh ?_ pr) fun j hjj => hj j fun z => hjj (List.mem_cons_of_mem _ z)
        exact Rep.mono (fun a o pa e => gz.1 a o pa.2.1 e) (fun a o pa e => ⟨pa.1, pa.2.1, gz.2 a o e pa.2.2⟩) q
  | ow h1 =>
    refine (pa_cons h1 h2 hs).mono fun σ H Q ⟨c, own, Γ, x, s, r⟩ => ⟨c, own, Γ, x, s, ?_⟩
    by_cases hlt0 : i < Γ.length
    case neg => rw [un2 hlt0] at r; exact r.elim
    rw [un hlt0] at r
    cases hf : f Γ x with
    | no => rw [bnd_no hf] at r; exact r
    | er d x1 => rw [bnd_er hf] at r; exact fun cls dd H1 g bx q => r cls dd own Γ H1 (Gz.grow g) (s.grow g bx) q
    | ok d x1 =>
      rw [bnd_ok hf] at r
      refine fun q0 H1 n g bx q hc => ?_
      obtain ⟨s1, fz1, o1⟩ := s.reserve i n g bx q hc
      have gz1 : Gz c.b own H (own.set i (some q0)) H1 := ⟨g, fun a o e hn hm => (mem_set hm).elim hn fun z => by
        cases z
        rw [n] at e
        cases e⟩
      refine ⟨c, own.set i (some q0), Γ.set i .no, x1, s1, ?_⟩
      cases hp : parE cs (Γ.set i .no) x1 with
      | no => rw [bnd_no hp] at r; exact r
      | er d2 x2 => rw [bnd_er hp] at r; exact fun cls dd own' Γ' H2 gz s2 q2 => r cls dd own' Γ' H2 (gz1.trans gz s2.nob) s2 q2
      | ok rr x2 =>
        rw [bnd_ok hp] at r
        refine fun vs own' H2 gz s2 pr hj => ?_
        have nbq : c.b ≠ some q0 := fun z => by rw [s.bx q0 z] at n; cases n
        have hlt : i < own.length := by rw [s.l2]; exact hlt0
        · have e2 : own'[i]? = some (some q0) := by rw [hj i hi, List.getElem?_set_self hlt]
          refine r (.ref q0 :: vs) own' H2 (gz1.trans gz s2.nob) s2 (.ow e2 ?_ hc pr) fun j hjj => ?_
          · exact o1.mono (fun a o pa e => gz.1 a o pa.2.1 e) (fun a o pa e => ⟨pa.1, pa.2.1, gz.2 a o e pa.2.2⟩) fun o e => gz.1 _ _ nbq e
          · rw [hj j fun z => hjj (List.mem_cons_of_mem _ z), List.getElem?_set_ne (fun z => hjj (by rw [← z]; exact List.mem_cons_self))]

theorem Sat.forget (s : Sat T c own Γ x σ H) : Sat T c own (List.replicate Γ.length .no) x σ H := by
  refine ⟨by rw [List.length_replicate]; exact s.l1, by rw [List.length_replicate]; exact s.l2, s.gr, s.bx, s.bd, s.ob, s.bb, s.fresh, s.nodup, fun p cn fs h1 h2 => ?_, fun j u h => ?_⟩
  · have h3 := List.eq_of_mem_replicate (List.mem_of_getElem? h2)
    cases h3
  · have h3 := List.eq_of_mem_replicate (List.mem_of_getElem? h)
    subst h3
    trivial
def sPar (cs : List (Nat × Bool × EC)) : SC := fun Γ x => match parE cs Γ x with
  | .ok r x' => .nx (putAll r.2 r.1) x'
  | .er e x' => .er e (List.replicate Γ.length .no) x'
  | .no => .no
/-- the slots set one by one -/
def setAll (σ : L2.St) : List Nat → List V → L2.St
  | i :: is, v :: vs => setAll (σ.set i (some v)) is vs
  | _, _ => σ
theorem sat_putAll {l : List (Nat × Sl)} (h : ParRep T c own H vs l) : ∀ {Γ : Gm} {σ : L2.St}, Sat T c own Γ x σ H → Sat T c own (putAll Γ l) x (setAll σ (l.map (·.1)) vs) H := by
  induction h with
  | nil => exact fun s => s
  | sh r _ ih => exact fun s => ih (s.set _ r)
  | ow e r hc _ ih => exact fun s => ih (s.place _ e r hc)
theorem ParRep.length {l : List (Nat × Sl)} (h : ParRep T c own H vs l) : vs.length = l.length := by
  induction h with
  | nil => rfl
  | sh _ _ ih => rw [List.length_cons, List.length_cons, ih]
  | ow _ _ _ _ ih => rw [List.length_cons, List.length_cons, ih]
theorem parE_is : ∀ (cs : List (Nat × Bool × EC)) (Γ : Gm) (x : Bx) (r : List (Nat × Sl) × Gm) (x' : Bx), parE cs Γ x = .ok r x' → r.1.map (·.1) = cs.map (·.1) ∧ r.2.length = Γ.length
  | [], Γ, x, r, x', h => by cases h; exact ⟨rfl, rfl⟩
  | (i, k, f) :: cs, Γ, x, r, x', h => by
    have h' : (if i < Γ.length then bnd (f Γ) fun d => bnd (parE cs (Γ.set i .no)) fun q => M.pure ((i, slOf k d) :: q.1, q.2) else M.no) x = .ok r x' := h
    by_cases hlt : i < Γ.length
    · rw [if_pos hlt] at h'
      cases hf : f Γ x with
      | no => rw [bnd_no hf] at h'; cases h'
      | er d x1 => rw [bnd_er hf] at h'; cases h'
      | ok d x1 =>
        rw [bnd_ok hf] at h'
        cases hp : parE cs (Γ.set i .no) x1 with
        | no => rw [bnd_no hp] at h'; cases h'
        | er d x1 => rw [bnd_er hp] at h'; cases h'
        | ok q x2 =>
          rw [bnd_ok hp] at h'
          cases h'
          obtain ⟨a1, a2⟩ := parE_is cs _ _ _ _ hp
          exact ⟨by rw [List.map_cons, List.map_cons, a1], by rw [a2, List.length_set]⟩
    · rw [if_neg hlt] at h'
      cases h'
theorem par_read {cs : List (Nat × Bool × EC)} {De : Ends} (h : SS T W (sPar cs) De σ H) : PAr T W cs σ H fun vs H1 => De.nx (setAll σ (cs.map (·.1)) vs) H1 := by
  obtain ⟨c, own, Γ, x, s, r⟩ := h
  refine ⟨c, own, Γ, x, s, ?_⟩
  unfold sPar at r
  cases hp : parE cs Γ x with
  | no => rw [hp] at r; exact r
  | er d x1 => rw [hp] at r; exact fun cls dd own' Γ' H1 gz s1 q => r cls dd own' σ H1 gz.fz (by have h := s1.forget; rw [← s1.l1, s.l1] at h; exact h) q
  | ok q x1 =>
    rw [hp] at r
    obtain ⟨a1, a2⟩ := parE_is cs Γ x q x1 hp
    refine fun vs own' H1 gz s1 pr _ => ?_
    rw [← a1]
    exact r own' _ H1 gz.fz (sat_putAll pr s1)
theorem PAr.len2 {i j : Nat} {k1 k2 : Bool} {Q : List V → Hp → Prop} (h : PAr T W [(i, k1, f1), (j, k2, f2)] σ H Q) : PAr T W [(i, k1, f1), (j, k2, f2)] σ H fun vs H1 => ∃ v w, vs = [v, w] ∧ Q vs H1 := by
  obtain ⟨c, own, Γ, x, s, r⟩ := h
  refine ⟨c, own, Γ, x, s, ?_⟩
  cases hp : parE [(i, k1, f1), (j, k2, f2)] Γ x with
  | no => rw [hp] at r; exact r
  | er d x1 => rw [hp] at r; exact r
  | ok q x1 =>
    rw [hp] at r
    obtain ⟨a1, a2⟩ := parE_is _ Γ x q x1 hp
    refine fun vs own' H1 gz s1 pr hj => ?_
    have hq := r vs own' H1 gz s1 pr hj
    have hl : vs.length = q.1.length := pr.length
    have hl2 : vs.length = 2 := by
      rw [hl, ← List.length_map (f := fun p : Nat × Sl => p.1), a1]
      rfl
    match vs, hl2 with
    | [v, w], _ => exact ⟨v, w, rfl, hq⟩
theorem PAr.len3 {i j l : Nat} {k1 k2 k3 : Bool} {Q : List V → Hp → Prop} (h : PAr T W [(i, k1, f1), (j, k2, f2), (l, k3, f3)] σ H Q) : PAr T W [(i, k1, f1), (j, k2, f2), (l, k3, f3)] σ H fun vs H1 => ∃ v w z, vs = [v, w, z] ∧ Q vs H1 := by
  obtain ⟨c, own, Γ, x, s, r⟩ := h
  refine ⟨c, own, Γ, x, s, ?_⟩
  cases hp : parE [(i, k1, f1), (j, k2, f2), (l, k3, f3)] Γ x with
  | no => rw [hp] at r; exact r
  | er d x1 => rw [hp] at r; exact r
  | ok q x1 =>
    rw [hp] at r
    obtain ⟨a1, a2⟩ := parE_is _ Γ x q x1 hp
    refine fun vs own' H1 gz s1 pr hj => ?_
    have hq := r vs own' H1 gz s1 pr hj
    have hl : vs.length = q.1.length := pr.length
    have hl2 : vs.length = 3 := by
      rw [hl, ← List.length_map (f := fun p : Nat × Sl => p.1), a1]
      rfl
    match vs, hl2 with
    | [v, w, z], _ => exact ⟨v, w, z, rfl, hq⟩
theorem PAr.imp {cs : List (Nat × Bool × EC)} {Q Q' : List V → Hp → Prop} (h : PAr T W cs σ H Q) (k : ∀ v H', Q v H' → Q' v H') : PAr T W cs σ H Q' := by
  obtain ⟨c, own, Γ, x, s, r⟩ := h
  refine ⟨c, own, Γ, x, s, ?_⟩
  cases hp : parE cs Γ x with
  | no => rw [hp] at r; exact r
  | er d x1 => rw [hp] at r; exact r
  | ok q x1 => rw [hp] at r; exact fun vs own' H1 gz s1 pr hj => k _ _ (r vs own' H1 gz s1 pr hj)
/-- x, y = e1, e2 -/
theorem ps_dpar {i j : Nat} {u v : Str} {k1 k2 : Bool} {px py pt : Pos} {kt kk : Nat} {pt2 : Pos} (hc : X.calm = true) (hN : X.N.Nodup) (hi : X.N[i]? = some u) (hj : X.N[j]? = some v) (hij : i ≠ j)
    (hx : X.env.scope.names.lookup u = some .local) (hy : X.env.scope.names.lookup v = some .local) (ha : PA X [a, b] (PAr T W [(i, k1, f1), (j, k2, f2)]))
    (hw : swappedStores [.Tuple [.Name u px, .Name v py] kt pt] (.Tuple [a, b] kk pt2) X.env = pure (some [u, v]))
    (hs : swapsWithSole [.Tuple [.Name u px, .Name v py] kt pt] (.Tuple [a, b] kk pt2) pos.line X.env = pure false := by rfl) :
    PS X (.Assign [.Tuple [.Name u px, .Name v py] kt pt] (.Tuple [a, b] kk pt2) pos) (SS T W (sPar [(i, k1, f1), (j, k2, f2)])) := (ps_par hc hN hi hj hij hx hy ha hw hs).mono fun D σ H h => (par_read h).len2.imp fun vs H1 ⟨v, w, e1, q⟩ => ⟨v, w, e1, by subst e1; exact q⟩
theorem ps_dpar3 {i j l : Nat} {u v z : Str} {k1 k2 k3 : Bool} {px py pz pt : Pos} {kt kk : Nat} {pt2 : Pos} {cc : Expr} (hc : X.calm = true) (hN : X.N.Nodup) (hi : X.N[i]? = some u) (hj : X.N[j]? = some v) (hl : X.N[l]? = some z) (hij : i ≠ j) (hil : i ≠ l) (hjl : j ≠ l)
    (hx : X.env.scope.names.lookup u = some .local) (hy : X.env.scope.names.lookup v = some .local) (hz : X.env.scope.names.lookup z = some .local) (ha : PA X [a, b, cc] (PAr T W [(i, k1, f1), (j, k2, f2), (l, k3, f3)]))
    (hw : swappedStores [.Tuple [.Name u px, .Name v py, .Name z pz] kt pt] (.Tuple [a, b, cc] kk pt2) X.env = pure (some [u, v, z]))
    (hs : swapsWithSole [.Tuple [.Name u px, .Name v py, .Name z pz] kt pt] (.Tuple [a, b, cc] kk pt2) pos.line X.env = pure false := by rfl) :
    PS X (.Assign [.Tuple [.Name u px, .Name v py, .Name z pz] kt pt] (.Tuple [a, b, cc] kk pt2) pos) (SS T W (sPar [(i, k1, f1), (j, k2, f2), (l, k3, f3)])) := (ps_par3 hc hN hi hj hl hij hil hjl hx hy hz ha hw hs).mono fun D σ H h => (par_read h).len3.imp fun vs H1 ⟨v, w, z, e1, q⟩ => ⟨v, w, z, e1, by subst e1; exact q⟩
/-! ### lists changed -/
def ownL (Γ : Gm) (i : Nat) : Option (List D) := match Γ[i]? with
  | some (.ow (.lst ds)) => some ds
  | _ => none
theorem ownL_some {i : Nat} (h : ownL Γ i = some ds) : Γ[i]? = some (.ow (.lst ds)) := by
  unfold ownL at h
  split at h
  · rename_i z e
    cases h
    exact e
  · cases h
def sApp (i : Nat) (fe : EC) : SC := fun Γ x => match ownL Γ i with
  | some ds => sE fe (fun d Γ x => if ds.length < 100000 then .nx (Γ.set i (.ow (.lst (ds ++ [d])))) x else .no) Γ x
  | none => .no
theorem ps_dapp {i : Nat} {z : Str} {p1 : Pos} (hK : X.K = T.K) (ho : PE X (.Name z p1) (tVar i)) (he : PE X e (E T W .fz fe)) (hbase : attributeBase (.Name z p1) "append" X.env (eval (.Name z p1) X.env) = eval (.Name z p1) X.env := by rfl)
    (hfew : ((backTo pos (starEach [e] X.env)).all (fun x => !x.1) && (backToKw pos (keywordEach [] X.env)).all (fun x => x.1.isSome) && decide (([e] : List Expr).length + ([] : List Keyword).length + (if ([] : List Keyword).isEmpty then 0 else 1) < 30)) = true := by rfl)
    (hline : (apos.endLine == pos.line) = true := by rfl) (hs : starEach [e] X.env = (false, eval e X.env) :: starEach [] X.env := by rfl) (hplain : (backTo pos (starEach [] X.env)).any (·.1) = false := by rfl) {p2 : Pos} (hsw : swapsWith (.Call (.Attribute (.Name z p1) "append" apos) [e] [] pos) none p2.line X.env = pure false := by rfl) :
    PS X (.Expr (.Call (.Attribute (.Name z p1) "append" apos) [e] [] pos) p2) (SS T W (sApp i fe)) :=
  (ps_expr (pe_bm PySem.F.plainAttrs_list PySem.F.slot_list_append PySem.F.type_list_append mt_append ho (pa_cons he pa_nil hs) hbase hfew hline hs hplain) hsw).mono fun D σ H ⟨c, own, Γ, x, s, r⟩ => by
    unfold sApp at r
    cases ho : ownL Γ i with
    | none => rw [ho] at r; exact r.elim
    | some ds =>
      rw [ho] at r
      have hg := ownL_some ho
      obtain ⟨q, e1, e2, vs, h1, h2⟩ := s.slot i _ hg
      refine ⟨_, e1, .inl ⟨rfl, vs, .inl (.inl h1)⟩, c, own, Γ, x, s, (SRes.bindD (m := .fz) s r).imp fun v H1 ⟨d, x1, s1, g, qd, r1⟩ => ?_⟩
      by_cases hl : ds.length < 100000
      · rw [if_pos hl] at r1
        obtain ⟨q', e1', e2', vs', h1', h2'⟩ := s1.slot i _ hg
        rw [e2] at e2'
        cases e2'
        have hmem : some q ∈ own := List.mem_of_getElem? e2
        have keep : ∀ a o, Pp c own a → H1 a = some o → upd H1 q (.lst (vs' ++ [v])) a = some o := fun a o pa e => by
          have hne : a ≠ q := fun z => pa.2.2 (by rw [z]; exact hmem)
          rw [upd_ne hne]
          exact e
        obtain ⟨s2, fz⟩ := s1.change (d' := .lst (ds ++ [d])) (o := .lst (vs' ++ [v])) hg e1 e2 ⟨_, upd_same, (h2'.append (.cons qd .nil)).mono keep fun _ _ p _ => p⟩ (fun cn fs h => nomatch h)
        exact ⟨q, vs', v, rfl, rfl, h1', by rw [h2'.length]; exact Nat.lt_of_lt_of_le hl (by decide), r1 own _ _ fz s2⟩
      · rw [if_neg hl] at r1
        exact r1.elim
end
end DL

namespace DL
open PySem PySem.Spec PyProof.Rows L2
section
variable {X : Cx} {T : Tb} {W : WX} {m : Md} {a b e e' l tg o : Expr} {es : List Expr} {f fa fb fl fe fo f1 f2 f3 : EC} {fi : AC} {fs : AC} {pos p apos : Pos} {c : Cf} {own own' : Ow} {Γ : Gm} {x x' : Bx} {σ : L2.St} {H H' : Hp} {Q : VK} {y : Str} {vs : List V} {ds : List D} {g : SC} {tf : TC} {P' : Addr → Prop}
/-- xs[k]'s own change -/
theorem Sat.chL (s : Sat T c own Γ x σ H) {i : Nat} {q : Addr} {us : List V} {es : List D} (hg : Γ[i]? = some (.ow (.lst ds))) (e1 : σ[i]? = some (some (.ref q))) (e2 : own[i]? = some (some q)) (r : RepL T c.b H (Pp c own) us es) :
    Sat T c own (Γ.set i (.ow (.lst es))) x σ (upd H q (.lst us)) ∧ Fz c.b own H own (upd H q (.lst us)) := by
  have hmem : some q ∈ own := List.mem_of_getElem? e2
  exact s.change (d' := .lst es) (o := .lst us) hg e1 e2 ⟨_, upd_same, r.mono (fun a o pa e => by
    have hne : a ≠ q := fun z => pa.2.2 (by rw [z]; exact hmem)
    rw [upd_ne hne]
    exact e) fun _ _ p _ => p⟩ (fun cn fs h => nomatch h)
/-- xs.append(ys.pop(e)) -/
def sAppPop (i j : Nat) (fe : EC) : SC := fun Γ x => match ownL Γ i, ownL Γ j with
  | some ds, some rs => if i = j then .no else sE fe (fun d Γ x => match d with
      | .int k => match seqIndex? k rs.length with
        | some n => match rs[n]? with
          | some y => if ds.length < 100000 ∧ -(2 ^ 63) ≤ k ∧ k < 2 ^ 63 then .nx ((Γ.set j (.ow (.lst (rs.eraseIdx n)))).set i (.ow (.lst (ds ++ [y])))) x else .no
          | none => .no
        | none => .no
      | _ => .no) Γ x
  | _, _ => .no
theorem ps_dapppop {i j : Nat} {z z2 : Str} {p1 p3 apos2 pos2 : Pos} (hK : X.K = T.K) (ho : PE X (.Name z p1) (tVar i)) (ho2 : PE X (.Name z2 p3) (tVar j)) (he : PE X e (E T W .tr fe))
    (hbase : attributeBase (.Name z p1) "append" X.env (eval (.Name z p1) X.env) = eval (.Name z p1) X.env := by rfl)
    (hbase2 : attributeBase (.Name z2 p3) "pop" X.env (eval (.Name z2 p3) X.env) = eval (.Name z2 p3) X.env := by rfl)
    (hfew : ((backTo pos (starEach [.Call (.Attribute (.Name z2 p3) "pop" apos2) [e] [] pos2] X.env)).all (fun x => !x.1) && (backToKw pos (keywordEach [] X.env)).all (fun x => x.1.isSome) && decide (([.Call (.Attribute (.Name z2 p3) "pop" apos2) [e] [] pos2] : List Expr).length + ([] : List Keyword).length + (if ([] : List Keyword).isEmpty then 0 else 1) < 30)) = true := by rfl)
    (hfew2 : ((backTo pos2 (starEach [e] X.env)).all (fun x => !x.1) && (backToKw pos2 (keywordEach [] X.env)).all (fun x => x.1.isSome) && decide (([e] : List Expr).length + ([] : List Keyword).length + (if ([] : List Keyword).isEmpty then 0 else 1) < 30)) = true := by rfl)
    (hline : (apos.endLine == pos.line) = true := by rfl) (hline2 : (apos2.endLine == pos2.line) = true := by rfl)
    (hs : starEach [.Call (.Attribute (.Name z2 p3) "pop" apos2) [e] [] pos2] X.env = (false, eval (.Call (.Attribute (.Name z2 p3) "pop" apos2) [e] [] pos2) X.env) :: starEach [] X.env := by rfl)
    (hs2 : starEach [e] X.env = (false, eval e X.env) :: starEach [] X.env := by rfl) (hplain : (backTo pos (starEach [] X.env)).any (·.1) = false := by rfl) (hplain2 : (backTo pos2 (starEach [] X.env)).any (·.1) = false := by rfl) {p2 : Pos}
    (hsw : swapsWith (.Call (.Attribute (.Name z p1) "append" apos) [.Call (.Attribute (.Name z2 p3) "pop" apos2) [e] [] pos2] [] pos) none p2.line X.env = pure false := by rfl) :
    PS X (.Expr (.Call (.Attribute (.Name z p1) "append" apos) [.Call (.Attribute (.Name z2 p3) "pop" apos2) [e] [] pos2] [] pos) p2) (SS T W (sAppPop i j fe)) :=
  (ps_expr (pe_bm PySem.F.plainAttrs_list PySem.F.slot_list_append PySem.F.type_list_append mt_append ho (pa_cons (pe_bm PySem.F.plainAttrs_list PySem.F.slot_list_pop PySem.F.type_list_pop mt_popAt ho2 (pa_cons he pa_nil hs2) hbase2 hfew2 hline2 hs2 hplain2) pa_nil hs) hbase hfew hline hs hplain) hsw).mono fun D σ H ⟨c, own, Γ, x, s, r⟩ => by
    unfold sAppPop at r
    split at r
    · rename_i ds rs hd hr
      by_cases hij : i = j
      · rw [if_pos hij] at r
        exact r.elim
      · rw [if_neg hij] at r
        have hgi := ownL_some hd
        have hgj := ownL_some hr
        obtain ⟨q, e1, e2, vs, h1, h2⟩ := s.slot i _ hgi
        obtain ⟨q', e1', e2', vs', h1', h2'⟩ := s.slot j _ hgj
        refine ⟨_, e1, .inl ⟨rfl, vs, .inl (.inl h1)⟩, _, e1', .inl ⟨rfl, vs', .inl (.inl h1')⟩, c, own, Γ, x, s, (SRes.bindD (m := .tr) s r).imp fun v H1 ⟨d, x1, s1, g, qd, r1⟩ => ?_⟩
        have a1 := g q _ (s.own_ne e2) h1
        have a2 := g q' _ (s.own_ne e2') h1'
        have b1 : RepL T c.b H1 (Pp c own) vs ds := RepL.grow g h2
        have b2 : RepL T c.b H1 (Pp c own) vs' rs := RepL.grow g h2'
        split at r1
        · rename_i k
          split at r1
          · rename_i n hn
            split at r1
            · rename_i yd hy
              obtain ⟨yv, ey, ry⟩ := b2.get hy
              by_cases hc : ds.length < 100000 ∧ -(2 ^ 63) ≤ k ∧ k < 2 ^ 63
              · rw [if_pos hc] at r1
                obtain ⟨s2, fz2⟩ := s1.chL hgj e1' e2' (b2.erase n)
                have hne : q ≠ q' := fun z => hij (s1.nodup i j q e2 (z ▸ e2'))
                have hgi2 : (Γ.set j (.ow (.lst (rs.eraseIdx n))))[i]? = some (.ow (.lst ds)) := by
                  rw [List.getElem?_set_ne (Ne.symm hij)]
                  exact hgi
                have hmem' : some q' ∈ own := List.mem_of_getElem? e2'
                have keep : ∀ a o, Pp c own a → H1 a = some o → upd H1 q' (.lst (vs'.eraseIdx n)) a = some o := fun a o pa e => by
                  have hne : a ≠ q' := fun z => pa.2.2 (by rw [z]; exact hmem')
                  rw [upd_ne hne]
                  exact e
                have b3 := (b1.append (.cons ry .nil)).mono keep fun _ _ p _ => p
                obtain ⟨s3, fz3⟩ := s2.chL hgi2 e1 e2 b3
                refine ⟨q', vs', k, n, yv, rfl, by rw [RepQ.int qd], a2, hc.2.1, hc.2.2, by rw [b2.length]; exact hn, ey, q, vs, yv, rfl, rfl, by rw [upd_ne hne]; exact a1, by rw [b1.length]; exact Nat.lt_of_lt_of_le hc.1 (by decide), r1 own _ _ (fz2.trans fz3) s3⟩
              · rw [if_neg hc] at r1
                exact r1.elim
            · exact r1.elim
          · exact r1.elim
        · exact r1.elim
    · exact r.elim
/-- xs[k] = e -/
def sSetL (i : Nat) (fk fe : EC) : SC := fun Γ x => match ownL Γ i with
  | none => .no
  | some ds => sE fe (fun d Γ x => sE fk (fun k Γ x => match k with
    | .int k => match ixN ds.length k with
      | some n => .nx (Γ.set i (.ow (.lst (ds.set n d)))) x
      | none => .no
    | _ => .no) Γ x) Γ x
theorem SRes.keepD {De : Ends} {k : D → SC} {v0 : V} {d0 : D} (s : Sat T c own Γ x σ H) (q0 : Rep T c.b H (Pp c own) v0 d0) (r : SRes T W c own H De (sE f k Γ x)) :
    ERes T W m c own σ H (fun v H1 => ∃ d x1, Sat T c own Γ x1 σ H1 ∧ Grow c.b H H1 ∧ Rep T c.b H1 (Pp c own) v0 d0 ∧ RepM m T c.b H1 (Pp c own) v d ∧ SRes T W c own H1 De (k d Γ x1)) (f Γ x) := (SRes.bindD (m := m) s r).imp fun v H1 ⟨d, x1, s1, g, q, r1⟩ => ⟨d, x1, s1, g, q0.grow g, q, r1⟩
theorem ps_dsetL {i : Nat} {z : Str} {p1 : Pos} {k : Expr} {fk : EC} (ho : PE X (.Name z p1) (tVar i)) (hk : PE X k (E T W .tr fk)) (he : PE X e (E T W .fz fe))
    (ha : ∀ v, assign (.Subscript (.Name z p1) k p) X.env v = (do
      let ov ← holding [v] (eval (.Name z p1) X.env)
      let iv ← holding [v, ov] (eval k X.env)
      standAt p
      holding [v, ov, iv] (setItem ov iv v)
      release [v, ov, iv] []) := by intro _; rfl)
    (hs : swapsWithSole [.Subscript (.Name z p1) k p] e pos.line X.env = pure false := by rfl) (hw : swappedStores [.Subscript (.Name z p1) k p] e X.env = pure none := by rfl) (h1 : (assignEach [.Subscript (.Name z p1) k p] X.env).map (·.2) = [assign (.Subscript (.Name z p1) k p) X.env] := by rfl) :
    PS X (.Assign [.Subscript (.Name z p1) k p] e pos) (SS T W (sSetL i fk fe)) := (ps_asg he (pg_sub ho hk set_list ha) hs hw h1).mono fun D σ H ⟨c, own, Γ, x, s, r⟩ => by
  unfold sSetL at r
  split at r
  · exact r.elim
  · rename_i ds hd
    have hg := ownL_some hd
    exact ⟨c, own, Γ, x, s, (SRes.bindD (m := .fz) s r).imp fun v H1 ⟨d, x1, s1, g, q, r1⟩ => by
      obtain ⟨qa, e1, e2, vs, h1, h2⟩ := s1.slot i _ hg
      refine ⟨.ref qa, e1, c, own, Γ, x1, s1, (SRes.keepD (m := .tr) s1 q r1).imp fun kv H2 ⟨kd, x2, s2, g2, q2, qk, r2⟩ => ?_⟩
      split at r2
      · rename_i kk
        split at r2
        · rename_i n hn
          obtain ⟨q', e1', e2', vs', h1', h2'⟩ := s2.slot i _ hg
          rw [e1] at e1'
          cases e1'
          obtain ⟨s3, fz3⟩ := s2.chL hg e1 e2' (h2'.set q2 n)
          exact ⟨_, vs', kk, n, rfl, RepQ.int qk, h1', by rw [h2'.length]; exact hn, r2 own _ _ fz3 s3⟩
        · exact r2.elim
      · exact r2.elim⟩
end
end DL

namespace DL
open PySem PySem.Spec PyProof.Rows L2
/-! ### exceptions: their __init__ -/
section
variable {P : Program} {w : World} {K : PySem.W.Frag} {mg : Str → Option Value} {base : Heap} {T : Tb} {x qual : Str} {st : Stmt} {f C : Addr} {fd : FuncData} {N ps : List Str} {k : Nat}
theorem _root_.L2.Fun.okX1 {f1 : Str} (F : Fun K x qual st f fd) (S : FnScope N ps (defScope st)) (hps : ps.length = 2) (oc : OexC K C) (n1 : PySem.W.findIn K (.ref C) f1 = some none)
    (hbody : ∀ (cdv : Value) (A : Around) (outer : List Env) (s : Shared) (H : Hp) (E : XK), PSs (cxOf (L2.CX P w) P w K mg base N qual (defScope st) f cdv A outer s H E) (defBody st) (tOst K f1 (tVar 0) (tVar 1))) :
    FnOk P w K mg base (L2.CX P w) (k + 1) f fd ps (spX C 1 (RlN [f1])) := by
  refine F.okX S (fun vs H Q E h => ?_) (fun cdv A outer s H vs Q E hr h => ⟨_, hbody cdv A outer s H E, ?_⟩)
  · obtain ⟨a, us, rfl, hl, _⟩ := h
    rw [List.length_cons, hl, hps]
  · obtain ⟨a, us, rfl, hl, ha, q⟩ := h
    match us, hl with
    | [u], _ => exact ⟨u, rfl, .ref a, rfl, a, C, rfl, oc, n1, .inl ⟨ha, fun dx nd ne => q H dx _ (fun _ _ e => e) nd ne ⟨rfl, rfl⟩⟩⟩
theorem upd_upd_comm {H : Hp} {a d : Addr} {o o' u : HO} (ne : d ≠ a) : upd (upd (upd H d o) a u) d o' = upd (upd H d o') a u := by
  funext b
  by_cases h : b = d
  · rw [h, upd_same, upd_ne ne, upd_same]
  · rw [upd_ne h]
    by_cases h2 : b = a
    · rw [h2, upd_same, upd_same]
    · rw [upd_ne h2, upd_ne h2, upd_ne h, upd_ne h]
theorem _root_.L2.Fun.okX2 {f1 f2 : Str} (F : Fun K x qual st f fd) (S : FnScope N ps (defScope st)) (hps : ps.length = 3) (oc : OexC K C) (n1 : PySem.W.findIn K (.ref C) f1 = some none) (n2 : PySem.W.findIn K (.ref C) f2 = some none)
    (hbody : ∀ (cdv : Value) (A : Around) (outer : List Env) (s : Shared) (H : Hp) (E : XK), PSs (cxOf (L2.CX P w) P w K mg base N qual (defScope st) f cdv A outer s H E) (defBody st) (tSeq (tOst K f1 (tVar 0) (tVar 1)) (tOst K f2 (tVar 0) (tVar 2)))) :
    FnOk P w K mg base (L2.CX P w) (k + 1) f fd ps (spX C 2 (RlN [f1, f2])) := by
  refine F.okX S (fun vs H Q E h => ?_) (fun cdv A outer s H vs Q E hr h => ⟨_, hbody cdv A outer s H E, ?_⟩)
  · obtain ⟨a, us, rfl, hl, _⟩ := h
    rw [List.length_cons, hl, hps]
  · obtain ⟨a, us, rfl, hl, ha, q⟩ := h
    match us, hl with
    | [u, v], _ =>
      refine ⟨u, rfl, .ref a, rfl, a, C, rfl, oc, n1, .inl ⟨ha, fun dx nd ne => ?_⟩⟩
      refine ⟨v, rfl, .ref a, rfl, a, C, rfl, oc, n2, .inr ⟨dx, _, upd_same, by rw [upd_ne ne, upd_same], by simp, ?_⟩⟩
      show Q _ _
      rw [upd_upd_comm ne]
      exact q H dx _ (fun _ _ e => e) nd ne ⟨rfl, rfl⟩
theorem _root_.L2.Fun.okX3 {f1 f2 f3 : Str} (F : Fun K x qual st f fd) (S : FnScope N ps (defScope st)) (hps : ps.length = 4) (oc : OexC K C) (n1 : PySem.W.findIn K (.ref C) f1 = some none) (n2 : PySem.W.findIn K (.ref C) f2 = some none) (n3 : PySem.W.findIn K (.ref C) f3 = some none)
    (hbody : ∀ (cdv : Value) (A : Around) (outer : List Env) (s : Shared) (H : Hp) (E : XK), PSs (cxOf (L2.CX P w) P w K mg base N qual (defScope st) f cdv A outer s H E) (defBody st) (tSeq (tOst K f1 (tVar 0) (tVar 1)) (tSeq (tOst K f2 (tVar 0) (tVar 2)) (tOst K f3 (tVar 0) (tVar 3))))) :
    FnOk P w K mg base (L2.CX P w) (k + 1) f fd ps (spX C 3 (RlN [f1, f2, f3])) := by
  refine F.okX S (fun vs H Q E h => ?_) (fun cdv A outer s H vs Q E hr h => ⟨_, hbody cdv A outer s H E, ?_⟩)
  · obtain ⟨a, us, rfl, hl, _⟩ := h
    rw [List.length_cons, hl, hps]
  · obtain ⟨a, us, rfl, hl, ha, q⟩ := h
    match us, hl with
    | [u, v, z], _ =>
      refine ⟨u, rfl, .ref a, rfl, a, C, rfl, oc, n1, .inl ⟨ha, fun dx nd ne => ?_⟩⟩
      refine ⟨v, rfl, .ref a, rfl, a, C, rfl, oc, n2, .inr ⟨dx, _, upd_same, by rw [upd_ne ne, upd_same], by simp, ?_⟩⟩
      refine ⟨z, rfl, .ref a, rfl, a, C, rfl, oc, n3, .inr ⟨dx, _, by rw [upd_ne (Ne.symm ne), upd_same], by rw [upd_same], by simp, ?_⟩⟩
      show Q _ _
      rw [upd_upd_comm ne, upd_upd_comm ne]
      exact q H dx _ (fun _ _ e => e) nd ne ⟨rfl, rfl⟩
theorem _root_.L2.Fun.okX0 (F : Fun K x qual st f fd) (S : FnScope N ps (defScope st)) (hps : ps.length = 1) (oc : OexC K C) (n1 : PySem.W.findIn K (.ref C) "given" = some none)
    (hbody : ∀ (cdv : Value) (A : Around) (outer : List Env) (s : Shared) (H : Hp) (E : XK), PSs (cxOf (L2.CX P w) P w K mg base N qual (defScope st) f cdv A outer s H E) (defBody st) (tOst K "given" (tVar 0) (tTup tNil))) :
    FnOk P w K mg base (L2.CX P w) (k + 1) f fd ps (spX C 0 Rl0) := by
  refine F.okX S (fun vs H Q E h => ?_) (fun cdv A outer s H vs Q E hr h => ⟨_, hbody cdv A outer s H E, ?_⟩)
  · obtain ⟨a, us, rfl, hl, _⟩ := h
    rw [List.length_cons, hl, hps]
  · obtain ⟨a, us, rfl, hl, ha, q⟩ := h
    match us, hl with
    | [], _ =>
      refine ⟨Nat.zero_le _, fun p np => ?_⟩
      have nea : a ≠ p := fun z => by rw [← z, ha] at np; cases np
      refine ⟨.ref a, rfl, a, C, rfl, oc, n1, .inl ⟨by rw [upd_ne nea]; exact ha, fun dx nd ne => q _ dx _ (Same.upd' np) nd ne ⟨p, np, rfl, rfl⟩⟩⟩
end
end DL

namespace PySem
namespace HandSPX
open Builtin Builtin.ObjectAttr
section
variable {M : Model} {A : Around} {E : Value → Shared → Prop} {h : Heap} {g : Array GenState} {d : Drawn} {t : Nat} {os : OsState}
variable {nm q : Str} {C N : Addr} {bs bm bmB : List Value} {hdct : Bool} {sn : List Str} {sub : List Value} {ab : Bool} {col : Option Bool} {dd : Option Addr} {k0 k1 k2 k3 k5 : Option Value} {B newId initId : String}
theorem check_new_ownK (F : ExcBaseFacts B newId initId bmB) (hT : ∀ X : String, bm.contains (.type X) = bmB.contains (.type X)) {rest : List Value} {kw : List (Str × Value)} {Q : Unit → Shared → Prop}
    (hC : h.get? C = some (excClassObj nm q C N bs bm hdct sn sub ab col dd k0 k1 k2 k3 k5 newId)) (hq : Q () ⟨h, g, d, t, os⟩) : wpAny M A (checkBuiltinCall newId ⟨.ref C :: rest, kw⟩) Q E ⟨h, g, d, t, os⟩ := by
  have hcont : (Value.ref C :: bm).contains (.type B) = true := by rw [List.contains_cons, hT, F.hasB, Bool.or_true]
  have hstar := F.noStar
  simp only [checkBuiltinCall, F.newKind, F.newSplit, F.newRow]
  repeat (first | refine wpAny_loadPart_at hC ?_ | (refine wpAny_isSubtype_exc hC ?_; rw [hcont]) | refine wpAny_staticBase_exc hC ?_ | refine wpAny_madeBy_exc hC ?_ | simp only [bne_self_eq_false, Bool.false_eq_true, if_false] | wp_step)
  exact hq
end
section
variable {prog : Program} {w : World} {A : Around} {E : Value → Shared → Prop} {R : Result → Shared → Prop} {h : Heap} {g : Array GenState} {d : Drawn} {t : Nat} {os : OsState}
variable {nm q : Str} {C N : Addr} {bs bm bmB : List Value} {hdct : Bool} {sn : List Str} {sub : List Value} {ab : Bool} {col : Option Bool} {dd : Option Addr} {k0 k1 k2 k3 k5 : Option Value} {B newId initId : String}
theorem new_ownK (F : ExcBaseFacts B newId initId bmB) (hT : ∀ X : String, bm.contains (.type X) = bmB.contains (.type X)) {rest : List Value} {kw : List (Str × Value)}
    (hC : h.get? C = some (excClassObj nm q C N bs bm hdct sn sub ab col dd k0 k1 k2 k3 k5 newId))
    (hq : R (.ok (.ret (.ref (h.objs.size + 1)))) ⟨(h.push { cls := .type "tuple", data := .seq rest.toArray }).push
      { cls := .ref C, data := .fields #[.ref h.objs.size, .none, .none, .none, .bool false, .none] }, g, d, t, os⟩) (hrest : rest.length ≤ sizeLine) :
    codeAny (model prog w) A (.builtin newId ⟨.ref C :: rest, kw⟩) R ⟨h, g, d, t, os⟩ := by
  have hends := F.ends
  have hcB : (Value.ref C :: bm).contains (.type B) = true := by rw [List.contains_cons, hT, F.hasB, Bool.or_true]
  have hcA : (Value.ref C :: bm).contains (.type "AttributeError") = false := by rw [List.contains_cons, hT, F.noAttr]; rfl
  have hcN : (Value.ref C :: bm).contains (.type "NameError") = false := by rw [List.contains_cons, hT, F.noName]; rfl
  refine codeAny_builtinAt F.entry ?_
  unfold Builtin.«BaseException.__new__»
  refine wpAt_bind ?_
  show wpAt _ _ _ (stack >>= _) _ _ _
  refine wpAt_bind (wpAt_stack fun p below => wpAt_of_wpAny ?_)
  wp_walk
  refine wpAt_of_wpAny ?_
  rw [F.owner]
  repeat (first | with_reducible refine wpAny_madeHere_exc F.canon hC ?_ | with_reducible refine wpAny_loadPart_at hC ?_ | (with_reducible refine wpAny_isSubtype_exc hC ?_; first | rw [hcB] | rw [hcA] | rw [hcN]) | wp_step)
  show R _ _
  rw [Heap.size_push]
  exact hq
theorem type_call_ownK (F : ExcBaseFacts B newId initId bmB) (hT : ∀ X : String, bm.contains (.type X) = bmB.contains (.type X)) {rest : List Value} {kw : List (Str × Value)} {fI : Addr} {Q : Fin → Shared → Prop}
    (hC : h.get? C = some (excClassObj nm q C N bs bm hdct sn sub ab col dd k0 k1 k2 k3 k5 newId))
    (hi : W.Looks (model prog w) h (typeLookup (.ref C) "__init__") (some (.ref fI))) (hb : ∀ self, W.Looks (model prog w) h (bindSpecial (.ref fI) self) (.ref fI, [self])) (hrest : rest.length ≤ sizeLine)
    (hq : codeAny (model prog w) A (.call (.ref fI) ⟨.ref (h.objs.size + 1) :: rest, kw⟩)
      (fun r s' => match r with | .ok (.ret v) => v = .none ∧ Q (.done (.ret (.ref (h.objs.size + 1)))) s' | .ok _ => False | .error e => E e s')
      ⟨(h.push (W.kdv_tup rest)).push (excO C h.objs.size), g, d, t, os⟩) :
    wpAny (model prog w) A (Builtin.«type.__call__» ⟨.ref C :: rest, kw⟩) Q E ⟨h, g, d, t, os⟩ := by
  repeat (first | with_reducible refine wpAny_loadPart_at hC ?_ | with_reducible refine wpAny_madeBy_exc hC ?_ | wp_step)
  refine codeAny_call_builtin_code (Code.quiet_builtin _ F.quiet) (check_new_ownK F hT hC ?_)
  refine new_ownK F hT hC ?_ hrest
  show wpAny _ _ _ _ _ _
  have k : ∀ b o, h.get? b = some o → ((h.push (W.kdv_tup rest)).push (excO C h.objs.size)).get? b = some o := fun b o e => Heap.get?_push_of_some _ (Heap.get?_push_of_some _ e)
  have hC₁ := k _ _ hC
  have hget : ((h.push (W.kdv_tup rest)).push (excO C h.objs.size)).get? (h.objs.size + 1) = some (excO C h.objs.size) := by heap_get
  have hcC : (Value.ref C :: bm).contains (.ref C) = true := by simp
  have i1 := hi.keeps k
  have b1 := (hb (.ref (h.objs.size + 1))).keeps k
  unfold isInstance
  repeat (first | with_reducible refine wpAny_loadPart_at hget ?_ | (with_reducible refine wpAny_isSubtype_exc hC₁ ?_; rw [hcC]) | wp_step)
  show wpAny _ _ (typeLookup (.ref C) _) _ _ _
  refine i1.at ?_
  refine wpAny_holding (wpAny_bind (b1.at ?_))
  refine wpAny_bind (wpAny_call (codeAny_mono hq fun r s' z => ?_))
  rcases r with e | (v | _ | _ | _) <;> first | exact z | exact z.elim | skip
  obtain ⟨rfl, z⟩ := z
  first
    | exact wpAny_pure (wpAny_pure z)
    | (wp_walk; exact z)
theorem call_ownK (F : ExcBaseFacts B newId initId bmB) (hT : ∀ X : String, bm.contains (.type X) = bmB.contains (.type X)) {rest : List Value} {kw : List (Str × Value)} {fI : Addr}
    (hC : h.get? C = some (excClassObj nm q C N bs bm hdct sn sub ab col dd k0 k1 k2 k3 k5 newId))
    (hi : W.Looks (model prog w) h (typeLookup (.ref C) "__init__") (some (.ref fI))) (hb : ∀ self, W.Looks (model prog w) h (bindSpecial (.ref fI) self) (.ref fI, [self])) (hrest : rest.length ≤ sizeLine)
    (hq : codeAny (model prog w) (A.under (.builtin "type.__call__" ⟨.ref C :: rest, kw⟩)) (.call (.ref fI) ⟨.ref (h.objs.size + 1) :: rest, kw⟩) (W.InitBack (h.objs.size + 1) R)
      ⟨(h.push (W.kdv_tup rest)).push (excO C h.objs.size), g, d, t, os⟩) :
    codeAny (model prog w) A (.call (.ref C) ⟨rest, kw⟩) R ⟨h, g, d, t, os⟩ := by
  have f1 := tc_lookup
  have f2 := tc_bind (.ref C)
  have hTy : (⟨h, g, d, t, os⟩ : Shared).TypeIs (.ref C) "type" := ⟨_, hC, rfl⟩
  refine codeAny_of_tree ?_
  show wpAny _ _ (callAny (.ref C) _) _ _ _
  repeat (any_goals (first | assumption | with_reducible refine wpAny_loadPart_at hC ?_ | wp_step))
  refine ⟨rfl, ?_⟩
  refine codeAny_call_builtin_at (Code.quiet_builtin _ (by decide +kernel)) entry_typeCall (wpAny_check_type_call_sub hC (type_call_ownK F hT hC hi hb hrest ?_))
  refine codeAny_mono hq fun r s' z => ?_
  rcases r with e | (v | _ | _ | _) <;> exact z
end
end HandSPX
end PySem

namespace DL
open PySem PySem.Spec PyProof.Rows L2
/-! ### keywords, in the parameters' order -/
def KIn (K : PySem.W.Frag) (fd : FuncData) (ps : List Str) (n : Nat) (ks : List Str) : Prop := ∀ (s : Shared) (us ws : List Value), K.In s.heap → us.length = n → ws.length = ks.length → BindsTo s fd ⟨us, ks.zip ws⟩ (ps.zip (us ++ ws))
theorem _root_.L2.Fun.kin {K : PySem.W.Frag} {x qual : Str} {st : Stmt} {f : Addr} {fd : FuncData} {ps : List Str} (F : Fun K x qual st f fd) (n : Nat) (ks : List Str)
    (h : ∀ (kV doc pm : Value) (an : Option Addr) (cdv ct : Value) (us ws : List Value), us.length = n → ws.length = ks.length → bindArgs (PySem.W.fnOf x qual (defArgs st) (defBody st) (defScope st) .none kV doc pm an cdv ct) ⟨us, ks.zip ws⟩ = pure (ps.zip (us ++ ws))) : KIn K fd ps n ks := by
  obtain ⟨oc, od, kV, doc, pm, an, cdv, ct, osl, rfl, lk, hcd⟩ := F.ex
  exact fun s us ws X l1 l2 => BindsTo.of_looks fun M => PySem.W.Looks.of_pure (h kV doc pm an cdv ct us ws l1 l2)
section
variable {X : Cx} {T : Tb} {W : WX} {pins : List (Addr × Obj)} {σ : L2.St} {H : Hp} {s s' : Shared} {e : Expr} {es : List Expr} {pos p kpos : Pos} {y : Str} {kws : List Keyword} {nm : Option Str} {f : EC} {fs : AC} {n : Nat}
theorem PK.mono {t t' : TA} (h : PK X kws t) (k : ∀ σ H Q, t' σ H Q → t σ H Q) : PK X kws t' := ⟨fun pos pins s σ H Q I q => h.run pos pins s σ H Q I (k σ H Q q)⟩
theorem pkl_nil : PK X [] (EL T W 0 lNil) := PK.mono pk_nil fun σ H Q ⟨c, own, Γ, x, s, r⟩ => r [] H Grow.refl s.bx .nil rfl
theorem pkl_cons (ha : PE X e (E T W .fz f)) (hr : PK X kws (EL T W n fs)) : PK X (⟨nm, e, kpos⟩ :: kws) (EL T W (n + 1) (lCons f fs)) :=
  PK.mono (pk_cons ha hr) fun σ H Q ⟨c, own, Γ, x, s, r⟩ => ⟨c, own, Γ, x, s, by
    cases hf : f Γ x with
    | ok d x1 =>
      rw [show lCons f fs Γ x = _ from bnd_ok hf] at r
      refine fun v H1 g bx q => ⟨c, own, Γ, x1, s.grow g bx, ?_⟩
      replace r := r.at g
      cases hg : fs Γ x1 with
      | ok ds x2 =>
        rw [bnd_ok hg] at r
        exact fun vs H2 g2 bx2 q2 hl => r (v :: vs) H2 g2 bx2 (.cons (Rep.grow g2 q) q2) (by rw [List.length_cons, hl])
      | er d x2 => rw [bnd_er hg] at r; exact r
      | no => rw [bnd_no hg] at r; exact r
    | er d x1 => rw [show lCons f fs Γ x = _ from bnd_er hf] at r; exact r
    | no => rw [show lCons f fs Γ x = _ from bnd_no hf] at r; exact r⟩
/-- X(k = v, ..) of an own exception -/
theorem pmk_oexK {CX : CXT} {x : Str} {C fI : Addr} {k : Nat} {fd : FuncData} {ps ks : List Str} {sp : Sp} {tk : TA} (T : OexC X.K C) (iC : PySem.W.findIn X.K (.ref C) "__init__" = some (some (.ref fI))) (tI : PySem.W.typeIn X.K (.ref fI) = some (.type "function"))
    (F1 : FnOk X.prog X.w X.K X.mg X.base CX k fI fd ps sp) (hr : Room (k + 1) X.A) (hb : KIn X.K fd ps 1 ks) (hx : Passes CX X (fun _ _ _ => False)) (hg : Gl X x) (hm : X.mg x = some (.ref C)) (hkw : PK X kws tk)
    (hall : (backToKw pos (keywordEach kws X.env)).all (·.1.isSome) = true := by rfl) (hks : (backToKw pos (keywordEach kws X.env)).filterMap (·.1) = ks := by rfl) (hdb : (x == ("__debug__" : Str)) = false := by decide)
    (hpl : ((backTo pos (starEach [] X.env)).any (·.1) || (backToKw pos (keywordEach kws X.env)).any (·.1.isNone)) = false := by rfl) :
    PMk X (.Call (.Name x p) [] kws pos) (tMkO C sp [] (fun σ H Q => tk σ H fun zs H1 => zs.length = ks.length ∧ Q zs H1)) := by
  intro pins s σ H Q I h
  obtain ⟨nm, q, N, bs, bm, sn, sub, ab, col, dd, k0, k1, k2, k3, k5, hC, hbm⟩ := T.cls
  refine wpAny_Call_Name_kw (ld_glob I hg hm ?_ hdb)
  refine PySem.W.callWith_KW0 (h₀ := X.base) I.ok.mod.kin T.kC hall ?_ hpl
  refine thn (hkw.run pos pins s σ H _ I h) fun ws s1 ⟨zs, H1, I1, rz, l2, hz, q1⟩ => ⟨I1.kIn, ?_⟩
  rw [hks]
  show wpAny _ _ (call (.ref C) [] (ks.zip ws)) _ _ _
  obtain ⟨hp, g, dr, tk, os⟩ := s1
  have hsz : hp.objs.size ≤ hp.objs.size + 1 := Nat.le_succ _
  have hn : H1 (hp.objs.size + 1) = none := I1.hok.fresh hsz
  have hq := q1 (hp.objs.size + 1) hn
  rw [List.append_nil] at hq
  have kk : ∀ b o, hp.get? b = some o → ((hp.push (PySem.W.kdv_tup [])).push (PySem.HandSPX.excO C hp.objs.size)).get? b = some o := fun b o e => Heap.get?_push_of_some _ (Heap.get?_push_of_some _ e)
  have hget : ((hp.push (PySem.W.kdv_tup [])).push (PySem.HandSPX.excO C hp.objs.size)).get? (hp.objs.size + 1) = some (PySem.HandSPX.excO C hp.objs.size) := by heap_get
  have I2 : Inv X pins σ (upd H1 (hp.objs.size + 1) (exo (hp.objs.size + 1) C none)) ⟨(hp.push (PySem.W.kdv_tup [])).push (PySem.HandSPX.excO C hp.objs.size), g, dr, tk, os⟩ :=
    I1.laid (t' := tk) (a := hp.objs.size + 1) (o := exo (hp.objs.size + 1) C none) (h' := (hp.push (PySem.W.kdv_tup [])).push (PySem.HandSPX.excO C hp.objs.size)) kk hsz (exo_ok hget)
  have r2 : Vals (V.ref (hp.objs.size + 1) :: zs) (Value.ref (hp.objs.size + 1) :: ws) := .cons rfl rz
  refine wpAny_call (PySem.HandSPX.call_ownK F.excBase_ValueError (fun Y => PySem.HandSPX.refsVE_contains Y bm hbm) (I1.kIn _ _ hC) (PySem.W.looks_findIn I1.kIn iC) (fun self => PySem.W.bind_fn I1.kIn self tI) (Nat.zero_le _)
    (codeAny_mono (F1.run _ X.stack _ _ ⟨[Value.ref (hp.objs.size + 1)], ks.zip ws⟩ (Value.ref (hp.objs.size + 1) :: ws) _ _ (fun _ _ _ => False) (hr.make C [] (ks.zip ws)) (I2.env0.make C [] (ks.zip ws)) (hb _ [Value.ref (hp.objs.size + 1)] ws I2.kIn rfl (rz.length.symm.trans l2)) r2 hq) fun r s' hq' => ?_))
  cases r with
  | error er => exact hx pins σ _ _ er s' I2 hq'
  | ok fl =>
    cases fl with
    | ret u =>
      obtain ⟨v, H2, os2, bare2, un2, hok2, rv, ev, d, fs, ea, ed, hd1, q2⟩ := hq'
      subst ev
      obtain ⟨h2, g2, d2, t2, os'⟩ := s'
      exact ⟨rv, mk_end (raises_own T.exC T.tyC) I1 hsz kk un2 hok2 os2 bare2 ea ed hd1 q2⟩
    | next => exact False.elim hq'
    | brk => exact False.elim hq'
    | cont => exact False.elim hq'
theorem pmk_k {cn : Str} {fl ks : List Str} {k n : Nat} {C fI : Addr} {fd : FuncData} {ps : List Str} {fs : AC} (Z : XcOk X.prog X.w X.K X.mg X.base T cn fl.length (RlN fl) k C fI fd ps) (hb : KIn X.K fd ps 1 ks) (hr : Room (k + 1) X.A) (hg : Gl X cn) (ha : PK X kws (EL T W n fs)) (hn : n = fl.length := by rfl) (hn2 : n ≤ 1000 := by decide) (hnk : n = ks.length := by rfl)
    (hall : (backToKw pos (keywordEach kws X.env)).all (·.1.isSome) = true := by rfl) (hks : (backToKw pos (keywordEach kws X.env)).filterMap (·.1) = ks := by rfl) (hdb : (cn == ("__debug__" : Str)) = false := by decide)
    (hpl : ((backTo pos (starEach [] X.env)).any (·.1) || (backToKw pos (keywordEach kws X.env)).any (·.1.isNone)) = false := by rfl) : PMk X (.Call (.Name cn p) [] kws pos) (XM T W (eExc cn fl fs)) :=
  PMk.mono (pmk_oexK Z.oc Z.ini Z.tyf Z.fn hr hb passL hg Z.mgc ha hall hks hdb hpl) fun σ H Q ⟨c, own, Γ, x, s, r⟩ => ⟨c, own, Γ, x, s, by
    cases hf : fs Γ x with
    | no => rw [show eExc cn fl fs Γ x = _ from bnd_no hf] at r; exact r
    | er e x1 => rw [show eExc cn fl fs Γ x = _ from bnd_er hf] at r; exact r
    | ok ds x1 =>
      rw [show eExc cn fl fs Γ x = _ from bnd_ok hf] at r
      refine fun vs H1 g bx q hl => ⟨hl.trans hnk, by omega, fun a na => ⟨a, vs, by rw [List.append_nil], hl.trans hn, upd_same, fun G d gs sm nd ne hR => ?_⟩⟩
      obtain ⟨rfl, rfl⟩ := hR
      have nd1 : H1 d = none := by rw [upd_ne ne] at nd; exact nd
      refine ⟨rfl, d, _, upd_same, by rw [upd_ne ne, upd_same], nd1, ?_⟩
      have eq : upd (del (upd (upd (upd H1 a (exo a C none)) d (exd d (fl.zip vs).reverse)) a (exo a C (some d))) a) d (.xd (fl.zip vs).reverse) = upd H1 d (.xd (fl.zip vs).reverse) := by
        funext b
        by_cases h : b = d
        · rw [h, upd_same, upd_same]
        · rw [upd_ne h, upd_ne h]
          by_cases h2 : b = a
          · rw [h2, del_same, na]
          · rw [del_ne h2, upd_ne h2, upd_ne h, upd_ne h2]
      rw [eq]
      have s1 := s.grow g bx
      have sm1 : Same H1 (upd H1 d (.xd (fl.zip vs).reverse)) := Same.upd' nd1
      exact r _ _ _ (g.trans (Grow.same sm1)) (bx.same sm1) ⟨cn, C, d, _, _, rfl, Z.cls, rfl, rfl, s1.freshP nd1, upd_same, ((RepF.zip q).rev).same sm1⟩⟩
end
end DL

namespace DL
open PySem PySem.Spec PyProof.Rows L2
section
variable {X : Cx} {T : Tb} {W : WX} {m : Md} {a b e e2 l tg : Expr} {es : List Expr} {f f2 fa fb fl : EC} {fi : AC} {fs : Gm → M (List Ar)} {pos p apos : Pos} {c : Cf} {own own' : Ow} {Γ : Gm} {x x' : Bx} {σ : L2.St} {H H' : Hp} {Q : VK} {y : Str} {vs : List V} {ds : List D} {g : SC} {tf : TC} {P' : Addr → Prop}
/-! a, b = a tuple or a list -/
theorem _root_.L2.PG.or {t t' : TG} (h : PG X tg t) (h' : PG X tg t') : PG X tg (fun v σ H Q => t v σ H Q ∨ t' v σ H Q) := ⟨fun pins s σ H v u Q I r q => q.elim (h.run pins s σ H v u Q I r) (h'.run pins s σ H v u Q I r)⟩
def gU (n : Nat) (ts : List D → Gm → Option Gm) : GC := fun d Γ => match d with
  | .tup ds => if ds.length = n then ts ds Γ else none
  | .lst ds => if ds.length = n then ts ds Γ else none
  | _ => none
theorem pg_dun {k n : Nat} {is : List Nat} {ts : List D → Gm → Option Gm} (hK : X.K = T.K) (hc : X.calm = true) (h : PGs X es (GTs T is ts)) (hn : (assignEach es X.env).length = n := by rfl) (hst : (assignEach es X.env).findIdx? (·.1) = none := by rfl) : PG X (.Tuple es k pos) (GT T is (gU n ts)) :=
  ((pg_tup hc h hn hst).or (pg_lst hc h hn hst)).mono fun v σ H Q ⟨c, own, Γ, x, d, Γ', s, r, e, k⟩ => by
    cases d with
    | tup ds =>
      obtain ⟨p, vs, e1, e2, e3⟩ := RepQ.tup (.inl r)
      have e' : (if ds.length = n then ts ds Γ else none) = some Γ' := e
      by_cases hl : ds.length = n
      · rw [if_pos hl] at e'
        exact .inl ⟨p, vs, e1, by rw [hK]; exact e2, by rw [e3.length]; exact hl, c, own, Γ, x, ds, Γ', s, e3, e', k⟩
      · rw [if_neg hl] at e'
        cases e'
    | lst ds =>
      have e' : (if ds.length = n then ts ds Γ else none) = some Γ' := e
      by_cases hl : ds.length = n
      · rw [if_pos hl] at e'
        cases r with
        | lst h1 h2 h3 => exact .inr ⟨_, _, rfl, .inl (.inl h2), by rw [h3.length]; exact hl, c, own, Γ, x, ds, Γ', s, h3, e', k⟩
      · rw [if_neg hl] at e'
        cases e'
    | _ => cases e
/-! zip -/
theorem RepI.grow (g : Grow c.b H H') {v : V} {d : D} (h : RepI T c.b own H (Pp c own) v d) : RepI T c.b own H' (Pp c own) v d := by
  rcases h with h | ⟨hd, q, e1, e2, e3, e4⟩
  · exact .inl (h.grow g)
  · exact .inr ⟨hd, q, e1, e2, e3, e4.mono (fun a o pa e => g a o pa.2.1 e) (fun _ _ p _ => p) fun o e => g _ _ e2 e⟩
def R2es (T : Tb) (W : WX) (c : Cf) (own : Ow) (σ : L2.St) (H : Hp) (Q : List V → Hp → Prop) : R (D × D) → Prop
  | .ok d x => ∀ v v2 H', Grow c.b H H' → BoxRel c.b x H' → RepI T c.b own H' (Pp c own) v d.1 → RepI T c.b own H' (Pp c own) v2 d.2 → Q [v, v2] H'
  | .er e x => ∀ cls dd H', Grow c.b H H' → BoxRel c.b x H' → RepE T c.b H' (Pp c own) cls dd e → W cls dd σ H'
  | .no => False
def p2 (f f2 : EC) : Gm → M (D × D) := fun Γ => bnd (f Γ) fun d => bnd (f2 Γ) fun d2 => M.pure (d, d2)
def EI2 (T : Tb) (W : WX) (f : Gm → M (D × D)) : TA := fun σ H Q => ∃ c own Γ x, Sat T c own Γ x σ H ∧ R2es T W c own σ H Q (f Γ x)
theorem R2es.at {z : R (D × D)} {Q : List V → Hp → Prop} (g : Grow c.b H H') (r : R2es T W c own σ H Q z) : R2es T W c own σ H' Q z := by
  cases z with
  | ok d x => exact fun v v2 H2 g2 bx q => r v v2 H2 (g.trans g2) bx q
  | er d x => exact fun cl dd H2 g2 bx q => r cl dd H2 (g.trans g2) bx q
  | no => exact r
theorem pa_i2 (h : PE X e (EI T W f)) (h2 : PE X e2 (EI T W f2)) (hs : starEach [e, e2] X.env = (false, eval e X.env) :: starEach [e2] X.env := by rfl) (hs2 : starEach [e2] X.env = (false, eval e2 X.env) :: starEach [] X.env := by rfl) : PA X [e, e2] (EI2 T W (p2 f f2)) :=
  (pa_cons h (pa_cons h2 pa_nil hs2) hs).mono fun σ H Q ⟨c, own, Γ, x, s, r⟩ => ⟨c, own, Γ, x, s, by
    cases hf : f Γ x with
    | ok d x1 =>
      rw [show p2 f f2 Γ x = _ from bnd_ok hf] at r
      refine fun v H1 g bx q => ⟨c, own, Γ, x1, s.grow g bx, ?_⟩
      replace r := r.at g
      cases hg : f2 Γ x1 with
      | ok ds x2 =>
        rw [bnd_ok hg] at r
        exact fun v2 H2 g2 bx2 q2 => r v v2 H2 g2 bx2 (q.grow g2) q2
      | er d x2 => rw [bnd_er hg] at r; exact r
      | no => rw [bnd_no hg] at r; exact r
    | er d x1 => rw [show p2 f f2 Γ x = _ from bnd_er hf] at r; exact r
    | no => rw [show p2 f f2 Γ x = _ from bnd_no hf] at r; exact r⟩
def zipD (as bs : List D) : List D := (as.zip bs).map fun p => .tup [p.1, p.2]
theorem zipD_get {as bs : List D} {i : Nat} {d : D} (h : (zipD as bs)[i]? = some d) : ∃ a b, as[i]? = some a ∧ bs[i]? = some b ∧ d = .tup [a, b] := by
  unfold zipD at h
  rw [List.getElem?_map] at h
  cases hz : (as.zip bs)[i]? with
  | none => rw [hz] at h; cases h
  | some q =>
    rw [hz] at h
    cases h
    obtain ⟨u, v⟩ := q
    rw [List.getElem?_zip_eq_some] at hz
    exact ⟨u, v, hz.1, hz.2, rfl⟩
theorem zipD_len (as bs : List D) : (zipD as bs).length = min as.length bs.length := by
  unfold zipD
  rw [List.length_map, List.length_zip]
theorem irep_zip {q q2 : Addr} {vs2 : List V} {ds2 : List D} (h : H q = some (.lst vs)) (n1 : some q ∉ own) (n2 : c.b ≠ some q) (r : RepL T c.b H (Pp c own) vs ds) (h2 : H q2 = some (.lst vs2)) (n3 : some q2 ∉ own) (n4 : c.b ≠ some q2) (r2 : RepL T c.b H (Pp c own) vs2 ds2) : IRep T c own H (Itz T.K q q2) (zipD ds ds2) := fun P' H' k => by
  have h1 := k.k3 q _ n1 n2 h
  have h1' := k.k3 q2 _ n3 n4 h2
  have r1 := r.mono k.k1 k.k2
  have r1' := r2.mono k.k1 k.k2
  refine ⟨fun i d e => ?_, ⟨vs, vs2, .inl (.inl h1), .inl (.inl h1'), by rw [zipD_len, r.length, r2.length]; omega⟩⟩
  obtain ⟨a, b, ea, eb, rfl⟩ := zipD_get e
  obtain ⟨v, ev, rv⟩ := r1.get ea
  obtain ⟨v2, ev2, rv2⟩ := r1'.get eb
  refine ⟨⟨vs, vs2, v, v2, .inl (.inl h1), .inl (.inl h1'), ev, ev2⟩, fun x H2 hy => ?_⟩
  obtain ⟨t, z, z2, e1, e2, e3, hy, hy2⟩ := hy
  subst e1 e3
  have e4 := hy vs (.inl (.inl h1))
  rw [ev] at e4
  cases e4
  have e5 := hy2 vs2 (.inl (.inl h1'))
  rw [ev2] at e5
  cases e5
  exact ⟨Same.upd' e2, .tup (k.k4 t e2) upd_same (.cons (rv.same (Same.upd' e2)) (.cons (rv2.same (Same.upd' e2)) .nil))⟩
theorem irep_zipT {q q2 : Addr} {vs2 : List V} {ds2 : List D} (h : (H q = some (.tup vs) ∧ Pp c own q) ∨ KTup T.K q vs) (r : RepL T c.b H (Pp c own) vs ds) (h2 : (H q2 = some (.tup vs2) ∧ Pp c own q2) ∨ KTup T.K q2 vs2) (r2 : RepL T c.b H (Pp c own) vs2 ds2) : IRep T c own H (RZ.ItzT T.K q q2) (zipD ds ds2) := fun P' H' k => by
  have h1 : SqT T.K H' q vs := by
    rcases h with ⟨h, hp⟩ | h
    · exact .inl (.inl (k.k1 q _ hp h))
    · exact .inr h
  have h1' : SqT T.K H' q2 vs2 := by
    rcases h2 with ⟨h, hp⟩ | h
    · exact .inl (.inl (k.k1 q2 _ hp h))
    · exact .inr h
  have r1 := r.mono k.k1 k.k2
  have r1' := r2.mono k.k1 k.k2
  refine ⟨fun i d e => ?_, ⟨vs, vs2, h1, h1', by rw [zipD_len, r.length, r2.length]; omega⟩⟩
  obtain ⟨a, b, ea, eb, rfl⟩ := zipD_get e
  obtain ⟨v, ev, rv⟩ := r1.get ea
  obtain ⟨v2, ev2, rv2⟩ := r1'.get eb
  refine ⟨⟨vs, vs2, v, v2, h1, h1', ev, ev2⟩, fun x H2 hy => ?_⟩
  obtain ⟨t, z, z2, e1, e2, e3, hy, hy2⟩ := hy
  subst e1 e3
  have e4 := hy vs h1
  rw [ev] at e4
  cases e4
  have e5 := hy2 vs2 h1'
  rw [ev2] at e5
  cases e5
  exact ⟨Same.upd' e2, .tup (k.k4 t e2) upd_same (.cons (rv.same (Same.upd' e2)) (.cons (rv2.same (Same.upd' e2)) .nil))⟩
def dZip : D × D → Option (List D)
  | (.lst a, .lst b) => some (zipD a b)
  | (.tup a, .tup b) => some (zipD a b)
  | _ => none
def iZip (f f2 : EC) : AC := fun Γ => bnd (p2 f f2 Γ) fun d => opt (dZip d)
theorem RepI.lst {v : V} (h : RepI T c.b own H (Pp c own) v (.lst ds)) : ∃ q vs, v = .ref q ∧ H q = some (.lst vs) ∧ some q ∉ own ∧ c.b ≠ some q ∧ RepL T c.b H (Pp c own) vs ds := by
  rcases h with q | ⟨_, p, e, n1, n2, vs, h1, h2⟩
  · cases q with
    | lst h1 h2 h3 => exact ⟨_, _, rfl, h2, h1.2.2, h1.2.1, h3⟩
  · exact ⟨p, vs, e, h1, n2, n1, h2⟩
theorem RepI.tup {v : V} (h : RepI T c.b own H (Pp c own) v (.tup ds)) : ∃ q vs, v = .ref q ∧ ((H q = some (.tup vs) ∧ Pp c own q) ∨ KTup T.K q vs) ∧ RepL T c.b H (Pp c own) vs ds := by
  rcases h with q | ⟨_, p, e, n1, n2, h⟩
  · cases q with
    | tup h1 h2 h3 => exact ⟨_, _, rfl, .inl ⟨h2, h1⟩, h3⟩
    | tupK h1 h2 => exact ⟨_, _, rfl, .inr h1, h2⟩
  · exact h.elim
theorem sqT_of {q : Addr} (h : (H q = some (.tup vs) ∧ Pp c own q) ∨ KTup T.K q vs) : SqT T.K H q vs := by
  rcases h with ⟨h, hp⟩ | h
  · exact .inl (.inl h)
  · exact .inr h
theorem pi_dzip {tpos : Pos} {elts : List Expr} {kk : Nat} (hK : X.K = T.K) (hg : Gl X "zip") (hm : X.mg "zip" = none) (h : PE X e (EI T W f)) (h2 : PE X e2 (EI T W f2)) (hs : starEach [e, e2] X.env = (false, eval e X.env) :: starEach [e2] X.env := by rfl) (hs2 : starEach [e2] X.env = (false, eval e2 X.env) :: starEach [] X.env := by rfl)
    (hpl : (backTo pos (starEach [e2] X.env)).any (·.1) = false := by rfl) : PI X (.Tuple elts kk tpos) (.Call (.Name "zip" p) [e, e2] [] pos) (IT T W (iZip f f2)) := (RZ.pi_zipA hg hm (pa_i2 h h2 hs hs2) hs hpl).mono fun σ H Q ⟨c, own, Γ, x, s, r⟩ => ⟨c, own, Γ, x, s, by
  rw [hK]
  cases hf : p2 f f2 Γ x with
  | no => rw [show iZip f f2 Γ x = _ from bnd_no hf] at r; exact r
  | er e x1 => rw [show iZip f f2 Γ x = _ from bnd_er hf] at r; exact r
  | ok d x1 =>
    rw [show iZip f f2 Γ x = _ from bnd_ok hf] at r
    refine fun v v2 H1 g bx q q2 => ?_
    replace r := r.at g
    obtain ⟨d1, d2⟩ := d
    unfold dZip at r
    split at r
    · rename_i a b hd
      cases hd
      obtain ⟨p1, vs1, rfl, h1, h2, h3, h4⟩ := q.lst
      obtain ⟨p2, vs2, rfl, k1, k2, k3, k4⟩ := q2.lst
      exact ⟨p1, p2, vs1, vs2, rfl, .inl ⟨.inl (.inl h1), .inl (.inl k1), r _ H1 Grow.refl bx (irep_zip h1 h2 h3 h4 k1 k2 k3 k4)⟩⟩
    · rename_i a b hd
      cases hd
      obtain ⟨p1, vs1, rfl, h1, h2⟩ := q.tup
      obtain ⟨p2, vs2, rfl, k1, k2⟩ := q2.tup
      exact ⟨p1, p2, vs1, vs2, rfl, .inr ⟨sqT_of h1, sqT_of k1, r _ H1 Grow.refl bx (irep_zipT h1 h2 k1 k2)⟩⟩
    · exact r.elim⟩
end
end DL

namespace DL
open PySem PySem.Spec PyProof.Rows L2
section
variable {X : Cx} {T : Tb} {W : WX} {m : Md} {a b e e2 l tg o : Expr} {es : List Expr} {f f2 fa fb fl fo : EC} {fi : AC} {fs : AC} {pos p apos : Pos} {c : Cf} {own own' : Ow} {Γ : Gm} {x x' : Bx} {σ : L2.St} {H H' : Hp} {Q : VK} {y : Str} {vs : List V} {ds : List D} {g : SC} {tf : TC} {P' : Addr → Prop}
/-! list(a text) -/
def rListU (K : PySem.W.Frag) : RC := fun xs H Q => (∃ p ys, xs = [.ref p] ∧ (SqL K H p ys ∨ SqT K H p ys) ∧ ∀ l, H l = none → Q (.ref l) (upd H l (.lst ys))) ∨ ∃ z : Str, xs = [.str z] ∧ z.cps.size ≤ 100000 ∧ ∀ l, H l = none → Q (.ref l) (upd H l (.lst (z.cps.toList.map fun c => V.str ⟨#[c]⟩)))
theorem call_list_s (hc : X.calm = true) : CallR X (.type "list") (fun xs H Q => ∃ z : Str, xs = [.str z] ∧ z.cps.size ≤ 100000 ∧ ∀ l, H l = none → Q (.ref l) (upd H l (.lst (z.cps.toList.map fun c => V.str ⟨#[c]⟩)))) := by
  intro pins s σ H xs us Q I r h
  obtain ⟨z, rfl, hz, q⟩ := h
  obtain ⟨u, rfl, rx⟩ := vals1 r
  obtain ⟨t, rfl⟩ := rx
  refine call_list_str (I.ok.hd hc) z t (fun h' tk acc' c' kp e hi => ?_) (by rw [sizeLine_eq]; omega)
  have rv : Vals (z.cps.toList.map fun c => V.str ⟨#[c]⟩) acc'.toList := by
    have hlen : acc'.toList.length = z.cps.toList.length := by rw [Array.length_toList, hi.1, Array.length_toList]
    have hat : ∀ (j : Nat) (v : Value), acc'.toList[j]? = some v → ∃ c t, z.cps.toList[j]? = some c ∧ v = .str ⟨#[c]⟩ t := fun j v hj => by
      obtain ⟨c, u, h1, h2⟩ := hi.2 j v (by rw [← Array.getElem?_toList]; exact hj)
      exact ⟨c, u, by rw [Array.getElem?_toList]; exact h1, h2⟩
    generalize z.cps.toList = cs at hlen hat
    generalize acc'.toList = as at hlen hat
    clear hi e kp
    induction cs generalizing as with
    | nil =>
      cases as with
      | nil => exact .nil
      | cons _ _ => cases hlen
    | cons c cs ih =>
      cases as with
      | nil => cases hlen
      | cons a as =>
        obtain ⟨c', t, h1, h2⟩ := hat 0 a rfl
        cases h1
        refine .cons ⟨t, h2⟩ (ih as (Nat.succ.inj hlen) fun j v hj => ?_)
        obtain ⟨c2, t2, h3, h4⟩ := hat (j + 1) v (by simpa using hj)
        exact ⟨c2, t2, by simpa using h3, h4⟩
  refine ⟨.ref s.heap.objs.size, _, I.laid (t' := tk) kp (Nat.le_refl _) (show ObjOk X.prog X.w _ h' _ (.lst _) from ⟨by rw [List.length_map, Array.length_toList, sizeLine_eq]; omega, acc'.toList, c', rv, by simpa using e⟩), rfl, q _ (I.hok.fresh (Nat.le_refl _))⟩
theorem call_listU (hc : X.calm = true) : CallR X (.type "list") (rListU X.K) := CallR.or call_list_of (call_list_s hc)
def dListU : List D → Option D
  | [.lst ds] => some (.lst ds)
  | [.tup ds] => some (.lst ds)
  | [.str z] => if z.cps.size ≤ 100000 then some (.lst (signs z)) else none
  | _ => none
theorem repL_signs {b : Option Addr} {P : Addr → Prop} : ∀ cs : List Nat, RepL T b H P (cs.map fun c => V.str ⟨#[c]⟩) (cs.map fun c => D.str ⟨#[c]⟩)
  | [] => .nil
  | c :: cs => .cons (.str _) (repL_signs cs)
theorem cf_listU : CallF T (rListU T.K) dListU := fun b H P vs ds dz Q hP hv hz k => by
  unfold dListU at hz
  split at hz
  · obtain ⟨v, rfl, h⟩ := paired1 hv
    cases hz
    obtain ⟨p, us, rfl, h1, h2⟩ := h.lst
    exact .inl ⟨p, us, rfl, .inl (.inl (.inl h1)), fun l n => k l _ n (own_new n h2) rfl⟩
  · obtain ⟨v, rfl, h⟩ := paired1 hv
    cases hz
    obtain ⟨p, us, rfl, h1, h2⟩ := h.tup
    exact .inl ⟨p, us, rfl, .inr h1, fun l n => k l _ n (own_new n h2) rfl⟩
  · obtain ⟨v, rfl, h⟩ := paired1 hv
    obtain ⟨h1, h2⟩ := ite_some hz
    subst h2
    cases h.str
    exact .inr ⟨_, rfl, h1, fun l n => k l _ n (own_new n (repL_signs _)) rfl⟩
  · cases hz
/-! a text's methods -/
abbrev RM := V → List V → Hp → VK → Prop
def MtD (T : Tb) (r : RM) (g : Str → D → Option D) : Prop := ∀ (b : Option Addr) (H : Hp) (P : Addr → Prop) (z : Str) (v : V) (d dz : D) (Q : VK), (∀ p, H p = none → P p) → RepQ T b H P v d → g z d = some dz →
  (∀ v' H', Same H H' → Rep T b H' P v' dz → Q v' H') → r (.str z) [v] H Q
def isS : D → Option Str
  | .str z => some z
  | _ => none
def eM1 (g : Str → D → Option D) (fo fe : EC) : EC := fun Γ => bnd (fo Γ) fun d => bnd (opt (isS d)) fun z => bnd (fe Γ) fun y => opt (g z y)
theorem isS_some {d : D} {z : Str} (h : isS d = some z) : d = .str z := by
  cases d with
  | str w => cases h; rfl
  | _ => cases h
theorem m1_read {r : RM} {gg : Str → D → Option D} (hg : MtD T r gg) (h : E T W .fz (eM1 gg fo fb) σ H Q) : tM1 r (E T W .tr fo) (E T W .tr fb) σ H Q := by
  obtain ⟨c, own, Γ, x, s, r0⟩ := h
  refine ⟨c, own, Γ, x, s, (res_bind (m' := .tr) s r0).imp fun v H1 ⟨d, x1, s1, g1, q, r1⟩ => ?_⟩
  cases hz : isS d with
  | none => rw [hz] at r1; exact r1.elim
  | some z =>
    rw [hz] at r1
    have hd := isS_some hz
    subst hd
    cases RepQ.str q
    refine ⟨⟨z, rfl⟩, c, own, Γ, x1, s1, ?_⟩
    have r2 : ERes T W .fz c own σ H1 Q (bnd (fb Γ) (fun y => opt (gg z y)) x1) := r1
    refine (res_bind (m' := .tr) s1 r2).imp fun u H2 ⟨d2, x2, s2, g2, q2, r3⟩ => ?_
    cases hz2 : gg z d2 with
    | none => rw [hz2] at r3; exact r3.elim
    | some dz =>
      rw [hz2] at r3
      exact hg c.b H2 (Pp c own) z u d2 dz Q (fun p n => s2.freshP n) q2 hz2 fun v' H' sm rp => r3 v' H' (Grow.same sm) (s2.bx.same sm) rp
def dJoin (a : Str) : D → Option D
  | .lst ds => (strsD ds).bind fun ys => if (ys.map (·.length)).sum + ys.length * a.length ≤ 16777216 then some (.str (Txt.join a ys)) else none
  | .tup ds => (strsD ds).bind fun ys => if (ys.map (·.length)).sum + ys.length * a.length ≤ 16777216 then some (.str (Txt.join a ys)) else none
  | _ => none
theorem md_join : MtD T (fun x xs H Q => ∃ a p, ∃ ys : List Str, x = .str a ∧ xs = [.ref p] ∧ (SqL T.K H p (ys.map V.str) ∨ SqT T.K H p (ys.map V.str)) ∧
      (ys.map (·.length)).sum + ys.length * a.length ≤ 16777216 ∧ Q (.str (Txt.join a ys)) H) dJoin := fun b H P z v d dz Q hP h hz k => by
  unfold dJoin at hz
  split at hz
  · obtain ⟨p, us, rfl, h1, h2⟩ := h.lst
    rename_i ds
    cases hs : strsD ds with
    | none => rw [hs] at hz; cases hz
    | some ys =>
      rw [hs] at hz
      obtain ⟨h3, h4⟩ := ite_some hz
      subst h4
      cases RepL.strs' h2 hs
      exact ⟨z, p, ys, rfl, rfl, .inl (.inl (.inl h1)), h3, k _ H (Same.refl H) (.str _)⟩
  · obtain ⟨p, us, rfl, h1, h2⟩ := h.tup
    rename_i ds
    cases hs : strsD ds with
    | none => rw [hs] at hz; cases hz
    | some ys =>
      rw [hs] at hz
      obtain ⟨h3, h4⟩ := ite_some hz
      subst h4
      cases RepL.strs' h2 hs
      exact ⟨z, p, ys, rfl, rfl, .inr h1, h3, k _ H (Same.refl H) (.str _)⟩
  · cases hz
theorem pd_join (hK : X.K = T.K) (ho : PE X o (E T W .tr fo)) (he : PE X e (E T W .tr f)) (hs : starEach [e] X.env = [(false, eval e X.env)] := by rfl) (hbase : attributeBase o "join" X.env (eval o X.env) = eval o X.env := by rfl) (hline : (apos.endLine == pos.line) = true := by rfl) :
    PE X (.Call (.Attribute o "join" apos) [e] [] pos) (E T W .fz (eM1 dJoin fo f)) := (pe_join ho he hs hbase hline).mono fun σ H Q h => by
  rw [hK]
  exact m1_read md_join h
end
end DL

namespace DL
open PySem PySem.Spec PyProof.Rows L2
section
variable {X : Cx} {T : Tb} {W : WX} {m : Md} {a b e e2 l tg o : Expr} {es : List Expr} {f f2 fa fb fl fo : EC} {fi : AC} {fs : AC} {pos p apos : Pos} {c : Cf} {own own' : Ow} {Γ : Gm} {x x' : Bx} {σ : L2.St} {H H' : Hp} {Q : VK} {y : Str} {vs : List V} {ds : List D} {g : SC} {tf : TC} {P' : Addr → Prop}
/-! a new list, or another one -/
def emL : D → Option Bool
  | .lst [] => some true
  | .lst (_ :: _) => some false
  | _ => none
def eOrL (fa fb : EC) : EC := fun Γ => bnd (fa Γ) fun d => bnd (opt (emL d)) fun k => if k = true then fb Γ else M.pure d
theorem pf_one {op} (h : PE X a (EF T W f)) : PE X (.BoolOp op [a] pos) (EF T W f) := pe_one h
theorem pf_orL {rest : List Expr} (ha : PE X a (EF T W fa)) (hb : PE X (.BoolOp .Or (b :: rest) pos) (EF T W fb)) : PE X (.BoolOp .Or (a :: b :: rest) pos) (EF T W (eOrL fa fb)) := (pe_orT ha hb).mono fun σ H Q ⟨c, own, Γ, x, s, r⟩ => ⟨c, own, Γ, x, s, by
  cases hf : fa Γ x with
  | no => rw [show eOrL fa fb Γ x = _ from bnd_no hf] at r; exact r
  | er e x2 => rw [show eOrL fa fb Γ x = _ from bnd_er hf] at r; exact r
  | ok d x1 =>
    rw [show eOrL fa fb Γ x = _ from bnd_ok hf] at r
    refine fun p H1 n g bx q hcon => ?_
    have s1 := s.grow g bx
    cases d with
    | lst ds =>
      obtain ⟨vs, h1, h2⟩ := q
      refine ⟨!vs.isEmpty, .inl ⟨vs, .inl (.inl h1), rfl⟩, ?_⟩
      cases ds with
      | nil =>
        have hv : vs = [] := List.eq_nil_of_length_eq_zero (by rw [h2.length]; rfl)
        subst hv
        exact ⟨c, own, Γ, x1, s1, FRes.at g (fun p n => s1.none_back' s g n) r⟩
      | cons d ds =>
        cases h2 with
        | cons h3 h4 => exact r p H1 n g bx ⟨_, h1, .cons h3 h4⟩ hcon
    | _ => exact r.elim⟩
end
end DL

namespace DL
open PySem PySem.Spec PyProof.Rows L2
section
variable {X : Cx} {T : Tb} {W : WX} {m : Md} {a b e e2 l tg o : Expr} {es : List Expr} {f f2 fa fb fl fo fe : EC} {fi : AC} {fs : AC} {pos p apos : Pos} {c : Cf} {own own' : Ow} {Γ : Gm} {x x' : Bx} {σ : L2.St} {H H' : Hp} {Q : VK} {y : Str} {vs : List V} {ds : List D} {g : SC} {tf : TC} {P' : Addr → Prop}
/-! ### the box's own numbers -/
def boxAt (Γ : Gm) (i : Nat) : Bool := match Γ[i]? with
  | some (.sh .box) => true
  | _ => false
theorem boxAt_some {i : Nat} (h : boxAt Γ i = true) : Γ[i]? = some (.sh .box) := by
  unfold boxAt at h
  split at h
  · assumption
  · cases h
def bGet (k : Nat) (x : Bx) : Option Int := match k with
  | 0 => some x.1
  | 1 => some x.2.1
  | 2 => some x.2.2
  | _ => none
def bPut (k : Nat) (v : Int) (x : Bx) : Option Bx := match k with
  | 0 => some (v, x.2.1, x.2.2)
  | 1 => some (x.1, v, x.2.2)
  | 2 => some (x.1, x.2.1, v)
  | _ => none
def eBGet (i k : Nat) : EC := fun Γ x => if boxAt Γ i = true then (match bGet k x with | some v => .ok (.int v) x | none => .no) else .no
theorem Sat.box (s : Sat T c own Γ x σ H) {i : Nat} (h : boxAt Γ i = true) : ∃ q, σ[i]? = some (some (.ref q)) ∧ c.b = some q ∧ H q = some (.lst [.int x.1, .int x.2.1, .int x.2.2]) := by
  obtain ⟨v, e, r⟩ := s.slot i _ (boxAt_some h)
  cases r with
  | box hb => exact ⟨_, e, hb, s.bx _ hb⟩
theorem pd_bget {i : Nat} {k : Nat} {z : Str} {p1 p2 : Pos} {j : Nat} (ho : PE X (.Name z p1) (tVar i)) (hs : PlainIx (.Constant (.int (k : Nat)) j p2) := by exact fun _ _ => rfl) : PE X (.Subscript (.Name z p1) (.Constant (.int (k : Nat)) j p2) pos) (E T W .fz (eBGet i k)) :=
  (pe_ix ix_list ho pe_int hs).mono fun σ H Q ⟨c, own, Γ, x, s, r⟩ => by
    unfold eBGet at r
    by_cases hb : boxAt Γ i = true
    · rw [if_pos hb] at r
      obtain ⟨q, e1, e2, e3⟩ := s.box hb
      match k, r with
      | 0, r => exact ⟨_, e1, q, _, _, _, rfl, rfl, .inl (.inl e3), rfl, r _ H Grow.refl s.bx (.int _)⟩
      | 1, r => exact ⟨_, e1, q, _, _, _, rfl, rfl, .inl (.inl e3), rfl, r _ H Grow.refl s.bx (.int _)⟩
      | 2, r => exact ⟨_, e1, q, _, _, _, rfl, rfl, .inl (.inl e3), rfl, r _ H Grow.refl s.bx (.int _)⟩
      | _ + 3, r => exact r.elim
    · rw [if_neg hb] at r
      exact r.elim
theorem Sat.bput (s : Sat T c own Γ x σ H) {q : Addr} (hb : c.b = some q) (x' : Bx) : Sat T c own Γ x' σ (upd H q (.lst [.int x'.1, .int x'.2.1, .int x'.2.2])) ∧ Fz c.b own H own (upd H q (.lst [.int x'.1, .int x'.2.1, .int x'.2.2])) := by
  have ne : ∀ a u, c.b ≠ some a → H a = some u → upd H q (.lst [.int x'.1, .int x'.2.1, .int x'.2.2]) a = some u := fun a u n e => by
    rw [upd_ne (fun z => n (by rw [z, hb]))]
    exact e
  have hk : ∀ a u, Pp c own a → H a = some u → upd H q (.lst [.int x'.1, .int x'.2.1, .int x'.2.2]) a = some u := fun a u pa e => ne a u pa.2.1 e
  refine ⟨⟨s.l1, s.l2, fun a u h1 h2 => ne a u h1 (s.gr a u h1 h2), fun a ha => ?_, fun a ha => ?_, s.ob, s.bb, fun j p hj => ⟨(s.fresh j p hj).1, ?_⟩, s.nodup, s.me, fun j u hu => ?_⟩, fun a u h1 h2 e => ⟨ne a u h2 e, h1⟩⟩
  · rw [hb] at ha
    cases ha
    exact upd_same
  · by_cases hq : a = q
    · rw [hq, upd_same]; exact fun z => nomatch z
    · rw [upd_ne hq]; exact s.bd a ha
  · by_cases hq : p = q
    · rw [hq, upd_same]; exact fun z => nomatch z
    · rw [upd_ne hq]; exact (s.fresh j p hj).2
  · have h := s.slot j u hu
    cases u with
    | no => trivial
    | sh d => obtain ⟨v, e, r⟩ := h; exact ⟨v, e, r.mono hk fun _ _ p _ => p⟩
    | bo d =>
      obtain ⟨v, e, r⟩ := h
      refine ⟨v, e, ?_⟩
      rcases r with r | ⟨z, e1, e2, e3, e4⟩
      · exact .inl (r.mono hk fun _ _ p _ => p)
      · exact .inr ⟨z, e1, e2, e3, e4.mono hk (fun _ _ p _ => p) fun o e => ne _ _ e2 e⟩
    | ow d =>
      obtain ⟨z, e1, e2, e3⟩ := h
      exact ⟨z, e1, e2, e3.mono hk (fun _ _ p _ => p) fun o e => ne _ _ (s.own_ne e2) e⟩
def sBSet (i k : Nat) (f : EC) : SC := fun Γ x => if boxAt Γ i = true then sE f (fun d Γ x => match d with
  | .int v => (match bPut k v x with | some x' => .nx Γ x' | none => .no)
  | _ => .no) Γ x else .no
theorem ps_dbset {i : Nat} {k : Nat} {z : Str} {p1 p2 : Pos} {j : Nat} (ho : PE X (.Name z p1) (tVar i)) (he : PE X e (E T W .fz fe))
    (ha : ∀ v, assign (.Subscript (.Name z p1) (.Constant (.int (k : Nat)) j p2) p) X.env v = (do
      let ov ← holding [v] (eval (.Name z p1) X.env)
      let iv ← holding [v, ov] (eval (.Constant (.int (k : Nat)) j p2) X.env)
      standAt p
      holding [v, ov, iv] (setItem ov iv v)
      release [v, ov, iv] []) := by intro _; rfl)
    (hs : swapsWithSole [.Subscript (.Name z p1) (.Constant (.int (k : Nat)) j p2) p] e pos.line X.env = pure false := by rfl) (hw : swappedStores [.Subscript (.Name z p1) (.Constant (.int (k : Nat)) j p2) p] e X.env = pure none := by rfl) (h1 : (assignEach [.Subscript (.Name z p1) (.Constant (.int (k : Nat)) j p2) p] X.env).map (·.2) = [assign (.Subscript (.Name z p1) (.Constant (.int (k : Nat)) j p2) p) X.env] := by rfl) :
    PS X (.Assign [.Subscript (.Name z p1) (.Constant (.int (k : Nat)) j p2) p] e pos) (SS T W (sBSet i k fe)) := (ps_asg he (pg_sub ho pe_int set_list ha) hs hw h1).mono fun D σ H ⟨c, own, Γ, x, s, r⟩ => by
  unfold sBSet at r
  by_cases hb : boxAt Γ i = true
  · rw [if_pos hb] at r
    exact ⟨c, own, Γ, x, s, (SRes.bindD (m := .fz) s r).imp fun v H1 ⟨d, x1, s1, g, q, r1⟩ => by
      obtain ⟨qa, e1, e2, e3⟩ := s1.box hb
      cases d with
      | int w =>
        cases q
        match k, r1 with
        | 0, r1 =>
          obtain ⟨s3, fz3⟩ := s1.bput e2 (w, x1.2.1, x1.2.2)
          exact ⟨_, e1, qa, _, _, 0, rfl, rfl, e3, rfl, r1 own _ _ fz3 s3⟩
        | 1, r1 =>
          obtain ⟨s3, fz3⟩ := s1.bput e2 (x1.1, w, x1.2.2)
          exact ⟨_, e1, qa, _, _, 1, rfl, rfl, e3, rfl, r1 own _ _ fz3 s3⟩
        | 2, r1 =>
          obtain ⟨s3, fz3⟩ := s1.bput e2 (x1.1, x1.2.1, w)
          exact ⟨_, e1, qa, _, _, 2, rfl, rfl, e3, rfl, r1 own _ _ fz3 s3⟩
        | _ + 3, r1 => exact r1.elim
      | _ => exact r1.elim⟩
  · rw [if_neg hb] at r
    exact r.elim
end
end DL

namespace DL
open PySem PySem.Spec PyProof.Rows L2
/-! ### a def that returns a new container -/
def FFRes (T : Tb) (c : Cf) (Q : VK) (Ex : XK) : R D → Prop
  | .ok d x => ∀ p H', c.H0 p = none → Grow c.b c.H0 H' → BoxRel c.b x H' → OwnAt T c.b H' (fun a => Pp c [] a ∧ a ≠ p) p d → Q (.ref p) H'
  | .er e x => ∀ cls dd H', Grow c.b c.H0 H' → BoxRel c.b x H' → RepE T c.b H' (Pp c []) cls dd e → Ex cls dd H'
  | .no => False
def spF (T : Tb) (n : Nat) (mf : List Ar → M D) : Sp := fun vs H Q Ex => ∃ c as x, At T c x vs as H ∧ as.length = n ∧ FFRes T c Q Ex (mf as x)
def mFr (L : Nat) (g : SC) (f : EC) (as : List Ar) : M D := fun x => match g (as.map arSl ++ List.replicate (L - as.length) .no) x with
  | .nx Γ x => f Γ x
  | .er e _ x => .er e x
  | _ => .no
section
variable {P : Program} {w : World} {K : PySem.W.Frag} {mg : Str → Option Value} {base : Heap} {T : Tb}
theorem _root_.L2.Fun.okF {x qual : Str} {st : Stmt} {f : Addr} {fd : FuncData} {N ps : List Str} {k : Nat} {g : SC} {fr : EC} (F : Fun K x qual st f fd) (S : FnScope N ps (defScope st))
    (hbody : ∀ (cdv : Value) (A : Around) (outer : List Env) (s : Shared) (H : Hp) (E : XK), Room k (A.deeper (envOfC qual (defScope st) s.heap.objs.size f cdv)) →
      PSs (cxOf (L2.CX P w) P w K mg base N qual (defScope st) f cdv A outer s H E) (defBody st) (tSeq (SS T (fun cls d _ H => E cls d H) g) (tRet (EF T (fun cls d _ H => E cls d H) fr)))) : FnOk P w K mg base (L2.CX P w) (k + 1) f fd ps (spF T ps.length (mFr N.length g fr)) := by
  have hps : ps.length ≤ N.length := by
    have h := S.pre
    have h2 : (N.take ps.length).length = ps.length := by rw [h]
    rw [List.length_take] at h2
    omega
  refine F.okX S (fun vs H Q E h => ?_) (fun cdv A outer s H vs Q E hr h => ?_)
  · obtain ⟨c, as, x, A, hl, _⟩ := h
    rw [← hl]
    exact A.ar.length
  · refine ⟨_, hbody cdv A outer s H E hr, ?_⟩
    obtain ⟨c, as, x, A, hl, r⟩ := h
    have hv : vs.length = as.length := A.ar.length
    refine ⟨c, _, _, x, A.sat N (by omega), ?_⟩
    unfold mFr at r
    cases hz : g (as.map arSl ++ List.replicate (N.length - as.length) .no) x with
    | nx Γ' x1 =>
      rw [hz] at r
      refine fun own' σ' H' fz s' => ⟨c, own', Γ', x1, s', ?_⟩
      dsimp only at r
      cases hf : fr Γ' x1 with
      | ok d x2 =>
        rw [hf] at r
        exact fun p H2 n g2 bx2 q hc => r p H2 (Grow.none s'.gr (fun e => by rw [s'.bx p e] at n; cases n) n) (s'.gr.trans g2) bx2 (q.mono (fun _ _ _ e => e) (fun a o pa _ => ⟨pa.1.nil, pa.2⟩) fun _ e => e)
      | er d x2 =>
        rw [hf] at r
        exact fun cls dd H2 g2 bx2 q => r cls dd H2 (s'.gr.trans g2) bx2 (q.mono (fun _ _ _ e => e) fun _ _ p _ => p.nil)
      | no => rw [hf] at r; exact r
    | rt d x1 => rw [hz] at r; exact r.elim
    | bk Γ' x1 => rw [hz] at r; exact r.elim
    | ct Γ' x1 => rw [hz] at r; exact r.elim
    | er d Γ' x1 => rw [hz] at r; exact fun cls dd own' σ' H' fz s' q => r cls dd H' s'.gr s'.bx (q.mono (fun _ _ _ e => e) fun _ _ p _ => p.nil)
    | no => rw [hz] at r; exact r.elim
end
section
variable {X : Cx} {T : Tb} {W : WX} {m : Md} {a b e e2 l tg o : Expr} {es : List Expr} {f f2 fa fb fl fo fe : EC} {fi : AC} {fs : Gm → M (List Ar)} {pos p apos : Pos} {c : Cf} {own own' : Ow} {Γ : Gm} {x x' : Bx} {σ : L2.St} {H H' : Hp} {Q : VK} {y : Str} {vs : List V} {as : List Ar} {ds : List D} {g : SC} {tf : TC} {P' : Addr → Prop}
/-- what stands at a call -/
theorem at_of (s : Sat T c own Γ x σ H) (ar : Paired (RepA T c.b H (Pp c own)) vs as) : At T ⟨c.b, fun a => c.B a ∨ some a ∈ own, H, none⟩ x vs as H := by
  have k1 : ∀ a, Pp c own a → Pp ⟨c.b, fun a => c.B a ∨ some a ∈ own, H, none⟩ [] a := fun a pa => ⟨fun h => h.elim pa.1 pa.2.2, pa.2.1, fun z => nomatch z⟩
  refine ⟨rfl, rfl, fun a h => ?_, fun a h => ?_, s.bx, L2.Paired.mapP ar fun v d q => ?_⟩
  · rcases h with h | h
    · exact s.bd a h
    · obtain ⟨i, hi⟩ := List.getElem?_of_mem h
      exact (s.fresh i a hi).2
  · rw [s.bx a h]; exact fun z => nomatch z
  · cases d with
    | sh d => exact Rep.mono (fun _ _ _ e => e) (fun a _ p _ => k1 a p) q
    | bo d =>
      have q' : RepQ T c.b H (Pp c own) v d := q
      rcases q' with q | ⟨z, e1, e2, e3⟩
      · exact Or.inl (Rep.mono (fun _ _ _ e => e) (fun a _ p _ => k1 a p) q)
      · exact Or.inr ⟨z, e1, e2, e3.mono (fun _ _ _ e => e) (fun a _ p _ => k1 a p) fun _ e => e⟩
/-- f(box(..)): f, at a new box of its own -/
def boxed (mr : List Ar → M D) : D → M D := fun d x => match d with
  | .lst [.int i, .int j, .int k] => (match mr [.sh .box] (i, j, k) with
    | .ok (.bl r) _ => .ok (.bl r) x
    | _ => .no)
  | _ => .no
def eBoxed (mr mb : List Ar → M D) (fs : Gm → M (List Ar)) : EC := fun Γ => bnd (fs Γ) fun as => bnd (noEr (mb as)) (boxed mr)
theorem pd_boxed {k k2 n : Nat} {fA fB : Addr} {fd fd2 : FuncData} {ps ps2 : List Str} {mr mb : List Ar → M D} {z : Str} {p1 p2 : Pos} (F : FnOk X.prog X.w X.K X.mg X.base (L2.CX X.prog X.w) k fA fd ps (spD T 1 mr)) (hr : Room k X.A) (hg : Gl X y) (hm : X.mg y = some (.ref fA))
    (hk : PySem.W.keepIn X.K (.ref fA) = true) (hb : Binds X.K fd ps []) (F2 : FnOk X.prog X.w X.K X.mg X.base (L2.CX X.prog X.w) k2 fB fd2 ps2 (spF T n mb)) (hr2 : Room k2 X.A) (hg2 : Gl X z) (hm2 : X.mg z = some (.ref fB))
    (hk2 : PySem.W.keepIn X.K (.ref fB) = true) (hb2 : Binds X.K fd2 ps2 []) (tk : Takes X W) (ha : PA X (e :: es) (EA T W fs)) (hdb : (y == ("__debug__" : Str)) = false := by decide) (hdb2 : (z == ("__debug__" : Str)) = false := by decide)
    (he : starEach (e :: es) X.env = (false, eval e X.env) :: starEach es X.env := by rfl) (hpl : (backTo p2 (starEach es X.env)).any (·.1) = false := by rfl)
    (he2 : starEach [.Call (.Name z p1) (e :: es) [] p2] X.env = (false, eval (.Call (.Name z p1) (e :: es) [] p2) X.env) :: starEach [] X.env := by rfl) (hpl2 : (backTo pos (starEach [] X.env)).any (·.1) = false := by rfl) :
    PE X (.Call (.Name y p) [.Call (.Name z p1) (e :: es) [] p2] [] pos) (E T W .fz (eBoxed mr (lenOk n mb) fs)) :=
  (pe_callSD F hr hg hm hk hb .nil (fun σ => passAt tk σ) (pa_cons (pe_callSD F2 hr2 hg2 hm2 hk2 hb2 .nil (fun σ => passAt tk σ) ha hdb2 he hpl) pa_nil he2) hdb he2 hpl2).mono fun σ H Q ⟨c, own, Γ, x, s, r⟩ =>
  ⟨c, own, Γ, x, s, by
    cases hf : fs Γ x with
    | no => rw [show eBoxed mr (lenOk n mb) fs Γ x = _ from bnd_no hf] at r; exact r
    | er e x2 => rw [show eBoxed mr (lenOk n mb) fs Γ x = _ from bnd_er hf] at r; exact r
    | ok as x1 =>
      rw [show eBoxed mr (lenOk n mb) fs Γ x = _ from bnd_ok hf] at r
      refine fun vs H1 g bx q => ?_
      replace r := r.at g
      have s1 := s.grow g bx
      have r' : ERes T W .fz c own σ H1 Q (bnd (noEr (lenOk n mb as)) (boxed mr) x1) := r
      by_cases hln : as.length = n
      · rw [show lenOk n mb as = mb as from if_pos hln] at r'
        refine ⟨_, as, x1, at_of s1 (by rw [List.append_nil]; exact q), hln, ?_⟩
        unfold bnd noEr at r'
        cases hb : mb as x1 with
        | no => rw [hb] at r'; exact r'.elim
        | er e x2 => rw [hb] at r'; exact r'.elim
        | ok d x2 =>
          rw [hb] at r'
          dsimp only at r'
          unfold boxed at r'
          split at r'
          · rename_i i j kk
            intro pq H2 n g2 bx2 own2
            have nb : c.b ≠ some pq := fun z => by
              have n' : H1 pq = none := n
              rw [s1.bx pq z] at n'
              cases n'
            obtain ⟨us, h1, h2⟩ := own2
            have hus : us = [.int i, .int j, .int kk] := by
              cases h2 with
              | cons a1 a2 =>
                cases a1
                cases a2 with
                | cons a1 a2 =>
                  cases a1
                  cases a2 with
                  | cons a1 a2 =>
                    cases a1
                    cases a2
                    rfl
            subst hus
            refine ⟨⟨some pq, fun _ => False, H2, none⟩, [.sh .box], (i, j, kk), ⟨rfl, rfl, fun a h => h.elim, fun a h => ?_, fun a h => ?_, .cons (Rep.box rfl) .nil⟩, rfl, ?_⟩
            · cases h
              rw [h1]
              exact fun z => nomatch z
            · cases h
              exact h1
            · split at r'
              · rename_i rr xx hh
                rw [hh]
                intro v H3 g3 bx3 q3
                have q3' : Rep T (some pq) H3 _ v (.bl rr) := q3
                cases q3'
                refine r' _ H3 (fun a o na ea => ?_) (fun a ea => ?_) (.bl rr)
                · have e2 := g2 a o na ea
                  exact g3 a o (fun z => by
                    cases z
                    have n' : H1 pq = none := n
                    rw [n'] at ea
                    cases ea) e2
                · have e2 := bx2 a ea
                  exact g3 a _ (fun z => by
                    cases z
                    exact nb ea) e2
              · exact r'.elim
          · exact r'.elim
      · rw [show lenOk n mb as = M.no from if_neg hln] at r'
        exact r'.elim⟩
end
end DL

namespace DL
open PySem PySem.Spec PyProof.Rows L2
/-! ### ==, texts by themselves -/
def dEqU (f : Bool → Bool) (x y : D) : Option D := match x, y with
  | .str a, .str b => some (.bl (f (decide (a = b))))
  | x, y => dEqB f x y
def rEqU (K : PySem.W.Frag) : R2 := fun x y H Q => rEq x y H Q ∨ rEqD K x y H Q
def rNeU (K : PySem.W.Frag) : R2 := fun x y H Q => rNe x y H Q ∨ rNeD K x y H Q
theorem op_eqU {X : Cx} (hu : X.A.units + 64 < cLine) : OpR X (compareOp .Eq) (rEqU X.K) := op_eq.or (op_eqD hu)
theorem op_neU {X : Cx} (hu : X.A.units + 64 < cLine) : OpR X (compareOp .NotEq) (rNeU X.K) := op_ne.or (op_neD hu)
theorem str_dec (a b : Str) : decide (V.str a = V.str b) = decide (a = b) := by
  by_cases h : a = b
  · rw [h, decide_eq_true rfl, decide_eq_true rfl]
  · rw [decide_eq_false h, decide_eq_false fun z => h (by cases z; rfl)]
theorem opd_eqU {T : Tb} : OpD T (rEqU T.K) (dEqU id) := fun b H P x y dx dy dz Q hP hx hy hz k => by
  unfold dEqU at hz
  split at hz
  · cases hz
    rw [hx.str, hy.str]
    exact .inl ⟨rfl, by rw [str_dec]; exact k _ H (Same.refl H) (.bl _)⟩
  · exact .inr (opd_eq b H P x y dx dy dz Q hP hx hy hz k)
theorem opd_neU {T : Tb} : OpD T (rNeU T.K) (dEqU not) := fun b H P x y dx dy dz Q hP hx hy hz k => by
  unfold dEqU at hz
  split at hz
  · cases hz
    rw [hx.str, hy.str]
    exact .inl ⟨rfl, by rw [str_dec]; exact k _ H (Same.refl H) (.bl _)⟩
  · exact .inr (opd_ne b H P x y dx dy dz Q hP hx hy hz k)
/-! ### the code over trees, run -/
section
variable {Γ Γ1 : Gm} {x x1 x2 x3 : Bx} {f fa fb fo : EC} {fs gs : Gm → M (List Ar)} {ls : AC} {a b d e : D} {ds : List D} {as : List Ar} {mf : List Ar → M D} {n i : Nat} {t : TC} {g h : SC} {r : SR}
theorem ev_e2 {gg : D → D → Option D} (ha : fa Γ x = .ok a x1) (hb : fb Γ x1 = .ok b x2) (hg : gg a b = some d) : e2 gg fa fb Γ x = .ok d x2 := by
  show bnd (fa Γ) _ x = _
  rw [bnd_ok ha, bnd_ok hb, hg]
  rfl
theorem ev_e1 {gg : D → Option D} (ha : fa Γ x = .ok a x1) (hg : gg a = some d) : e1 gg fa Γ x = .ok d x1 := by
  show bnd (fa Γ) _ x = _
  rw [bnd_ok ha, hg]
  rfl
theorem ev_l0 : lNil Γ x = .ok [] x := rfl
theorem ev_lc (ha : f Γ x = .ok d x1) (hl : ls Γ x1 = .ok ds x2) : lCons f ls Γ x = .ok (d :: ds) x2 := by
  show bnd (f Γ) _ x = _
  rw [bnd_ok ha, bnd_ok hl]
  rfl
theorem ev_B {gg : List D → Option D} (hl : ls Γ x = .ok ds x1) (hg : gg ds = some d) : eB gg ls Γ x = .ok d x1 := by
  show bnd (ls Γ) _ x = _
  rw [bnd_ok hl, hg]
  rfl
theorem ev_lst (hl : ls Γ x = .ok ds x1) : eLst ls Γ x = .ok (.lst ds) x1 := by
  show bnd (ls Γ) _ x = _
  rw [bnd_ok hl]
  rfl
theorem ev_tup (hl : ls Γ x = .ok ds x1) : eTup ls Γ x = .ok (.tup ds) x1 := by
  show bnd (ls Γ) _ x = _
  rw [bnd_ok hl]
  rfl
theorem ev_a0 : aNil Γ x = .ok [] x := rfl
theorem ev_ash (ha : f Γ x = .ok d x1) (hl : fs Γ x1 = .ok as x2) : aSh f fs Γ x = .ok (.sh d :: as) x2 := by
  show bnd (f Γ) _ x = _
  rw [bnd_ok ha, bnd_ok hl]
  rfl
theorem ev_avar {u : Ar} (ha : (Γ[i]?).bind slAr = some u) (hl : fs Γ x = .ok as x1) : aVar i fs Γ x = .ok (u :: as) x1 := by
  show bnd (opt ((Γ[i]?).bind slAr)) _ x = _
  rw [ha, show bnd (opt (some u)) (fun d => bnd (fs Γ) fun ds => M.pure (d :: ds)) x = bnd (fs Γ) (fun ds => M.pure (u :: ds)) x from rfl, bnd_ok hl]
  rfl
theorem ev_call (hl : fs Γ x = .ok as x1) (hn : as.length = n) (hm : mf as x1 = .ok d x2) : eCall (lenOk n mf) [] fs Γ x = .ok d x2 := by
  show bnd (fs Γ) _ x = _
  rw [bnd_ok hl, List.append_nil, show lenOk n mf as = mf as from if_pos hn]
  exact hm
theorem ev_m1 {gg : Str → D → Option D} {z : Str} (ho : fo Γ x = .ok (.str z) x1) (hf : f Γ x1 = .ok a x2) (hg : gg z a = some d) : eM1 gg fo f Γ x = .ok d x2 := by
  show bnd (fo Γ) _ x = _
  rw [bnd_ok ho, show bnd (opt (isS (.str z))) (fun z => bnd (f Γ) fun y => opt (gg z y)) x1 = bnd (f Γ) (fun y => opt (gg z y)) x1 from rfl, bnd_ok hf, hg]
  rfl
theorem ev_sl {hh : Option Int → Option Int → D → Option D} {lo hi : Gm → M (Option Int)} {p q : Option Int} (ha : f Γ x = .ok a x1) (h1 : lo Γ x1 = .ok p x2) (h2 : hi Γ x2 = .ok q x3) (hg : hh p q a = some d) : eSl hh f lo hi Γ x = .ok d x3 := by
  show bnd (f Γ) _ x = _
  rw [bnd_ok ha, bnd_ok h1, bnd_ok h2, hg]
  rfl
theorem ev_oyes {k : Int} (ha : f Γ x = .ok (.int k) x1) : oYes f Γ x = .ok (some k) x1 := by
  show bnd (f Γ) _ x = _
  rw [bnd_ok ha]
  rfl
theorem ev_tof {k : Bool} (ha : f Γ x = .ok (.bl k) x1) : tOf f Γ x = .ok k x1 := by
  show bnd (f Γ) _ x = _
  rw [bnd_ok ha]
  rfl
theorem ev_tnot {k : Bool} (ha : t Γ x = .ok k x1) : tNotC t Γ x = .ok (!k) x1 := by
  show bnd (t Γ) _ x = _
  rw [bnd_ok ha]
  rfl
theorem ev_if {k : Bool} (ht : t Γ x = .ok k x1) {r : R D} (h : (if k = true then fa Γ else fb Γ) x1 = r) : eIf t fa fb Γ x = r := by
  show bnd (t Γ) _ x = _
  rw [bnd_ok ht]
  exact h
theorem mul_is {i j : Int} (h : CMul i j ∨ CMulW i j) : dMul (.int i) (.int j) = some (.int (i * j)) := if_pos h
theorem mul_l {i j : Int} (h : -(2 ^ 64) < i ∧ i < 2 ^ 64) : dMul (.int i) (.int j) = some (.int (i * j)) := if_pos (.inl (.inl h))
theorem mul_r {i j : Int} (h : -(2 ^ 64) < j ∧ j < 2 ^ 64) : dMul (.int i) (.int j) = some (.int (i * j)) := if_pos (.inl (.inr h))
theorem mod_is {i j : Int} (h : 0 < j) : dMod (.int i) (.int j) = some (.int (i % j)) := if_pos h
theorem div_is {i j : Int} (h : CDivW i j) : dFdiv (.int i) (.int j) = some (.int (i / j)) := if_pos h
/-! statements -/
theorem sq_nx (h1 : g Γ x = .nx Γ1 x1) (h2 : h Γ1 x1 = r) : sSeq g h Γ x = r := by
  unfold sSeq
  rw [h1]
  exact h2
theorem sq_rt (h1 : g Γ x = .rt d x1) : sSeq g h Γ x = .rt d x1 := by
  unfold sSeq
  rw [h1]
theorem st_asg (h : f Γ x = .ok d x1) : sAsg i f Γ x = .nx (Γ.set i (.sh d)) x1 := by
  unfold sAsg sE
  rw [h]
theorem st_own (h : f Γ x = .ok d x1) : sOwn i f Γ x = .nx (Γ.set i (.ow d)) x1 := by
  unfold sOwn sE
  rw [h]
theorem st_ret (h : f Γ x = .ok d x1) : sRet f Γ x = .rt d x1 := by
  unfold sRet sE
  rw [h]
theorem st_asgG {tg : GC} (h : f Γ x = .ok d x1) (h2 : tg d Γ = some Γ1) : sAsgG tg f Γ x = .nx Γ1 x1 := by
  unfold sAsgG sE
  rw [h]
  dsimp only
  rw [h2]
theorem st_if {k : Bool} (ht : t Γ x = .ok k x1) (hk : (if k = true then g else h) Γ x1 = r) : sIf t g h Γ x = r := by
  unfold sIf sT
  rw [ht]
  exact hk
theorem st_ift (ht : t Γ x = .ok true x1) (hk : g Γ x1 = r) : sIf t g h Γ x = r := st_if ht (by rw [if_pos rfl]; exact hk)
theorem st_iff (ht : t Γ x = .ok false x1) (hk : h Γ x1 = r) : sIf t g h Γ x = r := st_if ht (by rw [if_neg Bool.false_ne_true]; exact hk)
theorem st_for {fi : AC} {tg : GC} (hf : fi Γ x = .ok ds x1) (h : forGo tg g ds Γ x1 = r) : sFor fi tg g Γ x = r := by
  unfold sFor
  rw [hf]
  exact h
theorem ev_range {k : Int} (hl : ls Γ x = .ok [.int k] x1) (hk : rng1 [.int k] = some ds) : iRange1 ls Γ x = .ok ds x1 := by
  show bnd (ls Γ) _ x = _
  rw [bnd_ok hl, hk]
  rfl
theorem ev_seq (hf : f Γ x = .ok d x1) (hk : items d = some ds) : iSeq f Γ x = .ok ds x1 := by
  show bnd (f Γ) _ x = _
  rw [bnd_ok hf, hk]
  rfl
theorem ev_app {xs : List D} (ho : ownL Γ i = some xs) (hf : f Γ x = .ok d x1) (hl : xs.length < 100000) : sApp i f Γ x = .nx (Γ.set i (.ow (.lst (xs ++ [d])))) x1 := by
  unfold sApp sE
  rw [ho]
  dsimp only
  rw [hf]
  dsimp only
  first
    | rw [if_pos hl]
    | rfl
theorem st_bset {k : Nat} {v : Int} (hb : boxAt Γ i = true) (hf : f Γ x = .ok (.int v) x1) (hp : bPut k v x1 = some x2) : sBSet i k f Γ x = .nx Γ x2 := by
  unfold sBSet sE
  rw [if_pos hb, hf]
  dsimp only
  rw [hp]
theorem rng1_is {k : Int} (h : -(2 ^ 62) ≤ k ∧ k < 2 ^ 62) : rng1 [.int k] = some (rangeD 0 k) := by
  unfold rng1
  dsimp only
  rw [if_pos h]
theorem ev_par0 : parE [] Γ x = .ok ([], Γ) x := rfl
theorem ev_parc {k : Bool} {cs : List (Nat × Bool × EC)} {q : List (Nat × Sl) × Gm} (hi : i < Γ.length) (hf : f Γ x = .ok d x1) (hr : parE cs (Γ.set i .no) x1 = .ok q x2) : parE ((i, k, f) :: cs) Γ x = .ok ((i, slOf k d) :: q.1, q.2) x2 := by
  unfold parE
  rw [if_pos hi, bnd_ok hf, bnd_ok hr]
  rfl
theorem st_par {cs : List (Nat × Bool × EC)} {q : List (Nat × Sl) × Gm} (h : parE cs Γ x = .ok q x1) : sPar cs Γ x = .nx (putAll q.2 q.1) x1 := by
  unfold sPar
  rw [h]
theorem m_rt {L : Nat} (h : g (as.map arSl ++ List.replicate (L - as.length) .no) x = .rt d x1) : mOf L g as x = .ok d x1 := by
  unfold mOf
  rw [h]
end
end DL

namespace DL
open PySem PySem.Spec PyProof.Rows L2
open PySem.W (findIn typeIn keepIn subIn specialIn takesIn mroIn hasDictIn kitOne kitAny Frag)
/-! ### what is asked of the written part, as one reckoning each -/
/-- an own exception class at C, its __init__ at fI, none of the names flds in the class -/
def xcB (K : Frag) (C fI : Addr) (flds : List Str) : Bool :=
  decide (findIn K (.ref C) "__setattr__" = some (some (.builtin "object.__setattr__"))) && (decide (findIn K (.ref C) "__init__" = some (some (.ref fI))) && (decide (typeIn K (.ref fI) = some (.type "function")) && (keepIn K (.ref C) &&
    (decide (typeIn K (.ref C) = some (.type "type")) && (xfB K C && (decide (findIn K (.ref C) "__class__" = some (some (.builtin "object.__class__"))) && (decide (specialIn K (.builtin "object.__class__") "__get__" = some (some (.builtin "getset_descriptor.__get__"))) &&
      (decide (takesIn K (.builtin "object.__class__") = some true) && (decide (mroIn K C (.type "object") = some true) && flds.all fun f => decide (findIn K (.ref C) f = some none))))))))))
structure XcF (K : Frag) (C fI : Addr) (flds : List Str) : Prop where
  sa : findIn K (.ref C) "__setattr__" = some (some (.builtin "object.__setattr__"))
  ini : findIn K (.ref C) "__init__" = some (some (.ref fI))
  tyf : typeIn K (.ref fI) = some (.type "function")
  kp : keepIn K (.ref C) = true
  ty : typeIn K (.ref C) = some (.type "type")
  xf : XfC K C
  ex : ExcC K C
  no : ∀ f ∈ flds, findIn K (.ref C) f = some none
theorem xcB_ok {K : Frag} {C fI : Addr} {flds : List Str} (h : xcB K C fI flds = true) : XcF K C fI flds := by
  obtain ⟨h1, h⟩ := Bool.and_eq_true_iff.mp h
  obtain ⟨h2, h⟩ := Bool.and_eq_true_iff.mp h
  obtain ⟨h3, h⟩ := Bool.and_eq_true_iff.mp h
  obtain ⟨h4, h⟩ := Bool.and_eq_true_iff.mp h
  obtain ⟨h5, h⟩ := Bool.and_eq_true_iff.mp h
  obtain ⟨h6, h⟩ := Bool.and_eq_true_iff.mp h
  obtain ⟨h7, h⟩ := Bool.and_eq_true_iff.mp h
  obtain ⟨h8, h⟩ := Bool.and_eq_true_iff.mp h
  obtain ⟨h9, h⟩ := Bool.and_eq_true_iff.mp h
  obtain ⟨h10, h⟩ := Bool.and_eq_true_iff.mp h
  have x := xfB_ok h6
  exact ⟨of_decide_eq_true h1, of_decide_eq_true h2, of_decide_eq_true h3, h4, of_decide_eq_true h5, x, ⟨x.ga, x.gg, x.exC, x.hdC, of_decide_eq_true h7, of_decide_eq_true h8, of_decide_eq_true h9, of_decide_eq_true h10⟩, fun f hf => of_decide_eq_true (List.all_eq_true.mp h f hf)⟩
def isiB (T : Tb) (u : Value) (L : List (CT × Bool)) : Bool := L.all fun p => match ctV T p.1 with
  | some tv => decide (kitOne T.K tv u = some p.2)
  | none => true
def itB (T : Tb) (us : List Value) (L : List (CT × Bool)) : Bool := L.all fun p => match ctV T p.1 with
  | some tv => decide (kitAny T.K tv us = some p.2)
  | none => true
theorem lookup_mem {α β : Type} [BEq α] [LawfulBEq α] : ∀ {L : List (α × β)} {t : α} {k : β}, L.lookup t = some k → (t, k) ∈ L
  | [], t, k, h => by cases h
  | (a, b) :: L, t, k, h => by
    rw [List.lookup_cons] at h
    by_cases e : t = a
    · subst e
      rw [beq_self_eq_true] at h
      cases h
      exact List.mem_cons_self
    · rw [beq_false_of_ne e] at h
      exact List.mem_cons_of_mem _ (lookup_mem h)
theorem isiB_ok {T : Tb} {u : Value} {L : List (CT × Bool)} (h : isiB T u L = true) (how : ∀ c k C, L.lookup (.ow c) = some k → T.cls c = some C → OwnI T.K C) (hx : ∀ c C, T.cls c = some C → ExcC T.K C ∨ ∀ k, L.lookup (.xc c) ≠ some k) : IsiOk T u L :=
  ⟨fun t k e tv ev => by
    have := List.all_eq_true.mp h _ (lookup_mem e)
    dsimp only at this
    rw [ev] at this
    exact of_decide_eq_true this, how, fun c k C e eC => by
    rcases hx c C eC with h | h
    · exact h
    · exact absurd e (h k)⟩
theorem itB_ok {T : Tb} {us : List Value} {L : List (CT × Bool)} (h : itB T us L = true) (how : ∀ c k C, L.lookup (.ow c) = some k → T.cls c = some C → OwnI T.K C) (hx : ∀ c k, L.lookup (.xc c) ≠ some k) : IsiTk T us L :=
  ⟨fun t k e tv ev => by
    have := List.all_eq_true.mp h _ (lookup_mem e)
    dsimp only at this
    rw [ev] at this
    exact of_decide_eq_true this, how, hx⟩
/-! ### the law's own head -/
def spTop (K : Frag) : Sp := fun vs H Q _ => ∃ (a : Addr) (ns : List Int), vs = [.ref a] ∧ SqL K H a (ns.map V.int) ∧ ns.length ≤ 63 ∧ ∀ H', Q (.bl true) H'
theorem top_sp {T : Tb} {mf : List Ar → M D} (h : ∀ ns : List Int, ns.length ≤ 63 → ∃ x', mf [.sh (.scr ns)] (0, 0, 0) = .ok (.bl true) x') : ∀ vs H Q E, spTop T.K vs H Q E → spD T 1 mf vs H Q E := fun vs H Q E ⟨a, ns, e, hs, hl, q⟩ => by
  subst e
  obtain ⟨x', hx⟩ := h ns hl
  refine ⟨⟨none, fun _ => False, H, none⟩, [.sh (.scr ns)], (0, 0, 0), ⟨rfl, rfl, fun a h => h.elim, (fun a h => by cases h), (fun a h => by cases h), .cons ?_ .nil⟩, rfl, ?_⟩
  · rcases hs with hs | hs
    · exact Rep.scr ⟨fun z => z, (fun z => by cases z), (fun z => by cases z)⟩ hs
    · exact Rep.scrK hs
  · rw [hx]
    intro v H' _ _ r
    have r' : Rep T none H' _ v (.bl true) := r
    cases r'
    exact q H'
end DL

namespace DL
open PySem PySem.Spec PyProof.Rows L2
/-! ### an exception that is caught and kept -/
section
variable {X : Cx} {pins : List (Addr × Obj)} {σ : L2.St} {H : Hp} {s : Shared} {a : Addr}
theorem Inv.track {o : HO} (I : Inv X pins σ H s) (hn : H a = none) (h0 : X.s_0.heap.get? a = none) (nL : a ≠ X.env.locals) (nC : ∀ x c, X.env.cells.lookup x = some c → c ≠ a) (nP : ∀ p ∈ X.pn ++ pins, p.1 ≠ a) (new : ObjOk X.prog X.w (upd H a o) s.heap a o) : Inv X pins σ (upd H a o) s :=
  ⟨I.ok, I.os, I.bare, {
      keep := I.base.keep
      slot := I.base.slot
      free := fun b u q n hx => by
        rw [upd_ne (fun z => by rw [z, h0] at q; cases q)]
        exact I.base.free b u q n hx
      there := I.base.there
      tups := fun b xs q => by
        have e := I.base.tups b xs q
        rw [upd_ne (ne_of_none e hn)]
        exact e
      frzs := fun b u v q => by
        have e := I.base.frzs b u v q
        rw [upd_ne (ne_of_none e hn)]
        exact e
      tbls := fun b ps q => by
        obtain ⟨more, e⟩ := I.base.tbls b ps q
        exact ⟨more, by rw [upd_ne (ne_of_none e hn)]; exact e⟩ }, I.loc, I.cell, by rw [upd_ne (Ne.symm nL)]; exact I.free, fun x c e => by rw [upd_ne (nC x c e)]; exact I.freeC x c e, fun p hp => by
      obtain ⟨p1, p2, p3⟩ := I.pin p hp
      exact ⟨p1, by rw [upd_ne (nP p hp)]; exact p2, p3⟩, I.hok.laidN (fun _ _ e => e) hn new, I.len⟩
end
/-- what «except x as n: v = n» makes of an exception of the body: slot i is n's, slot j is v's -/
def wAsV (K : PySem.W.Frag) (ex : Value → Option Bool) (i j : Nat) (Wout : WX) (De : Ends) : WX := fun cls d σ H =>
  ∃ b, ex cls = some b ∧ (b = true → ∀ a, H a = none → De.nx (((σ.set i (some (.ref a))).set j (some (.ref a))).set i none) (upd H a (exV cls d a))) ∧ (b = false → Wout cls d σ H)
section
variable {X : Cx} {x n v : Str} {c : Value} {i j : Nat} {body : List Stmt} {np pos pos' p1 p2 p3 : Pos} {tb : WX → TS} {Wout : WX}
theorem ps_try_asV (hs : X.stack = X.env :: X.outer) (hf : X.env.frame = some X.env.locals) (hex : X.ex = []) (hN : X.N.Nodup) (hi : X.N[i]? = some n) (hln : X.env.kindOf n = some .local) (hj : X.N[j]? = some v) (hlv : Loc X.env.scope v) (hfv : X.fn v = true ∨ X.env.scope.names.lookup v = some .local) (hc : Names X x c) (tk : Takes X Wout)
    (hb : ∀ (W : WX) (pn : List (Addr × Obj)) (xe : Value → Shared → Prop), Takes (X.tr pn xe) W → PassesOwn (model X.prog X.w) X.A X.env xe → PSs (X.tr pn xe) body (tb W))
    (hsu : ∀ (a : Addr) (oe : Obj) (pn : List (Addr × Obj)), PSs (X.suite a ((a, oe) :: pn)) [.Assign [.Name v p1] (.Name n p2) p3] (tAsg (tVar i) (gName j))) :
    PS X (.Try body [.ExceptHandler (some (.Name x np)) (some n) [.Assign [.Name v p1] (.Name n p2) p3] pos'] [] [] pos) (fun De σ H => tb (wAsV X.K (fun cls => PySem.W.exmOne X.K cls c) i j Wout De) De σ H) := by
  refine ⟨fun pins s σ H De I h => ?_⟩
  have ok := I.ok
  have hfr : X.A.frames = some (X.env :: X.outer) := by rw [ok.frames, hs]
  have hloc : Loc X.env.scope n := .inl hln
  refine wpAny_Try_except ?_
  refine wpAny_mono ((hb (wAsV X.K (fun cls => PySem.W.exmOne X.K cls c) i j Wout De) (X.pn ++ pins) (fun e s₁ => wpAny (model X.prog X.w) X.A (noteFrame e X.env) (fun _ s₂ => wpAny (model X.prog X.w) X.A (setFlight e none) (fun _ s₃ =>
    wpAny (model X.prog X.w) X.A (handleBy e X.env [.ExceptHandler (some (.Name x np)) (some n) [.Assign [.Name v p1] (.Name n p2) p3] pos']) (SP X pins De) X.xe s₃) X.xe s₂) X.xe s₁) (fun u s' xx => ?_) PassesOwn.looking).run [] s σ H De (I.toTry _) h) (fun f s1 hsp => ?_) (fun e s1 he => he)
  · obtain ⟨a, B, sI, pins', σ', H', cls, d, rfl, J', nb, up, sky, na, os, ag, b, hb1, hyes, hno⟩ := xx
    have J : Inv X pins σ' H' sI := J'.ofTry ok
    have sky' : Sky B (X.env :: X.outer) a (Zc cls d) X.env.locals s'.heap := by rw [← hs]; exact sky
    show wpAny (model X.prog X.w) X.A (noteFrame (.ref a) X.env) _ _ _
    refine Sky.land Zc.steady hfr hf sky' fun h3 fl3 up3 => ?_
    have J3 : Inv X pins σ' H' { s' with heap := h3 } := J.landed nb fl3.1 (up.trans up3) os ag
    obtain ⟨oe3, vs3, he3, hz3, hd3⟩ := fl3.there
    have nfr : a ∉ frs (X.env :: X.outer) := fun hm => by
      obtain ⟨_, o', e', hnf⟩ := fl3.2.2.1.mem hm
      rw [he3] at e'
      cases e'
      exact hnf _ hd3
    have nbI : sI.heap.get? a = none := by
      cases e : sI.heap.get? a with
      | none => rfl
      | some o =>
        have q := nb a o e (by show a ∉ frs X.stack; rw [hs]; exact nfr)
        rw [fl3.2.1] at q
        cases q
    have nL : a ≠ X.env.locals := fun z => nfr (List.mem_filterMap.mpr ⟨X.env, List.mem_cons_self, by rw [hf, z]⟩)
    have nF : a ∉ X.fs := fun hm => by
      obtain ⟨e, he, q⟩ := List.mem_filterMap.mp hm
      exact nfr (List.mem_filterMap.mpr ⟨e, List.mem_cons_of_mem _ he, q⟩)
    have h0 : X.s_0.heap.get? a = none := by
      cases e : X.s_0.heap.get? a with
      | none => rfl
      | some o =>
        obtain ⟨o', e'⟩ := J.base.there a o e (by rw [hex]; simp)
        rw [nbI] at e'
        cases e'
    have nP : ∀ p ∈ X.pn ++ pins, p.1 ≠ a := fun p hp z => by
      have e := (J.pin p hp).1
      rw [z, nbI] at e
      cases e
    have S3 := J3.suite he3 hd3 na nL nF
    refine wpAny_handleBy_cons (codeAny_handlers_test ?_) (by intro q; cases q)
    have LT : PySem.W.Looks (model X.prog X.w) h3 (typeOf (.ref a)) cls := fun A Q E s k q => wpAny_typeOf_ref (k _ _ he3) (by rw [hz3.1]; exact q)
    have LM := PySem.W.exm_one (M := model X.prog X.w) (J3.kIn) LT hb1
    have test : ∀ {Q : Value → Shared → Prop} {E : Value → Shared → Prop}, Q c { s' with heap := h3 } → wpAny (model X.prog X.w) (X.A.mark (some (.ref a))) (eval (.Name x np) X.env) Q E { s' with heap := h3 } := fun {Q E} q => by
      obtain ⟨hg, hdbg, hm | ⟨hm, hv, hnn⟩⟩ := hc
      · exact ld_glob (X := X.suite a ((a, oe3) :: (X.pn ++ pins))) S3 hg hm q hdbg
      · exact ld_blt (X := X.suite a ((a, oe3) :: (X.pn ++ pins))) S3 hg hm hv q hnn hdbg
    refine test (LM.here ?_)
    cases b with
    | true =>
      refine codeAny_handlers_suite_as ?_
      refine HandSPX.lands_againZ fl3 fun h4 fl4 up4 => ?_
      have J4 : Inv X pins σ' H' { s' with heap := h4 } := J.landed nb fl4.1 ((up.trans up3).trans up4) os ag
      obtain ⟨oe4, vs4, he4, hz4, hd4⟩ := fl4.there
      have S4 := J4.suite he4 hd4 na nL nF
      refine store_ok (X := X.suite a ((a, oe4) :: (X.pn ++ pins))) (v := .ref a) S4 hN hi hloc rfl (fun s5 S5 => ?_) (.inr hln)
      have hlt : i < σ'.length := by
        have l := J4.len
        rw [l]
        exact (List.getElem?_eq_some_iff.mp hi).1
      refine wpAny_mono ((hsu a oe4 (X.pn ++ pins)).run [] s5 _ H' { nx := fun σ6 H6 => σ6 = (σ'.set i (some (.ref a))).set j (some (.ref a)) ∧ H6 = H', rt := fun _ _ => False, bk := fun _ _ => False, ct := fun _ _ => False } S5 ⟨.ref a, by rw [List.getElem?_set_self hlt], rfl, rfl⟩) (fun f s6 hsp => ?_) (fun _ _ z => False.elim z)
      cases f with
      | next =>
        obtain ⟨σ6, H6, S6, e6, e6'⟩ := hsp
        subst e6 e6'
        have ha6 : s6.heap.get? a = some oe4 := (S6.pin (a, oe4) (List.mem_append_left _ List.mem_cons_self)).1
        have I6 : Inv X pins _ H6 s6 := S6.unsuite ok
        have nC : ∀ x c, X.env.cells.lookup x = some c → c ≠ a := fun x c e z => by
          obtain ⟨w, hw⟩ := I6.cell x c e
          obtain ⟨o, eo, dq⟩ := hw
          rw [z, ha6] at eo
          cases eo
          first
            | (rw [hd4] at dq; cases dq)
            | (obtain ⟨_, dq⟩ := dq; rw [hd4] at dq; cases dq)
        have hob : ObjOk X.prog X.w (upd H6 a (exV cls d a)) s6.heap a (exV cls d a) := ⟨⟨oe4, vs4, ha6, hz4, hd4⟩, ⟨oe4, ha6⟩, fun h1 h2 ⟨o, w, e, r⟩ kk => ⟨o, w, kk o e, r⟩⟩
        have I7 := Inv.track I6 na h0 nL nC nP hob
        exact gone_ok I7 hN hi hln fun s7 J7 => ⟨_, _, J7, hyes rfl a na⟩
      | brk =>
        obtain ⟨_, _, _, z⟩ := hsp
        exact z.elim
      | cont =>
        obtain ⟨_, _, _, z⟩ := hsp
        exact z.elim
      | ret u =>
        obtain ⟨_, _, _, _, _, z⟩ := hsp
        exact z.elim
    | false =>
      show wpAny _ X.A (handleBy (.ref a) X.env []) _ _ _
      refine wpAny_handleBy_nil ?_
      obtain ⟨k1, k2, k3, oe, vs, T, oT, ts', he, hz, hd, h1, hr⟩ := id fl3
      unfold PySem.passOn
      refine wpAny_bind (wpAny_field he hd h1 ?_)
      rw [if_neg (show ¬ ((Value.ref T == Value.none) = true) from by simp)]
      have fin : wpAny (model X.prog X.w) X.A (setFlight (.ref a) X.env.frame) (fun _ s4 => wpAny (model X.prog X.w) X.A (throw (.ref a) : Sem Flow) (SP X pins De) X.xe s4) X.xe { s' with heap := h3 } := by
        rw [hf]
        refine HandSPX.setFlight_upZ fl3 fun h4 hh4 up4 => wpAny_throw (tk _ _ ?_)
        exact ⟨a, B, sI, pins, σ', H', cls, d, rfl, J, nb, (up.trans up3).trans up4, .inr (.inr (by rw [hs]; exact hh4)), na, os, ag, hno rfl⟩
      first
        | exact wpAny_bind (wpAny_pure (wpAny_bind fin))
        | exact wpAny_bind fin
  · cases f with
    | next =>
      obtain ⟨σ', H', J', q⟩ := hsp
      exact wpAny_execs_nil ⟨σ', H', J'.ofTry ok, q⟩
    | brk =>
      obtain ⟨σ', H', J', q⟩ := hsp
      exact ⟨σ', H', J'.ofTry ok, q⟩
    | cont =>
      obtain ⟨σ', H', J', q⟩ := hsp
      exact ⟨σ', H', J'.ofTry ok, q⟩
    | ret u =>
      obtain ⟨v, σ', H', J', r, q⟩ := hsp
      exact ⟨v, σ', H', J'.ofTry ok, r, q⟩
end
/-- which exceptions an except clause takes -/
def XtOk (T : Tb) (cv : Value) (L : List (Str × Bool)) : Prop := ∀ c k C, L.lookup c = some k → T.cls c = some C → PySem.W.exmOne T.K (.ref C) cv = some k
def sTry (i j : Nat) (L : List (Str × Bool)) (g : SC) : SC := fun Γ x => match g Γ x with
  | .er (.exc c fs) Γ' x' => match L.lookup c with
    | some true => .nx (((Γ'.set i (.sh (.exc c fs))).set j (.sh (.exc c fs))).set i .no) x'
    | some false => .er (.exc c fs) Γ' x'
    | none => .no
  | .er _ _ _ => .no
  | r => r
section
variable {X : Cx} {T : Tb} {W : WX} {c : Cf} {own : Ow} {Γ : Gm} {x : Bx} {σ : L2.St} {H : Hp} {g : SC}
theorem Sat.clear (s : Sat T c own Γ x σ H) (i : Nat) : Sat T c own (Γ.set i .no) x (σ.set i none) H := by
  refine ⟨by rw [List.length_set, List.length_set]; exact s.l1, by rw [List.length_set]; exact s.l2, s.gr, s.bx, s.bd, s.ob, s.bb, s.fresh, s.nodup, fun p cn fs h1 h2 => ?_, fun k u h => ?_⟩
  · by_cases h0 : i = 0
    · subst h0
      have hlt := (List.getElem?_eq_some_iff.mp h2).1
      rw [List.length_set] at hlt
      rw [List.getElem?_set_self hlt] at h2
      cases h2
    · rw [List.getElem?_set_ne h0] at h2
      exact s.me p cn fs h1 h2
  · by_cases hk : i = k
    · subst hk
      have hlt := (List.getElem?_eq_some_iff.mp h).1
      rw [List.length_set] at hlt
      rw [List.getElem?_set_self hlt] at h
      cases h
      trivial
    · rw [List.getElem?_set_ne hk] at h
      rw [List.getElem?_set_ne hk]
      exact s.slot k u h
theorem ps_dtry {xn n v : Str} {cv : Value} {i j : Nat} {L : List (Str × Bool)} {body : List Stmt} {np pos pos' p1 p2 p3 : Pos} (hK : X.K = T.K) (hs : X.stack = X.env :: X.outer) (hf : X.env.frame = some X.env.locals) (hex : X.ex = []) (hN : X.N.Nodup) (hi : X.N[i]? = some n) (hln : X.env.kindOf n = some .local) (hj : X.N[j]? = some v) (hlv : Loc X.env.scope v) (hfv : X.fn v = true ∨ X.env.scope.names.lookup v = some .local) (hc : Names X xn cv) (hL : XtOk T cv L) (tk : Takes X W)
    (hb : ∀ (W' : WX) (pn : List (Addr × Obj)) (xe : Value → Shared → Prop), Takes (X.tr pn xe) W' → PassesOwn (model X.prog X.w) X.A X.env xe → PSs (X.tr pn xe) body (SS T W' g))
    (hsu : ∀ (a : Addr) (oe : Obj) (pn : List (Addr × Obj)), PSs (X.suite a ((a, oe) :: pn)) [.Assign [.Name v p1] (.Name n p2) p3] (tAsg (tVar i) (gName j))) :
    PS X (.Try body [.ExceptHandler (some (.Name xn np)) (some n) [.Assign [.Name v p1] (.Name n p2) p3] pos'] [] [] pos) (SS T W (sTry i j L g)) :=
  (ps_try_asV hs hf hex hN hi hln hj hlv hfv hc tk (tb := fun W' => SS T W' g) hb hsu).mono fun De σ H ⟨c, own, Γ, x, s, r⟩ => ⟨c, own, Γ, x, s, by
    unfold sTry at r
    cases hg : g Γ x with
    | nx Γ' x' => rw [hg] at r; exact r
    | rt d x' => rw [hg] at r; exact r
    | bk Γ' x' => rw [hg] at r; exact r
    | ct Γ' x' => rw [hg] at r; exact r
    | no => rw [hg] at r; exact r
    | er d Γ' x' =>
      rw [hg] at r
      intro cls dd own' σ' H' fz s' q
      obtain ⟨cn, C, dx, fs, ds, rfl, hC, rfl, rfl, h5, h6, h7⟩ := q
      dsimp only at r
      cases hl : L.lookup cn with
      | none => rw [hl] at r; exact r.elim
      | some b =>
        rw [hl] at r
        refine ⟨b, by rw [hK]; exact hL cn b C hl hC, fun hb a na => ?_, fun hb => ?_⟩
        · subst hb
          have sm : Same H' (upd H' a (exV (.ref C) (some dx) a)) := Same.upd' na
          have s1 := s'.grow (Grow.same sm) (s'.bx.same sm)
          have rp : Rep T c.b (upd H' a (exV (.ref C) (some dx) a)) (Pp c own') (.ref a) (.exc cn ds) := .exc (s'.freshP na) h5 hC upd_same (sm _ _ h6) (h7.same sm)
          exact r own' _ _ (fun b o h1 h2 e => ⟨sm _ _ (fz b o h1 h2 e).1, (fz b o h1 h2 e).2⟩) (((s1.set i rp).set j rp).clear i)
        · subst hb
          exact r _ _ own' σ' H' fz s' ⟨cn, C, dx, fs, ds, rfl, hC, rfl, rfl, h5, h6, h7⟩⟩
end
end DL

namespace DL
open PySem PySem.Spec PyProof.Rows L2
/-! ### operators of own classes -/
/-- the method that an operator takes: both are instances of one class -/
def ownM (cs : List (Str × (List Ar → M D))) : D → D → Option (List Ar → M D)
  | .obj c _, .obj c' _ => if c = c' then cs.lookup c else none
  | _, _ => none
def eOpO (cs : List (Str × (List Ar → M D))) (g : D → D → Option D) (fa fb : EC) : EC := fun Γ => bnd (fa Γ) fun x => bnd (fb Γ) fun y => match ownM cs x y with
  | some mf => mf [.bo x, .bo y]
  | none => opt (g x y)
theorem ownM_some {cs : List (Str × (List Ar → M D))} {x y : D} {mf : List Ar → M D} (h : ownM cs x y = some mf) : ∃ c ds es, x = .obj c ds ∧ y = .obj c es ∧ cs.lookup c = some mf := by
  unfold ownM at h
  split at h
  · rename_i c ds c' es
    by_cases e : c = c'
    · rw [if_pos e] at h
      subst e
      exact ⟨c, ds, es, rfl, rfl, h⟩
    · rw [if_neg e] at h
      cases h
  · cases h
section
variable {X : Cx} {T : Tb} {W : WX} {m : Md} {a b e : Expr} {f fa fb : EC} {pos p apos : Pos} {c : Cf} {own own' : Ow} {Γ : Gm} {x x' : Bx} {σ : L2.St} {H H' : Hp} {Q : VK} {cs : List (Str × (List Ar → M D))}
/-- what the text says of a method nm of two places -/
structure OwnOk (X : Cx) (T : Tb) (nm : Str) (cn : Str) (mf : List Ar → M D) : Prop where
  ex : ∃ (C fA : Addr) (fd : FuncData) (ps : List Str) (k : Nat), T.cls cn = some C ∧ FnOk X.prog X.w X.K X.mg X.base (L2.CX X.prog X.w) k fA fd ps (spD T 2 mf) ∧ Room k X.A ∧ PySem.W.findIn X.K (.ref C) nm = some (some (.ref fA)) ∧ PySem.W.isFn X.K (.ref fA) = true ∧ Binds X.K fd ps [] ∧ PySem.W.selfFirst X.K C = true
/-- the call of such a method -/
theorem own_call {nm cn : Str} {mf : List Ar → M D} {ds es : List (Str × D)} {pins : List (Addr × Obj)} {s : Shared} {v u : V} {vv uu : Value} (O : OwnOk X T nm cn mf) (tk : Takes X W) (st : Sat T c own Γ x σ H) (I : Inv X pins σ H s) (rx : RelV v vv) (ry : RelV u uu)
    (qv : RepQ T c.b H (Pp c own) v (.obj cn ds)) (qu : RepQ T c.b H (Pp c own) u (.obj cn es)) (r : ERes T W .fz c own σ H Q (mf [.bo (.obj cn ds), .bo (.obj cn es)] x)) :
    ∃ (a b C dx dy fA : Addr) (fs gs : List (Str × V)), vv = .ref a ∧ uu = .ref b ∧ H a = some (.ins C dx fs) ∧ H b = some (.ins C dy gs) ∧ PySem.W.findIn X.K (.ref C) nm = some (some (.ref fA)) ∧ PySem.W.isFn X.K (.ref fA) = true ∧ PySem.W.selfFirst X.K C = true ∧
      wpAny (model X.prog X.w) X.A (call (.ref fA) [vv, uu]) (PySem.W.CmpBack (EP X pins σ Q)) X.xe s := by
  obtain ⟨C, fA, fd, ps, k, hC, F, hr, hs, hf, hb, hsf⟩ := O.ex
  obtain ⟨a, C1, dx, fs, rfl, h1, h2, _⟩ := qv.obj
  obtain ⟨b, C2, dy, gs, rfl, k1, k2, _⟩ := qu.obj
  rw [hC] at h1 k1
  cases h1
  cases k1
  cases rx
  cases ry
  refine ⟨a, b, C, dx, dy, fA, fs, gs, rfl, rfl, h2, k2, hs, hf, hsf, ?_⟩
  have ar : Paired (RepA T c.b H (Pp c own)) [.ref a, .ref b] [.bo (.obj cn ds), .bo (.obj cn es)] := .cons qv (.cons qu .nil)
  refine wpAny_mono (run_fnSD (us := [.ref a, .ref b]) (vs := [.ref a, .ref b]) (dvs := []) (ds := []) F hr hb .nil (passAt tk σ) I (.cons rfl (.cons rfl .nil)) (call_at st ar rfl r)) (fun w s' hw => ?_) fun _ _ z => z
  obtain ⟨z, H', I', rz, q⟩ := hw
  cases z with
  | non => cases rz; exact ⟨.non, H', I', rfl, q⟩
  | bl k => cases rz; exact ⟨.bl k, H', I', rfl, q⟩
  | int k => obtain ⟨t, rfl⟩ := rz; exact ⟨.int k, H', I', ⟨t, rfl⟩, q⟩
  | str k => obtain ⟨t, rfl⟩ := rz; exact ⟨.str k, H', I', ⟨t, rfl⟩, q⟩
  | byt k => obtain ⟨t, rfl⟩ := rz; exact ⟨.byt k, H', I', ⟨t, rfl⟩, q⟩
  | flt k => obtain ⟨t, rfl⟩ := rz; exact ⟨.flt k, H', I', ⟨t, rfl⟩, q⟩
  | ref k => cases rz; exact ⟨.ref k, H', I', rfl, q⟩
  | ty k => cases rz; exact ⟨.ty k, H', I', rfl, q⟩
theorem pd_cmpO {op : CmpOp} {r : R2} {g : D → D → Option D} (ho : OpR X (compareOp op) r) (hg : OpD T r g) (hu : X.A.units < cLine) (tk : Takes X W) (hcs : ∀ cn mf, cs.lookup cn = some mf → OwnOk X T (cmpInfo op).2.1 cn mf) (hop : ∀ v u, compareOp op v u = richCompare op v u) (ha : PE X a (E T W .tr fa)) (hb : PE X b (E T W .tr fb)) (hm : behindInMarks op b = false) :
    PE X (.Compare a [op] [b] pos) (E T W .fz (eOpO cs g fa fb)) := by
  refine ⟨fun pins s σ H Q I h => ?_⟩
  refine wpAny_Compare1 (binT ha hb I (e_two h) fun v u s2 x y H2 I2 rx ry q => ?_) hm
  obtain ⟨c, own, Γ, xb, d, e, H1, st, g1, q1, q2, r2⟩ := q
  have qd : RepQ T c.b H2 (Pp c own) x d := RepQ.grow g1 q1
  cases hz : ownM cs d e with
  | none =>
    rw [hz] at r2
    exact ho pins s2 σ H2 x y v u Q I2 rx ry (hg.fin ⟨c, own, Γ, xb, d, e, H2, st, Grow.refl, qd, q2, r2⟩)
  | some mf =>
    rw [hz] at r2
    obtain ⟨cn, ds, es, rfl, rfl, hl⟩ := ownM_some hz
    obtain ⟨p, q, C, dx, dy, fA, fs, gs, rfl, rfl, h1, h2, h3, h4, _, h5⟩ := own_call (hcs cn mf hl) tk st I2 rx ry qd q2 r2
    rw [hop]
    obtain ⟨mA, J, _⟩ := ins_get I2.hok h1
    obtain ⟨mB, J', _⟩ := ins_get I2.hok h2
    obtain ⟨od, J, _⟩ := J.look
    obtain ⟨od', J', _⟩ := J'.look
    obtain ⟨mm, hF⟩ := I2.fr
    exact PySem.W.cmp_K (op := op) (tb := .ref C) hu hF I2.ok.mod.kin J J'.type (by simp [PySem.W.notFirst]) h3 h4 h5
theorem pd_opO {op : Operator} {r : R2} {g : D → D → Option D} (ho : OpR X (binaryOp op) r) (hg : OpD T r g) (tk : Takes X W) (hcs : ∀ cn mf, cs.lookup cn = some mf → OwnOk X T (PySem.dunder op.info.2) cn mf) (ha : PE X a (E T W .tr fa)) (hb : PE X b (E T W .tr fb)) :
    PE X (.BinOp a op b pos) (E T W .fz (eOpO cs g fa fb)) := by
  refine ⟨fun pins s σ H Q I h => ?_⟩
  refine wpAny_BinOp (binT ha hb I (e_two h) fun v u s2 x y H2 I2 rx ry q => ?_)
  obtain ⟨c, own, Γ, xb, d, e, H1, st, g1, q1, q2, r2⟩ := q
  have qd : RepQ T c.b H2 (Pp c own) x d := RepQ.grow g1 q1
  cases hz : ownM cs d e with
  | none =>
    rw [hz] at r2
    exact ho pins s2 σ H2 x y v u Q I2 rx ry (hg.fin ⟨c, own, Γ, xb, d, e, H2, st, Grow.refl, qd, q2, r2⟩)
  | some mf =>
    rw [hz] at r2
    obtain ⟨cn, ds, es, rfl, rfl, hl⟩ := ownM_some hz
    obtain ⟨p, q, C, dx, dy, fA, fs, gs, rfl, rfl, h1, h2, h3, h4, h6, h5⟩ := own_call (hcs cn mf hl) tk st I2 rx ry qd q2 r2
    obtain ⟨mA, J, _⟩ := ins_get I2.hok h1
    obtain ⟨mB, J', _⟩ := ins_get I2.hok h2
    obtain ⟨od, J, _⟩ := J.look
    obtain ⟨od', J', _⟩ := J'.look
    obtain ⟨mm, hF⟩ := I2.fr
    exact PySem.W.binop_K hF I2.ok.mod.kin J J'.type h6 h3 h4 h5
end
end DL

namespace DL
open PySem PySem.Spec PyProof.Rows L2
/-! ### order of data -/
def noneP : PyData → Bool
  | .none => true
  | _ => false
def ordB (f : PyData → PyData → Bool) (x y : D) : Option D := (toPy x).bind fun p => (toPy y).bind fun q => if PySem.W.alike p q = true ∧ p.depth ≤ 64 ∧ noneP p = false then some (.bl (f p q)) else none
theorem ordB_some {f : PyData → PyData → Bool} {x y z : D} (h : ordB f x y = some z) : ∃ p q, toPy x = some p ∧ toPy y = some q ∧ PySem.W.alike p q = true ∧ p.depth ≤ 64 ∧ p ≠ .none ∧ z = .bl (f p q) := by
  unfold ordB at h
  cases hx : toPy x with
  | none => rw [hx] at h; cases h
  | some p =>
    cases hy : toPy y with
    | none => rw [hx, hy] at h; cases h
    | some q =>
      rw [hx, hy] at h
      obtain ⟨⟨h1, h2, h3⟩, h4⟩ := ite_some h
      exact ⟨p, q, rfl, rfl, h1, h2, (fun e => by rw [e] at h3; cases h3), h4.symm⟩
def ordF : CmpOp → PyData → PyData → Bool
  | .Lt, p, q => PySem.W.dataLt p q
  | .Gt, p, q => PySem.W.dataLt q p
  | .LtE, p, q => !PySem.W.dataLt q p
  | _, p, q => !PySem.W.dataLt p q
def rOrd (K : PySem.W.Frag) (op : CmpOp) : R2 := fun x y H Q => ∃ p q, Dp K H x p ∧ Dp K H y q ∧ PySem.W.alike p q = true ∧ p.depth ≤ 64 ∧ p ≠ .none ∧ Q (.bl (ordF op p q)) H
theorem ord_room {A : Around} {p q : PyData} (h : p.depth ≤ 64) (hu : A.units + 64 < cLine) : A.units + min p.depth q.depth < cLine := by
  have h2 : min p.depth q.depth ≤ p.depth := Nat.min_le_left _ _
  omega
theorem op_ordLt {X : Cx} (hu : X.A.units + 64 < cLine) : OpR X (compareOp .Lt) (rOrd X.K .Lt) := by
  intro pins s σ H x y v u Q I rx ry ⟨p, q, hp, hq, ha, hd, hn, k⟩
  obtain ⟨as, r1⟩ := Dp.reads I p x v hp rx
  obtain ⟨bs, r2⟩ := Dp.reads I q y u hq ry
  exact PySem.W.lt_data r1 r2 ha hn (ord_room hd hu) ⟨.bl _, H, I, rfl, k⟩
theorem op_ordGt {X : Cx} (hu : X.A.units + 64 < cLine) : OpR X (compareOp .Gt) (rOrd X.K .Gt) := by
  intro pins s σ H x y v u Q I rx ry ⟨p, q, hp, hq, ha, hd, hn, k⟩
  obtain ⟨as, r1⟩ := Dp.reads I p x v hp rx
  obtain ⟨bs, r2⟩ := Dp.reads I q y u hq ry
  exact PySem.W.gt_data r1 r2 ha hn (ord_room hd hu) ⟨.bl _, H, I, rfl, k⟩
theorem op_ordLe {X : Cx} (hu : X.A.units + 64 < cLine) : OpR X (compareOp .LtE) (rOrd X.K .LtE) := by
  intro pins s σ H x y v u Q I rx ry ⟨p, q, hp, hq, ha, hd, hn, k⟩
  obtain ⟨as, r1⟩ := Dp.reads I p x v hp rx
  obtain ⟨bs, r2⟩ := Dp.reads I q y u hq ry
  exact PySem.W.le_data r1 r2 ha hn (ord_room hd hu) ⟨.bl _, H, I, rfl, k⟩
theorem op_ordGe {X : Cx} (hu : X.A.units + 64 < cLine) : OpR X (compareOp .GtE) (rOrd X.K .GtE) := by
  intro pins s σ H x y v u Q I rx ry ⟨p, q, hp, hq, ha, hd, hn, k⟩
  obtain ⟨as, r1⟩ := Dp.reads I p x v hp rx
  obtain ⟨bs, r2⟩ := Dp.reads I q y u hq ry
  exact PySem.W.ge_data r1 r2 ha hn (ord_room hd hu) ⟨.bl _, H, I, rfl, k⟩
theorem opd_ord {T : Tb} {op : CmpOp} : OpD T (rOrd T.K op) (ordB (ordF op)) := fun b H P x y dx dy dz Q hP hx hy hz k => by
  obtain ⟨p, q, e1, e2, a, d, n, rfl⟩ := ordB_some hz
  exact ⟨p, q, toPyQ hx e1, toPyQ hy e2, a, d, n, k _ H (Same.refl H) (.bl _)⟩
/-- numbers by themselves, else data -/
def dOrdU (op : CmpOp) (g : Int → Int → Bool) (x y : D) : Option D := match x, y with
  | .int i, .int j => some (.bl (g i j))
  | x, y => ordB (ordF op) x y
def rOrdU (K : PySem.W.Frag) (op : CmpOp) (g : Int → Int → Bool) : R2 := fun x y H Q => (rI0 fun i j => .bl (g i j)) x y H Q ∨ rOrd K op x y H Q
theorem opd_ordU {T : Tb} {op : CmpOp} {g : Int → Int → Bool} : OpD T (rOrdU T.K op g) (dOrdU op g) := fun b H P x y dx dy dz Q hP hx hy hz k => by
  unfold dOrdU at hz
  split at hz
  · cases hz
    rw [hx.int, hy.int]
    exact .inl ⟨_, _, rfl, rfl, k _ H (Same.refl H) (.bl _)⟩
  · exact .inr (opd_ord b H P x y dx dy dz Q hP hx hy hz k)
abbrev dLtU : D → D → Option D := dOrdU .Lt fun i j => decide (i < j)
abbrev dLeU : D → D → Option D := dOrdU .LtE fun i j => decide (i ≤ j)
abbrev dGtU : D → D → Option D := dOrdU .Gt fun i j => decide (j < i)
abbrev dGeU : D → D → Option D := dOrdU .GtE fun i j => decide (j ≤ i)
theorem op_ltU {X : Cx} (hu : X.A.units + 64 < cLine) : OpR X (compareOp .Lt) (rOrdU X.K .Lt fun i j => decide (i < j)) := op_lt.or (op_ordLt hu)
theorem op_leU {X : Cx} (hu : X.A.units + 64 < cLine) : OpR X (compareOp .LtE) (rOrdU X.K .LtE fun i j => decide (i ≤ j)) := op_le.or (op_ordLe hu)
theorem op_gtU {X : Cx} (hu : X.A.units + 64 < cLine) : OpR X (compareOp .Gt) (rOrdU X.K .Gt fun i j => decide (j < i)) := op_gt.or (op_ordGt hu)
theorem op_geU {X : Cx} (hu : X.A.units + 64 < cLine) : OpR X (compareOp .GtE) (rOrdU X.K .GtE fun i j => decide (j ≤ i)) := op_ge.or (op_ordGe hu)
end DL

namespace PySem.W
open PySem PySem.Calls PyProof.Rows Builtin
section
variable {prog : Program} {w : World} {A : Around} {E : Value → Shared → Prop} {s : Shared} {K : Frag} {x C L f : Addr} {h₀ : Heap} {m : Str → Option Value} {ox : Obj} {od : Option Obj}
theorem mro_first {cd : ClassData} (hc : selfFirst K C = true) : ∃ cd rest, clsIn K C = some cd ∧ cd.mro = .ref C :: rest := by
  obtain ⟨cd, hcd, hm⟩ := any_some hc
  cases q : cd.mro with
  | nil => rw [q] at hm; cases hm
  | cons a r => exact ⟨cd, r, hcd, by rw [q, List.head?_cons] at hm; cases (beq_iff_eq.mp hm); rw [q]⟩
/-- C's number slot goes by name -/
theorem inPy_K {M : Model} {h : Heap} {nm : String} (X : K.In h) {r : Option Value} (hs : findIn K (.ref C) (PySem.dunder nm) = some (some (.ref f))) (hr : findIn K (.ref C) (dunderR nm) = some (some (.ref L))) : Looks M h (numberSlotInPython (.ref C) nm) true := by
  intro A Q E s k q
  unfold numberSlotInPython
  refine wpAny_bind (looks_findIn X hs A _ E s k ?_)
  refine wpAny_bind (wpAny_pure ?_)
  refine wpAny_bind (looks_findIn X hr A _ E s k ?_)
  refine wpAny_bind (wpAny_pure ?_)
  exact wpAny_pure q
/-- x op n, n an int: by x's own method -/
theorem binopI_K {prog : Program} {w : World} {op : Operator} {i : Int} {t : Tok} {r : Addr} {idr : String} {Q : Value → Shared → Prop} (F : Fr h₀ L s.heap m) (X₀ : K.In h₀) (I : InstAt s.heap x ox C od) (hc : selfFirst K C = true)
    (hs : findIn K (.ref C) (PySem.dunder op.info.2) = some (some (.ref f))) (hrr : findIn K (.ref C) (dunderR op.info.2) = some (some (.ref r))) (hf : isFn K (.ref f) = true)
    (hfi : fillsNumberSlot (.type "int") op.info.2 = pure true) (hsi : typeLookup (.type "int") (dunderR op.info.2) = pure (some (.builtin idr))) (hsub : subIn K (.type "int") (.ref C) = some false)
    (h : wpAny (model prog w) A (call (.ref f) [.ref x, .int i t]) (CmpBack Q) E s) : wpAny (model prog w) A (binaryOp op (.ref x) (.int i t)) Q E s := by
  have X := X₀.keeps F.keep
  obtain ⟨cd, rest, hcd, hm⟩ := mro_first (cd := default) hc
  unfold binaryOp
  refine wpAny_holding (wpAny_bind ?_)
  unfold binaryOp1
  refine wpAny_bind (I.type.here (wpAny_bind (wpAny_typeOf (T := "int") (typeIs_int s i t) (wpAny_bind ((fills_K X hcd hm hs).here ?_)))))
  have hne : (Value.ref C == Value.type "int") = false := by rfl
  simp only [hne, Bool.false_eq_true, if_false]
  refine wpAny_bind (wpAny_of_eq hfi ?_)
  simp only [Bool.and_self, if_true]
  refine wpAny_bind ((looks_subIn X hsub).here ?_)
  simp only [Bool.false_eq_true, if_false, pure_bind, Bool.not_false, Bool.and_self, if_true]
  refine wpAny_bind ((inPy_K (r := none) X hs hrr).here ?_)
  simp only [if_true]
  refine wpAny_bind (wpAny_of_eq (show numberSlotInPython (.type "int") op.info.2 = pure false from rfl) ?_)
  simp only [Bool.not_false, if_true]
  refine wpAny_bind (wpAny_of_eq hsi ?_)
  refine wpAny_bind (m := tryMethod (.ref x) _ _) ?_
  unfold tryMethod
  refine wpAny_bind (special_fn X I hs (beq_iff_eq.mp hf) (wpAny_mono h (fun v s' hv => ?_) fun _ _ e => e))
  cases v <;> first | exact hv.elim | exact wpAny_pure (wpAny_pure (wpAny_pure hv))
theorem int_mul_inst (i : Int) (t : Tok) (x C dx : Addr) : Meets (Builtin.«int.__mul__» ⟨[.int i t, .ref x], []⟩) (fun _ R s => s.heap.get? x = some (instObj C dx) ∧ R (.ok (.ret Value.notImplemented)) s) :=
  .of_wp fun prog w A R s h => by obtain ⟨hp, g, d, tk, os⟩ := s; obtain ⟨hl, h⟩ := h; unfold instObj at hl; wp_walk using wpAny_loadPart' hl; exact ⟨_, rfl, h⟩
/-- i * x: by x's own __rmul__ -/
theorem rmul_K {prog : Program} {w : World} {i : Int} {t : Tok} {r dx : Addr} {Q : Value → Shared → Prop} (F : Fr h₀ L s.heap m) (X₀ : K.In h₀) (hx : s.heap.get? x = some (instObj C dx)) (I : InstAt s.heap x ox C od) (hc : selfFirst K C = true)
    (hs : findIn K (.ref C) (PySem.dunder "mul") = some (some (.ref f))) (hrr : findIn K (.ref C) (PySem.dunderR "mul") = some (some (.ref r))) (hf : isFn K (.ref r) = true) (hsub : subIn K (.ref C) (.type "int") = some false)
    (h : wpAny (model prog w) A (call (.ref r) [.ref x, .int i t]) (CmpBack Q) E s) : wpAny (model prog w) A (binaryOp .Mult (.int i t) (.ref x)) Q E s := by
  have X := X₀.keeps F.keep
  obtain ⟨cd, rest, hcd, hm⟩ := mro_first (cd := default) hc
  unfold binaryOp
  refine wpAny_holding (wpAny_bind ?_)
  unfold binaryOp1
  refine wpAny_bind (wpAny_typeOf (T := "int") (typeIs_int s i t) (wpAny_bind (I.type.here (wpAny_bind (wpAny_of_eq PySem.F.fills_int_mul ?_)))))
  have hne : (Value.type "int" == Value.ref C) = false := by rfl
  simp only [hne, Bool.false_eq_true, if_false]
  refine wpAny_bind ((fills_K (nm := "mul") X hcd hm hs).here ?_)
  simp only [Bool.and_self, if_true]
  refine wpAny_bind ((looks_subIn X hsub).here ?_)
  simp only [Bool.false_eq_true, if_false, pure_bind, Bool.not_false, Bool.and_self, if_true]
  refine wpAny_bind (wpAny_of_eq (show numberSlotInPython (.type "int") "mul" = pure false from rfl) ?_)
  simp only [Bool.false_eq_true, if_false, pure_bind, if_true]
  refine wpAny_bind (wpAny_tryMethod_declines (self := .int i t) (other := .ref x) (T := "int") (name := PySem.dunder "mul") (id := "int.__mul__") (typeIs_int s i t) PySem.F.slot_int_mul ?_)
  refine call_meets (T := "int") (name := PySem.dunder "mul") (id := "int.__mul__") PySem.F.slot_int_mul (typeIs_int s i t) PySem.F.entry_int_mul (PySem.F.args_int_mul_2 _ _) (int_mul_inst i t x C dx) ?_
  refine ⟨hx, ?_⟩
  refine ⟨rfl, ?_⟩
  refine wpAny_bind (m := tryMethod (.ref x) _ _) ?_
  unfold tryMethod
  refine wpAny_bind (special_fn (name := PySem.dunderR "mul") X I hrr (beq_iff_eq.mp hf) (wpAny_mono h (fun v s' hv => ?_) fun _ _ e => e))
  cases v <;> first | exact hv.elim | exact wpAny_pure (wpAny_bind (wpAny_rule (wpAny_pure (wpAny_pure hv))))
/-- x op= y, no in-place method -/
theorem inop_K {prog : Program} {w : World} {op : Operator} {b : Value} {Q : Value → Shared → Prop} (X : K.In s.heap) (I : InstAt s.heap x ox C od) (hi : Looks (model prog w) s.heap (fillsInplaceSlot (.ref C) op.info.2 (op == .Add)) false) (F : Fr h₀ L s.heap m) (X₀ : K.In h₀) (hb : Looks (model prog w) s.heap (typeOf b) (.ref C)) (hc : selfFirst K C = true)
    (hs : findIn K (.ref C) (PySem.dunder op.info.2) = some (some (.ref f))) (hf : isFn K (.ref f) = true)
    (h : wpAny (model prog w) A (call (.ref f) [.ref x, b]) (CmpBack Q) E s) : wpAny (model prog w) A (inplaceOp op (.ref x) b) Q E s := by
  obtain ⟨cd, rest, hcd, hm⟩ := mro_first (cd := default) hc
  unfold inplaceOp
  refine wpAny_holding (wpAny_bind (I.type.here (wpAny_bind (hi.here ?_))))
  simp only [Bool.false_eq_true, if_false]
  refine wpAny_bind ?_
  unfold binaryOp1
  refine wpAny_bind (I.type.here (wpAny_bind (hb.here (wpAny_bind ((fills_K X hcd hm hs).here ?_)))))
  simp only [beq_self_eq_true, if_true]
  refine wpAny_bind (wpAny_pure ?_)
  simp only [Bool.and_false, Bool.false_eq_true, if_false, Bool.false_and]
  refine wpAny_bind (wpAny_pure ?_)
  simp only [Bool.false_eq_true, if_false]
  refine wpAny_bind (m := tryMethod (.ref x) _ b) ?_
  unfold tryMethod
  refine wpAny_bind (special_fn X I hs (beq_iff_eq.mp hf) (wpAny_mono h (fun v s' hv => ?_) fun _ _ e => e))
  cases v <;> first | exact hv.elim | exact wpAny_pure (wpAny_pure (wpAny_pure hv))
end
end PySem.W

namespace DL
open PySem PySem.Spec PyProof.Rows L2
/-! ### own * int, int * own -/
section
variable {X : Cx} {T : Tb} {W : WX} {m : Md} {a b e : Expr} {f fa fb fe : EC} {pos p apos : Pos} {c : Cf} {own own' : Ow} {Γ : Gm} {x x' : Bx} {σ : L2.St} {H H' : Hp} {Q : VK} {cs ci cr : List (Str × (List Ar → M D))}
/-- the result of a def's call is no NotImplemented -/
theorem back_of {pins : List (Addr × Obj)} {s : Shared} {fA : Addr} {us : List Value} (h : wpAny (model X.prog X.w) X.A (call (.ref fA) us) (EP X pins σ Q) X.xe s) : wpAny (model X.prog X.w) X.A (call (.ref fA) us) (PySem.W.CmpBack (EP X pins σ Q)) X.xe s :=
  wpAny_mono h (fun w s' hw => by
    obtain ⟨z, H', I', rz, q⟩ := hw
    cases z with
    | non => cases rz; exact ⟨.non, H', I', rfl, q⟩
    | bl k => cases rz; exact ⟨.bl k, H', I', rfl, q⟩
    | int k => obtain ⟨t, rfl⟩ := rz; exact ⟨.int k, H', I', ⟨t, rfl⟩, q⟩
    | str k => obtain ⟨t, rfl⟩ := rz; exact ⟨.str k, H', I', ⟨t, rfl⟩, q⟩
    | byt k => obtain ⟨t, rfl⟩ := rz; exact ⟨.byt k, H', I', ⟨t, rfl⟩, q⟩
    | flt k => obtain ⟨t, rfl⟩ := rz; exact ⟨.flt k, H', I', ⟨t, rfl⟩, q⟩
    | ref k => cases rz; exact ⟨.ref k, H', I', rfl, q⟩
    | ty k => cases rz; exact ⟨.ty k, H', I', rfl, q⟩) fun _ _ z => z
/-- what the text says of __mul__ and __rmul__ -/
structure MulOk (X : Cx) (T : Tb) (cn : Str) (mf mr : List Ar → M D) : Prop where
  ex : ∃ (C fA fR : Addr) (fd fdr : FuncData) (ps psr : List Str) (k : Nat), T.cls cn = some C ∧ FnOk X.prog X.w X.K X.mg X.base (L2.CX X.prog X.w) k fA fd ps (spD T 2 mf) ∧ FnOk X.prog X.w X.K X.mg X.base (L2.CX X.prog X.w) k fR fdr psr (spD T 2 mr) ∧ Room k X.A ∧
    PySem.W.findIn X.K (.ref C) (PySem.dunder "mul") = some (some (.ref fA)) ∧ PySem.W.findIn X.K (.ref C) (PySem.dunderR "mul") = some (some (.ref fR)) ∧ PySem.W.isFn X.K (.ref fA) = true ∧ PySem.W.isFn X.K (.ref fR) = true ∧ Binds X.K fd ps [] ∧ Binds X.K fdr psr [] ∧ PySem.W.selfFirst X.K C = true ∧
    PySem.W.subIn X.K (.type "int") (.ref C) = some false ∧ PySem.W.subIn X.K (.ref C) (.type "int") = some false
inductive MulK where
  | l (mf : List Ar → M D) | r (mr : List Ar → M D) | n
def mulK (cs : List (Str × (List Ar → M D) × (List Ar → M D))) : D → D → MulK
  | .obj c _, .int _ => match cs.lookup c with | some (mf, _) => .l mf | none => .n
  | .int _, .obj c _ => match cs.lookup c with | some (_, mr) => .r mr | none => .n
  | _, _ => .n
theorem mulK_l {cs : List (Str × (List Ar → M D) × (List Ar → M D))} {d e : D} {mf : List Ar → M D} (h : mulK cs d e = .l mf) : ∃ c fs i mr, d = .obj c fs ∧ e = .int i ∧ cs.lookup c = some (mf, mr) := by
  unfold mulK at h
  split at h
  · rename_i c fs i
    cases hl : cs.lookup c with
    | none => rw [hl] at h; cases h
    | some q => rw [hl] at h; cases h; exact ⟨c, fs, i, q.2, rfl, rfl, hl⟩
  · rename_i i c fs
    cases hl : cs.lookup c with
    | none => rw [hl] at h; cases h
    | some q => rw [hl] at h; cases h
  · cases h
theorem mulK_r {cs : List (Str × (List Ar → M D) × (List Ar → M D))} {d e : D} {mr : List Ar → M D} (h : mulK cs d e = .r mr) : ∃ c fs i mf, d = .int i ∧ e = .obj c fs ∧ cs.lookup c = some (mf, mr) := by
  unfold mulK at h
  split at h
  · rename_i c fs i
    cases hl : cs.lookup c with
    | none => rw [hl] at h; cases h
    | some q => rw [hl] at h; cases h
  · rename_i i c fs
    cases hl : cs.lookup c with
    | none => rw [hl] at h; cases h
    | some q => rw [hl] at h; cases h; exact ⟨c, fs, i, q.1, rfl, rfl, hl⟩
  · cases h
def eMulO (cs : List (Str × (List Ar → M D) × (List Ar → M D))) (g : D → D → Option D) (fa fb : EC) : EC := fun Γ => bnd (fa Γ) fun x => bnd (fb Γ) fun y => match mulK cs x y with
  | .l mf => mf [.bo x, .bo y]
  | .r mr => mr [.bo y, .bo x]
  | .n => opt (g x y)
theorem pd_mulO {cs : List (Str × (List Ar → M D) × (List Ar → M D))} {r : R2} {g : D → D → Option D} (ho : OpR X (binaryOp .Mult) r) (hg : OpD T r g) (tk : Takes X W) (hcs : ∀ cn mf mr, cs.lookup cn = some (mf, mr) → MulOk X T cn mf mr) (ha : PE X a (E T W .tr fa)) (hb : PE X b (E T W .tr fb)) :
    PE X (.BinOp a .Mult b pos) (E T W .fz (eMulO cs g fa fb)) := by
  refine ⟨fun pins s σ H Q I h => ?_⟩
  refine wpAny_BinOp (binT ha hb I (e_two h) fun v u s2 x y H2 I2 rx ry q => ?_)
  obtain ⟨c, own, Γ, xb, d, e, H1, st, g1, q1, q2, r2⟩ := q
  have qd : RepQ T c.b H2 (Pp c own) x d := RepQ.grow g1 q1
  have oth : ERes T W .fz c own σ H2 Q (opt (g d e) xb) → wpAny (model X.prog X.w) X.A (binaryOp .Mult v u) (EP X pins σ Q) X.xe s2 := fun r3 => ho pins s2 σ H2 x y v u Q I2 rx ry (hg.fin ⟨c, own, Γ, xb, d, e, H2, st, Grow.refl, qd, q2, r3⟩)
  cases hk : mulK cs d e with
  | n => rw [hk] at r2; exact oth r2
  | l mf =>
    rw [hk] at r2
    obtain ⟨cn, fs, i, mr, rfl, rfl, hl⟩ := mulK_l hk
    obtain ⟨C, fA, fR, fd, fdr, ps, psr, k, hC, F, Fr, hr, hs, hsr, hf, hfr, hb2, hbr, hsf, hu1, hu2⟩ := (hcs cn _ _ hl).ex
    have qd' := qd
    obtain ⟨a0, C1, dx, gs, rfl, e2, e3, e4⟩ := qd.obj
    rw [hC] at e2
    cases e2
    cases rx
    have ey := RepQ.int q2
    subst ey
    obtain ⟨t, rfl⟩ := ry
    obtain ⟨mA, J, _⟩ := ins_get I2.hok e3
    obtain ⟨od, J, _⟩ := J.look
    obtain ⟨mm, hF⟩ := I2.fr
    have ar : Paired (RepA T c.b H2 (Pp c own)) [.ref a0, .int i] [.bo (.obj cn fs), .bo (.int i)] := .cons qd' (.cons (Or.inl (.int i)) .nil)
    exact PySem.W.binopI_K (op := .Mult) hF I2.ok.mod.kin J hsf hs hsr hf PySem.F.fills_int_mul PySem.F.slot_int_rmul.lookup hu1 (back_of (run_fnSD (us := [.ref a0, .int i t]) (vs := [.ref a0, .int i]) (dvs := []) (ds := []) F hr hb2 .nil (passAt tk σ) I2 (.cons rfl (.cons ⟨t, rfl⟩ .nil)) (call_at st ar rfl r2)))
  | r mr =>
    rw [hk] at r2
    obtain ⟨cn, fs, i, mf, rfl, rfl, hl⟩ := mulK_r hk
    obtain ⟨C, fA, fR, fd, fdr, ps, psr, k, hC, F, Fr, hr, hs, hsr, hf, hfr, hb2, hbr, hsf, hu1, hu2⟩ := (hcs cn _ _ hl).ex
    have q2' : RepQ T c.b H2 (Pp c own) y (.obj cn fs) := q2
    obtain ⟨a0, C1, dx, gs, rfl, e2, e3, e4⟩ := q2'.obj
    rw [hC] at e2
    cases e2
    cases ry
    have ex := qd.int
    subst ex
    obtain ⟨t, rfl⟩ := rx
    obtain ⟨mA, J0, _⟩ := ins_get I2.hok e3
    obtain ⟨od, J, _⟩ := J0.look
    obtain ⟨mm, hF⟩ := I2.fr
    have hx0 : s2.heap.get? a0 = some (PySem.W.instObj C dx) := (show ObjOk X.prog X.w H2 s2.heap a0 (.ins C dx gs) from I2.hok a0 _ e3).2.2.2.1
    have ar : Paired (RepA T c.b H2 (Pp c own)) [.ref a0, .int i] [.bo (.obj cn fs), .bo (.int i)] := .cons q2' (.cons (Or.inl (.int i)) .nil)
    exact PySem.W.rmul_K hF I2.ok.mod.kin hx0 J hsf hs hsr hfr hu2 (back_of (run_fnSD (us := [.ref a0, .int i t]) (vs := [.ref a0, .int i]) (dvs := []) (ds := []) Fr hr hbr .nil (passAt tk σ) I2 (.cons rfl (.cons ⟨t, rfl⟩ .nil)) (call_at st ar rfl r2)))
/-! ### x op= e -/
def inK (K : PySem.W.Frag) (C : Addr) (nm : String) : Prop := ∀ (M : Model) (h : Heap), K.In h → PySem.W.Looks M h (fillsInplaceSlot (.ref C) nm (nm == "add")) false
structure AugOk (X : Cx) (T : Tb) (op : Operator) (cn : Str) (mf : List Ar → M D) : Prop where
  o : OwnOk X T (PySem.dunder op.info.2) cn mf
  i : ∀ C, T.cls cn = some C → ∀ (M : Model) (h : Heap), X.K.In h → PySem.W.Looks M h (fillsInplaceSlot (.ref C) op.info.2 (op == .Add)) false
def sAugO (i : Nat) (cs : List (Str × (List Ar → M D))) (g : D → D → Option D) (fe : EC) : SC := fun Γ x => match eVarT i Γ x with
  | .ok d _ => sE fe (fun y Γ x => match (match ownM cs d y with | some mf => mf [.bo d, .bo y] | none => opt (g d y)) x with
    | .ok z x' => .nx (Γ.set i (.sh z)) x'
    | .er e x' => .er e Γ x'
    | .no => .no) Γ x
  | _ => .no
theorem ps_daug {op : Operator} {i : Nat} {z : Str} {ri : TIp} {g : D → D → Option D} {pos' : Pos} (hN : X.N.Nodup) (hi : X.N[i]? = some z) (hx : Loc X.env.scope z) (tk : Takes X W) (hcs : ∀ cn mf, cs.lookup cn = some mf → AugOk X T op cn mf) (ho : PIp X op ri) (hg : OpD T ri g) (he : PE X e (E T W .tr fe)) (hf : X.fn z = true ∨ X.env.scope.names.lookup z = some .local := by first | exact .inl rfl | exact .inr rfl | assumption) :
    PS X (.AugAssign (.Name z pos') op e pos) (SS T W (sAugO i cs g fe)) := by
  refine ⟨fun pins s σ H De I ⟨c, own, Γ, xb, st, r⟩ => ?_⟩
  have key : ∃ v d, σ[i]? = some (some v) ∧ eVarT i Γ xb = .ok d xb ∧ RepQ T c.b H (Pp c own) v d := by
    unfold sAugO at r
    cases hv : eVarT i Γ xb with
    | no => rw [hv] at r; exact r.elim
    | er d x1 => rw [hv] at r; exact r.elim
    | ok d x1 =>
      unfold eVarT at hv
      cases hg : Γ[i]? with
      | none => rw [hg] at hv; cases hv
      | some u =>
        rw [hg] at hv
        have q := st.slot i u hg
        cases u with
        | no => cases hv
        | sh d0 => cases hv; obtain ⟨v, e1, rp⟩ := q; exact ⟨v, d, e1, rfl, .inl rp⟩
        | bo d0 =>
          cases hv
          obtain ⟨v, e1, rp⟩ := q
          refine ⟨v, d, e1, rfl, ?_⟩
          rcases rp with rp | ⟨q, e1, e2, _, e3⟩
          · exact .inl rp
          · exact .inr ⟨q, e1, e2, e3⟩
        | ow d0 => cases hv; obtain ⟨p, e1, e2, rp⟩ := q; exact ⟨_, d, e1, rfl, .inr ⟨p, rfl, st.own_ne e2, rp⟩⟩
  obtain ⟨v, d, e1, hv, qv⟩ := key
  unfold sAugO at r
  rw [hv] at r
  dsimp only at r
  obtain ⟨m, hn, hl⟩ := I.loc
  have vis : Vis X.env.scope z := by rcases hx with k | k; exact .inl k; exact .inr (.inl k)
  obtain ⟨u, ru, l⟩ := hl i z v hi e1 vis
  refine wpAny_AugAssign_Name ?_
  have go : wpAny (model X.prog X.w) X.A (eval e X.env) (fun w s₂ => wpAny (model X.prog X.w) X.A (inplaceOp op u w) (fun r s₃ => wpAny (model X.prog X.w) X.A (storeName X.env z r) (fun _ => SP X pins De .next) X.xe s₃) X.xe s₂) X.xe s := by
    refine thn (he.run pins s σ H _ I ⟨c, own, Γ, xb, st, SRes.bindD (m := .tr) st r⟩) fun w s1 ⟨y, H1, I1, r1, dy, x1, st1, g1, qy, r2⟩ => ?_
    have qd : RepQ T c.b H1 (Pp c own) v d := RepQ.grow g1 qv
    have fin : ∀ {zz : M D}, SRes T W c own H1 De (match zz x1 with
        | .ok z x' => .nx (Γ.set i (.sh z)) x'
        | .er e x' => .er e Γ x'
        | .no => .no) → ERes T W .fz c own σ H1 (fun zv H2 => De.nx (σ.set i (some zv)) H2) (zz x1) := fun {zz} r3 => by
      cases hz : zz x1 with
      | no => rw [hz] at r3; exact r3
      | er d x2 => rw [hz] at r3; exact fun cls dd H' g bx q => r3 cls dd own σ H' (Fz.grow g) (st1.grow g bx) q
      | ok d x2 => rw [hz] at r3; exact fun w H' g bx q => r3 own _ H' (Fz.grow g) ((st1.grow g bx).set i q)
    have sto : ∀ {zr : Value} {s3 : Shared}, EP X pins σ (fun zv H2 => De.nx (σ.set i (some zv)) H2) zr s3 → wpAny (model X.prog X.w) X.A (storeName X.env z zr) (fun _ => SP X pins De .next) X.xe s3 := fun {zr s3} ⟨zv, H2, I2, r2, q2⟩ =>
      store_ok I2 hN hi hx r2 (fun s3 I3 => ⟨_, H2, I3, q2⟩) hf
    cases hz : ownM cs d dy with
    | none =>
      rw [hz] at r2
      refine thn (ho pins s1 σ H1 v y u w _ I1 ru r1 (hg.fin ⟨c, own, Γ, x1, d, dy, H1, st1, Grow.refl, qd, qy, fin (zz := opt (g d dy)) r2⟩)) fun z s2 q => sto q
    | some mf =>
      rw [hz] at r2
      obtain ⟨cn, ds, es, rfl, rfl, hl2⟩ := ownM_some hz
      have O := hcs cn mf hl2
      obtain ⟨p, q, C, dx, dy2, fA, fs, gs, rfl, rfl, h1, h2, h3, h4, h6, h5⟩ := own_call O.o tk st1 I1 ru r1 qd qy (fin (zz := mf [.bo (.obj cn ds), .bo (.obj cn es)]) r2)
      obtain ⟨p', C', dx', fs', ep, hC', hp', _⟩ := qd.obj
      have hCC : T.cls cn = some C := by
        rw [hC']
        cases v with
        | ref v0 =>
          cases ru
          cases ep
          rw [hp'] at h1
          cases h1
          rfl
        | _ => cases ep
      obtain ⟨mA, J, _⟩ := ins_get I1.hok h1
      obtain ⟨mB, J', _⟩ := ins_get I1.hok h2
      obtain ⟨od, J, _⟩ := J.look
      obtain ⟨od', J', _⟩ := J'.look
      obtain ⟨mm, hF⟩ := I1.fr
      exact thn (PySem.W.inop_K I1.kIn J (O.i C hCC _ _ I1.kIn) hF I1.ok.mod.kin J'.type h6 h3 h4 h5) fun z s2 q => sto q
  rcases l with ⟨hk, hm⟩ | ⟨hk, cc, hc, hcell⟩
  · exact wpAny_loadName_local I.ok.kind hk hn hm go
  · rcases hk with hk | hk
    · exact wpAny_loadName_cell I.ok.kind hk hc hcell go
    · rcases hx with k | k
      · have : X.env.scope.names.lookup z = some .free := hk
        rw [k] at this; cases this
      · have : X.env.scope.names.lookup z = some .free := hk
        rw [k] at this; cases this
theorem opd_ipAdd : OpD T (ipI fun i j => i + j) (dInt2 fun i j => some (.int (i + j))) := fun b H P x y dx dy dz Q hP hx hy hz k => by
  cases dx <;> try cases hz
  cases dy <;> cases hz
  rw [hx.int, hy.int]
  exact ⟨_, _, rfl, rfl, k _ H (Same.refl H) (.int _)⟩
theorem opd_ipSub : OpD T (ipI fun i j => i - j) (dInt2 fun i j => some (.int (i - j))) := fun b H P x y dx dy dz Q hP hx hy hz k => by
  cases dx <;> try cases hz
  cases dy <;> cases hz
  rw [hx.int, hy.int]
  exact ⟨_, _, rfl, rfl, k _ H (Same.refl H) (.int _)⟩
end
end DL

namespace DL
open PySem PySem.Spec PyProof.Rows L2
/-! ### tables by class -/
def TabOk {α : Type} (F : Str → α → Prop) (tab : List (Str × α)) : Prop := ∀ cn a, tab.lookup cn = some a → F cn a
theorem TabOk.nil {α : Type} {F : Str → α → Prop} : TabOk F [] := fun cn a h => by cases h
theorem TabOk.cons {α : Type} {F : Str → α → Prop} {c : Str} {a : α} {tab : List (Str × α)} (h : F c a) (t : TabOk F tab) : TabOk F ((c, a) :: tab) := fun cn b e => by
  rw [List.lookup_cons] at e
  by_cases q : cn = c
  · subst q
    rw [beq_self_eq_true] at e
    cases e
    exact h
  · rw [beq_false_of_ne q] at e
    exact t cn b e
/-! ### attributes: by the class of the object -/
inductive AK where
  | fld | prop (mf : List Ar → M D) | xf
def attrD (f : Str) (tab : List (Str × AK)) : D → M D
  | .obj c fs => match tab.lookup c with
    | some .fld => opt (fs.lookup f)
    | some (.prop mf) => noEr (mf [.bo (.obj c fs)])
    | _ => M.no
  | .exc c fs => match tab.lookup c with
    | some .xf => opt (fs.lookup f)
    | _ => M.no
  | _ => M.no
def eAttr (f : Str) (tab : List (Str × AK)) (fo : EC) : EC := fun Γ => bnd (fo Γ) (attrD f tab)
def AttrOk (X : Cx) (T : Tb) (f cn : Str) : AK → Prop
  | .fld => FldOk T cn f
  | .prop mf => ∃ (C pA gA : Addr) (fd : FuncData) (ps : List Str) (k : Nat), T.cls cn = some C ∧ Cls X.K C ∧ PropOf X.K C f pA gA ∧ FnOk X.prog X.w X.K X.mg X.base (L2.CX X.prog X.w) k gA fd ps (spD T 1 mf) ∧ Room (k + 1) X.A ∧ Binds X.K fd ps []
  | .xf => ∀ C, T.cls cn = some C → XfC T.K C ∧ PySem.W.findIn T.K (.ref C) f = some none
section
variable {X : Cx} {T : Tb} {W : WX} {m : Md} {a b e o : Expr} {es : List Expr} {f fa fb fo : EC} {fs : Gm → M (List Ar)} {pos p apos : Pos} {c : Cf} {own : Ow} {Γ : Gm} {x x' : Bx} {σ : L2.St} {H H' : Hp} {Q : VK} {y mn cn : Str} {vs : List V} {as das : List Ar}
theorem pd_attr {f : Str} {tab : List (Str × AK)} (hK : X.K = T.K) (ht : TabOk (AttrOk X T f) tab) (he : PE X o (E T W .tr fo)) (hb : attributeBase o f X.env (eval o X.env) = eval o X.env := by rfl) :
    PE X (.Attribute o f pos) (E T W .fz (eAttr f tab fo)) := by
  refine ⟨fun pins s σ H Q I h => ?_⟩
  refine attr_of hb (thn (he.run pins s σ H _ I (e_then (m' := .tr) h)) fun u s1 ⟨v, H1, I1, rx, c, own, Γ, x, d, st, q, r⟩ => ?_)
  cases d with
  | obj c' fs =>
    unfold attrD at r
    dsimp only at r
    cases hl : tab.lookup c' with
    | none => rw [hl] at r; exact r.elim
    | some a =>
      rw [hl] at r
      have ao := ht c' a hl
      obtain ⟨p, C, dx, gs, rfl, e2, e3, e4⟩ := RepQ.obj q
      obtain rfl : u = Value.ref p := rx
      cases a with
      | fld =>
        dsimp only at r
        cases hf : fs.lookup f with
        | none => rw [hf] at r; exact r.elim
        | some z =>
          rw [hf] at r
          obtain ⟨v', l1, l2⟩ := (e4.look f).2 z hf
          obtain ⟨h1, h2⟩ := ao C e2
          exact getattr_ok I1 e3 (by rw [hK]; exact h1) (by rw [hK]; exact h2) l1 fun u' s2 I2 ru => ⟨v', H1, I2, ru, r v' H1 Grow.refl st.bx l2⟩
      | prop mf =>
        dsimp only at r
        obtain ⟨C', pA, gA, fd, ps, k, hC, hc, hp, F, hr, hbd⟩ := ao
        rw [hC] at e2
        cases e2
        have r2 : ERes T E0' .fz c own σ H1 Q (mf [.bo (.obj c' fs)] x) := by
          unfold noEr at r
          cases hz : mf [.bo (.obj c' fs)] x with
          | ok d x2 => rw [hz] at r; exact r
          | er d x2 => rw [hz] at r; exact r.elim
          | no => rw [hz] at r; exact r
        have ar : Paired (RepA T c.b H1 (Pp c own)) [.ref p] [.bo (.obj c' fs)] := .cons q .nil
        exact getprop_ok I1 e3 hc hp F hr hbd .nil passL (call_at (W := E0') st ar rfl r2)
      | xf => exact r.elim
  | exc c' fs =>
    unfold attrD at r
    dsimp only at r
    cases hl : tab.lookup c' with
    | none => rw [hl] at r; exact r.elim
    | some a =>
      rw [hl] at r
      have ao := ht c' a hl
      cases a with
      | fld => exact r.elim
      | prop mf => exact r.elim
      | xf =>
        dsimp only at r
        cases hl2 : fs.lookup f with
        | none => rw [hl2] at r; exact r.elim
        | some z =>
          rw [hl2] at r
          rcases q with q | ⟨p, _, _, q⟩
          · cases q with
            | @exc p C dd _ gs _ h1 h2 h3 h4 h5 h6 =>
              obtain ⟨Z, hno⟩ := ao C h3
              obtain ⟨v', l1, l2⟩ := (h6.look f).2 z hl2
              cases rx
              have xo : ObjOk X.prog X.w H1 s1.heap p (.ext fun h => ∃ (oe : Obj) (vs : Array Value), h.get? p = some oe ∧ Zc (.ref C) (some dd) oe ∧ oe.data = .fields vs) := I1.hok p _ h4
              obtain ⟨⟨oe, vs, ho, hz, hd⟩, _, _⟩ := xo
              obtain ⟨mA, hns, hr⟩ := (show ObjOk X.prog X.w H1 s1.heap dd (.xd gs) from I1.hok dd _ h5)
              obtain ⟨od, hod, hlk⟩ := lookIn_ns hns
              obtain ⟨uu, hu, ru⟩ := RelO.some_of (v := v') (o := mA f) (by rw [← l1]; exact hr f)
              have J : PySem.W.InstAt s1.heap p oe C (some od) := ⟨ho, hz.1, by unfold PySem.W.notCls; rw [hd] <;> rfl, by rw [hz.2]; exact hod⟩
              have kin := I1.kIn
              rw [hK] at kin
              exact HandSPX.exc_get kin J Z.ga Z.gg Z.exC (PySem.W.findObj_own Z.hdC hno rfl (by rw [hlk, hu])) (handed_of ru) ⟨v', H1, I1.tok _, ru, r v' H1 Grow.refl st.bx l2⟩
          · exact q.elim
  | _ => exact r.elim
/-! ### methods: by the class of the object -/
structure MK where
  n : Nat
  mf : List Ar → M D
  das : List Ar
def MethOk (X : Cx) (T : Tb) (mn cn : Str) (k : MK) : Prop := ∃ (C fA : Addr) (fd : FuncData) (ps : List Str) (d : Nat) (ds : List Value) (dvs : List V), T.cls cn = some C ∧ Cls X.K C ∧ Meth X.K C mn fA ∧ FnOk X.prog X.w X.K X.mg X.base (L2.CX X.prog X.w) d fA fd ps (spD T k.n k.mf) ∧ Room d X.A ∧ Binds X.K fd ps ds ∧ Vals dvs ds ∧ Dfl T dvs k.das
def selM (mn : Str) (tab : List (Str × MK)) : D → Option MK
  | .obj c fs => if fs.lookup mn = none then tab.lookup c else none
  | _ => none
def eMethU (mn : Str) (tab : List (Str × MK)) (fo : EC) (fs : Gm → M (List Ar)) : EC := fun Γ => bnd (fo Γ) fun d => bnd (opt (selM mn tab d)) fun k => bnd (fs Γ) fun as => lenOk k.n k.mf (.bo d :: (as ++ k.das))
theorem selM_some {tab : List (Str × MK)} {d : D} {k : MK} (h : selM mn tab d = some k) : ∃ c fs, d = .obj c fs ∧ fs.lookup mn = none ∧ tab.lookup c = some k := by
  cases d with
  | obj c fs =>
    have h' : (if fs.lookup mn = none then tab.lookup c else none) = some k := h
    by_cases e : fs.lookup mn = none
    · rw [if_pos e] at h'; exact ⟨c, fs, rfl, e, h'⟩
    · rw [if_neg e] at h'; cases h'
  | _ => cases h
theorem methU_at {k : MK} {gs0 : List (Str × D)} {dvs : List V} {v : V} (hda : Dfl T dvs k.das) (s : Sat T c own Γ x σ H) (q : RepQ T c.b H (Pp c own) v (.obj cn gs0)) (r : ERes T W .fz c own σ H Q (bnd (fs Γ) (fun as => lenOk k.n k.mf (.bo (.obj cn gs0) :: (as ++ k.das))) x)) :
    EA T W fs σ H fun vs H2 => spD T k.n k.mf (v :: (vs ++ dvs)) H2 Q (WE W σ) := by
  refine ⟨c, own, Γ, x, s, ?_⟩
  cases hf : fs Γ x with
  | ok ds x1 =>
    rw [bnd_ok hf] at r
    refine fun vs H1 g bx ar => ?_
    replace r := r.at g
    unfold lenOk at r
    by_cases hn : (Ar.bo (.obj cn gs0) :: (ds ++ k.das)).length = k.n
    · rw [if_pos hn] at r
      have q1 : RepA T c.b H1 (Pp c own) v (.bo (.obj cn gs0)) := RepQ.grow g q
      exact call_at (s.grow g bx) (.cons q1 (paired_append ar (hda _ _ _))) hn r
    · rw [if_neg hn] at r
      exact r.elim
  | er d x1 => rw [bnd_er hf] at r; exact r
  | no => rw [bnd_no hf] at r; exact r
theorem pd_methU {tab : List (Str × MK)} {pl : Sem Bool} (ht : TabOk (MethOk X T mn) tab) (tk : Takes X W) (he : PE X o (E T W .tr fo)) (ha : PA X (e :: es) (EA T W fs))
    (hst : starEach (e :: es) X.env = (false, eval e X.env) :: starEach es X.env := by rfl) (hpl : (backTo pos (starEach es X.env)).any (·.1) = false := by rfl)
    (hev : eval (.Call (.Attribute o mn apos) (e :: es) [] pos) X.env = (do
      let ov ← eval o X.env
      standAt apos.atName
      let (f, first) ← holding [ov] (getMethod ov mn pl)
      callWith pos f first (backTo pos (starEach (e :: es) X.env)) (backToKw pos (keywordEach [] X.env))) := by rfl) :
    PE X (.Call (.Attribute o mn apos) (e :: es) [] pos) (E T W .fz (eMethU mn tab fo fs)) := by
  refine ⟨fun pins s σ H Q I h => ?_⟩
  obtain ⟨c, own, Γ, x0, st0, r0⟩ := h
  refine PySem.W.methodCall_KW (pl := pl) (thn (he.run pins s σ H _ I ⟨c, own, Γ, x0, st0, res_bind (m' := .tr) st0 r0⟩) fun u s1 ⟨v, H1, I1, rx, d, x, st, _, q, r⟩ => ?_) hev
  cases hd : selM mn tab d with
  | none => rw [bnd_no (by rw [hd]; rfl)] at r; exact r.elim
  | some k =>
    rw [bnd_ok (a := k) (y := x) (by rw [hd]; rfl)] at r
    obtain ⟨c', gs0, rfl, hl, hk⟩ := selM_some hd
    obtain ⟨C, fA, fd, ps, dd, ds, dvs, hC, hc, hm, F, hr, hb, hdv, hda⟩ := ht c' k hk
    have q' : RepQ T c.b H1 (Pp c own) v (.obj c' gs0) := q
    obtain ⟨p, C', dx, gs, rfl, e2, e3, e4⟩ := RepQ.obj q'
    obtain rfl : u = Value.ref p := rx
    rw [hC] at e2
    cases e2
    refine getmeth_ok I1 e3 hc hm ((e4.look mn).1 hl) ?_
    refine PySem.W.callWith_K (first := [.ref p]) (h₀ := X.base) I.ok.mod.kin hm.kp (thn (ha.run pos pins s1 σ H1 _ I1 (methU_at hda st q' r)) fun us s2 ⟨vs, H2, I2, r2, q2⟩ => ⟨I2.kIn, ?_⟩) hst hpl
    exact run_fnSD (us := .ref p :: us) (vs := .ref p :: vs) F hr hb hdv (passAt tk σ) I2 (.cons rfl r2) q2
theorem pd_methU0 {tab : List (Str × MK)} {pl : Sem Bool} (ht : TabOk (MethOk X T mn) tab) (tk : Takes X W) (he : PE X o (E T W .tr fo))
    (hev : eval (.Call (.Attribute o mn apos) [] [] pos) X.env = (do
      let ov ← eval o X.env
      standAt apos.atName
      let (f, first) ← holding [ov] (getMethod ov mn pl)
      callWith pos f first (backTo pos (starEach [] X.env)) (backToKw pos (keywordEach [] X.env))) := by rfl) :
    PE X (.Call (.Attribute o mn apos) [] [] pos) (E T W .fz (eMethU mn tab fo aNil)) := by
  refine ⟨fun pins s σ H Q I h => ?_⟩
  obtain ⟨c, own, Γ, x0, st0, r0⟩ := h
  refine PySem.W.methodCall_KW (pl := pl) (thn (he.run pins s σ H _ I ⟨c, own, Γ, x0, st0, res_bind (m' := .tr) st0 r0⟩) fun u s1 ⟨v, H1, I1, rx, d, x, st, _, q, r⟩ => ?_) hev
  cases hd : selM mn tab d with
  | none => rw [bnd_no (by rw [hd]; rfl)] at r; exact r.elim
  | some k =>
    rw [bnd_ok (a := k) (y := x) (by rw [hd]; rfl)] at r
    obtain ⟨c', gs0, rfl, hl, hk⟩ := selM_some hd
    obtain ⟨C, fA, fd, ps, dd, ds, dvs, hC, hc, hm, F, hr, hb, hdv, hda⟩ := ht c' k hk
    have q' : RepQ T c.b H1 (Pp c own) v (.obj c' gs0) := q
    obtain ⟨p, C', dx, gs, rfl, e2, e3, e4⟩ := RepQ.obj q'
    obtain rfl : u = Value.ref p := rx
    rw [hC] at e2
    cases e2
    refine getmeth_ok I1 e3 hc hm ((e4.look mn).1 hl) ?_
    exact PySem.W.callWith_K0 (first := [.ref p]) I1.kIn hm.kp (run_fnSD (us := [.ref p]) (vs := [.ref p]) F hr hb hdv (passAt tk σ) I1 (.cons rfl .nil) (ea_nil (methU_at hda st q' r)))
end
end DL

namespace DL
open PySem PySem.Spec PyProof.Rows L2
/-! ### where a parameter's value comes from -/
inductive Src where
  | p (i : Nat) | k (i : Nat) | d (i : Nat)
def Src.get {α : Type} (us ws ds : List α) : Src → Option α
  | .p i => us[i]?
  | .k i => ws[i]?
  | .d i => ds[i]?
def srcs {α : Type} (sel : List Src) (us ws ds : List α) : List α := sel.filterMap (Src.get us ws ds)
theorem paired_opt {α β : Type} {F : α → β → Prop} : ∀ {l : List α} {k : List β}, Paired F l k → ∀ i : Nat, (l[i]? = none ∧ k[i]? = none) ∨ ∃ a b, l[i]? = some a ∧ k[i]? = some b ∧ F a b
  | _, _, .nil, i => .inl ⟨by simp, by simp⟩
  | _, _, .cons h t, 0 => .inr ⟨_, _, rfl, rfl, h⟩
  | _, _, .cons h t, i + 1 => by
    rcases paired_opt t i with ⟨h1, h2⟩ | ⟨a, b, h1, h2, h3⟩
    · exact .inl ⟨by simpa using h1, by simpa using h2⟩
    · exact .inr ⟨a, b, by simpa using h1, by simpa using h2, h3⟩
theorem paired_srcs {α β : Type} {F : α → β → Prop} {us ws ds : List α} {us' ws' ds' : List β} (h1 : Paired F us us') (h2 : Paired F ws ws') (h3 : Paired F ds ds') : ∀ sel : List Src, Paired F (srcs sel us ws ds) (srcs sel us' ws' ds')
  | [] => .nil
  | s :: sel => by
    have one : (s.get us ws ds = none ∧ s.get us' ws' ds' = none) ∨ ∃ a b, s.get us ws ds = some a ∧ s.get us' ws' ds' = some b ∧ F a b := by
      cases s with
      | p i => exact paired_opt h1 i
      | k i => exact paired_opt h2 i
      | d i => exact paired_opt h3 i
    unfold srcs
    rcases one with ⟨e1, e2⟩ | ⟨a, b, e1, e2, e3⟩
    · rw [List.filterMap_cons_none e1, List.filterMap_cons_none e2]
      exact paired_srcs h1 h2 h3 sel
    · rw [List.filterMap_cons_some e1, List.filterMap_cons_some e2]
      exact .cons e3 (paired_srcs h1 h2 h3 sel)
/-- how a call binds: n values by place, those of the keywords ks, defaults dvs -/
def KBg (K : PySem.W.Frag) (fd : FuncData) (ps : List Str) (n : Nat) (ks : List Str) (sel : List Src) (dvs : List V) : Prop :=
  ∃ ds : List Value, Vals dvs ds ∧ ∀ (s : Shared) (us ws : List Value), K.In s.heap → us.length = n → ws.length = ks.length → BindsTo s fd ⟨us, ks.zip ws⟩ (ps.zip (srcs sel us ws ds))
section
variable {K : PySem.W.Frag} {x qual : Str} {params : Arguments} {body : List Stmt} {scope : Scope} {dvs : List V} {kws : List (Str × V)} {f : Addr} {fd : FuncData} {ps : List Str}
theorem _root_.L2.FunD.g0 (F : FunD K x qual params body scope [] kws f fd) (n : Nat) (ks : List Str) (sel : List Src)
    (h : ∀ (kV doc pm : Value) (an : Option Addr) (cdv ct : Value) (us ws : List Value), us.length = n → ws.length = ks.length → bindArgs (PySem.W.fnOf x qual params body scope .none kV doc pm an cdv ct) ⟨us, ks.zip ws⟩ = pure (ps.zip (srcs sel us ws []))) : KBg K fd ps n ks sel [] := by
  obtain ⟨oc, od, dV, kV, doc, pm, an, cdv, ct, osl, rfl, lk, hcd, hD, hK⟩ := F.ex
  rcases hD with ⟨_, rfl⟩ | ⟨e, _⟩
  · exact ⟨[], .nil, fun s us ws X l1 l2 => .of_eq (h kV doc pm an cdv ct us ws l1 l2)⟩
  · exact absurd rfl e
theorem _root_.L2.FunD.g1 (F : FunD K x qual params body scope dvs kws f fd) (n : Nat) (ks : List Str) (sel : List Src) (hd : dvs ≠ [])
    (h : ∀ (T : Addr) (kV doc pm : Value) (an : Option Addr) (cdv ct : Value) (us its ws : List Value), us.length = n → its.length = dvs.length → ws.length = ks.length →
      ∃ k, bindArgs (PySem.W.fnOf x qual params body scope (.ref T) kV doc pm an cdv ct) ⟨us, ks.zip ws⟩ = seqItems? (.ref T) >>= k ∧ k (some its.toArray) = pure (ps.zip (srcs sel us ws its))) : KBg K fd ps n ks sel dvs := by
  obtain ⟨oc, od, dV, kV, doc, pm, an, cdv, ct, osl, rfl, lk, hcd, hD, hK⟩ := F.ex
  rcases hD with ⟨e, _⟩ | ⟨_, T, o, its, m, rfl, lT, oT, rT⟩
  · exact absurd e hd
  · refine ⟨its, rT, fun s us ws X l1 l2 => ?_⟩
    obtain ⟨k, e1, e2⟩ := h T kV doc pm an cdv ct us its ws l1 rT.length.symm l2
    refine BindsTo.of_looks fun M => ?_
    rw [e1]
    exact looks_items X lT oT (.of_pure e2)
theorem _root_.L2.FunD.g2 (F : FunD K x qual params body scope [] kws f fd) (n : Nat) (ks : List Str) (sel : List Src) (hk : kws ≠ [])
    (h : ∀ (D : Addr) (doc pm : Value) (an : Option Addr) (cdv ct : Value) (us mv ws : List Value), us.length = n → mv.length = kws.length → ws.length = ks.length →
      KwChain D ((kws.map (·.1)).zip mv) (bindArgs (PySem.W.fnOf x qual params body scope .none (.ref D) doc pm an cdv ct) ⟨us, ks.zip ws⟩) (ps.zip (srcs sel us ws mv))) : KBg K fd ps n ks sel (kws.map (·.2)) := by
  obtain ⟨oc, od, dV, kV, doc, pm, an, cdv, ct, osl, rfl, lk, hcd, hD, hK⟩ := F.ex
  rcases hD with ⟨_, rfl⟩ | ⟨e, _⟩
  · rcases hK with e | ⟨D, rfl, hq⟩
    · exact absurd e hk
    · obtain ⟨mv, hl, rk, hks⟩ := kwd_vals hq
      exact ⟨mv, rk, fun s us ws X l1 l2 => BindsTo.of_looks fun M => KwChain.looks X hks (h D doc pm an cdv ct us mv ws l1 hl l2)⟩
  · exact absurd rfl e
end
/-! ### calls, of any form -/
def eCallG (mf : List Ar → M D) (n m : Nat) (sel : List Src) (das : List Ar) (fs gs : Gm → M (List Ar)) : EC := fun Γ => bnd (fs Γ) fun as => bnd (gs Γ) fun bs => if as.length = n ∧ bs.length = m then mf (srcs sel as bs das) else M.no
section
variable {X : Cx} {T : Tb} {W : WX} {m : Md} {a b e o : Expr} {es : List Expr} {f fa fb fo : EC} {fs gs : Gm → M (List Ar)} {pos p apos kpos : Pos} {c : Cf} {own : Ow} {Γ : Gm} {x x' : Bx} {σ : L2.St} {H H' : Hp} {Q : VK} {y mn cn : Str} {vs : List V} {as das : List Ar} {kws : List Keyword} {nm : Option Str}
theorem pk_dnil : PK X [] (EA T W aNil) := PK.mono pk_nil fun σ H Q ⟨c, own, Γ, x, s, r⟩ => r [] H Grow.refl s.bx .nil
theorem pk_dsh (ha : PE X e (E T W .fz f)) (hr : PK X kws (EA T W fs)) : PK X (⟨nm, e, kpos⟩ :: kws) (EA T W (aSh f fs)) :=
  PK.mono (pk_cons ha hr) fun σ H Q ⟨c, own, Γ, x, s, r⟩ => ⟨c, own, Γ, x, s, by
    cases hf : f Γ x with
    | ok d x1 =>
      rw [show aSh f fs Γ x = _ from bnd_ok hf] at r
      refine fun v H1 g bx q => ⟨c, own, Γ, x1, s.grow g bx, ?_⟩
      replace r := r.at g
      cases hg : fs Γ x1 with
      | ok ds x2 =>
        rw [bnd_ok hg] at r
        refine fun vs H2 g2 bx2 q2 => r (v :: vs) H2 g2 bx2 (.cons (?_ : RepA T c.b H2 (Pp c own) v (.sh d)) q2)
        exact Rep.grow g2 q
      | er d x2 => rw [bnd_er hg] at r; exact r
      | no => rw [bnd_no hg] at r; exact r
    | er d x1 => rw [show aSh f fs Γ x = _ from bnd_er hf] at r; exact r
    | no => rw [show aSh f fs Γ x = _ from bnd_no hf] at r; exact r⟩
/-- what the arguments' codes say, both lists -/
theorem argsG {mf : List Ar → M D} {n k : Nat} {sel : List Src} (s : Sat T c own Γ x σ H) (r : ERes T W .fz c own σ H Q (bnd (fs Γ) (fun as => bnd (gs Γ) fun bs => if as.length = n ∧ bs.length = k then mf (srcs sel as bs das) else M.no) x)) :
    ARes T W c own σ H (fun vs H1 => EA T W gs σ H1 fun zs H2 => vs.length = n ∧ zs.length = k ∧ ∃ as bs x2, Sat T c own Γ x2 σ H2 ∧ Paired (RepA T c.b H2 (Pp c own)) vs as ∧ Paired (RepA T c.b H2 (Pp c own)) zs bs ∧ ERes T W .fz c own σ H2 Q (mf (srcs sel as bs das) x2)) (fs Γ x) := by
  cases hf : fs Γ x with
  | no => rw [bnd_no hf] at r; exact r
  | er d x1 => rw [bnd_er hf] at r; exact r
  | ok as x1 =>
    rw [bnd_ok hf] at r
    refine fun vs H1 g bx ar => ⟨c, own, Γ, x1, s.grow g bx, ?_⟩
    replace r := r.at g
    cases hg : gs Γ x1 with
    | no => rw [bnd_no hg] at r; exact r
    | er d x2 => rw [bnd_er hg] at r; exact r
    | ok bs x2 =>
      rw [bnd_ok hg] at r
      refine fun zs H2 g2 bx2 br => ?_
      by_cases hl : as.length = n ∧ bs.length = k
      · rw [if_pos hl] at r
        exact ⟨by rw [ar.length]; exact hl.1, by rw [br.length]; exact hl.2, as, bs, x2, (s.grow g bx).grow g2 bx2, RepAs.grow g2 ar, br, r.at g2⟩
      · rw [if_neg hl] at r
        exact r.elim
theorem run_fnG {CX : CXT} {k n : Nat} {fA : Addr} {fd : FuncData} {ps ks : List Str} {sel : List Src} {dvs zs : List V} {sp : Sp} {E : XK} {pins : List (Addr × Obj)} {s : Shared} {us ws : List Value} (F : FnOk X.prog X.w X.K X.mg X.base CX k fA fd ps sp) (hr : Room k X.A) (hb : KBg X.K fd ps n ks sel dvs) (hx : PassesAt CX X σ E)
    (I : Inv X pins σ H s) (r : Vals vs us) (rz : Vals zs ws) (l1 : vs.length = n) (l2 : zs.length = ks.length) (h : sp (srcs sel vs zs dvs) H Q E) : wpAny (model X.prog X.w) X.A (call (.ref fA) us (ks.zip ws)) (EP X pins σ Q) X.xe s := by
  obtain ⟨ds, rd, hb⟩ := hb
  have r2 : Vals (srcs sel vs zs dvs) (srcs sel us ws ds) := paired_srcs r rz rd sel
  refine wpAny_call (codeAny_mono (F.run X.A X.stack s H ⟨us, ks.zip ws⟩ (srcs sel us ws ds) _ Q E hr I.env0 (hb s us ws I.kIn (r.length.symm.trans l1) (rz.length.symm.trans l2)) r2 h) fun r s' hq => ?_)
  cases r with
  | error e => exact hx pins H s e s' I hq
  | ok fl =>
    cases fl with
    | ret u => exact I.after hq
    | next => exact False.elim hq
    | brk => exact False.elim hq
    | cont => exact False.elim hq
theorem run_makeG {CX : CXT} {k n : Nat} {C fA : Addr} {fd : FuncData} {ps ks : List Str} {sel : List Src} {dvs zs : List V} {sp : Sp} {E : XK} {pins : List (Addr × Obj)} {s : Shared} {us ws : List Value} (M : Mk X.K C fA) (F : FnOk X.prog X.w X.K X.mg X.base CX k fA fd ps sp) (hr : Room (k + 1) X.A) (hb : KBg X.K fd ps (n + 1) ks sel dvs)
    (hx : PassesAt CX X σ E) (I : Inv X pins σ H s) (r : Vals vs us) (rz : Vals zs ws) (l1 : vs.length = n) (l2 : zs.length = ks.length)
    (h : ∀ x dx, H x = none → H dx = none → dx ≠ x → sp (srcs sel (.ref x :: vs) zs dvs) (upd (upd H dx (.own x)) x (.ins C dx [])) (fun v H2 => v = .non ∧ Q (.ref x) H2) E) :
    wpAny (model X.prog X.w) X.A (call (.ref C) us (ks.zip ws)) (EP X pins σ Q) X.xe s := by
  have hq := h (s.heap.objs.size + 1) s.heap.objs.size (I.hok.fresh (Nat.le_succ _)) (I.hok.fresh (Nat.le_refl _)) (Nat.ne_of_lt (Nat.lt_succ_self _))
  have I2 := Inv.made (C := C) I
  obtain ⟨ds, rd, hb⟩ := hb
  have r1 : Vals (V.ref (s.heap.objs.size + 1) :: vs) (Value.ref (s.heap.objs.size + 1) :: us) := .cons rfl r
  have r2 : Vals (srcs sel (V.ref (s.heap.objs.size + 1) :: vs) zs dvs) (srcs sel (Value.ref (s.heap.objs.size + 1) :: us) ws ds) := paired_srcs r1 rz rd sel
  have e1 : (Value.ref (s.heap.objs.size + 1) :: us).length = n + 1 := r1.length.symm.trans (congrArg Nat.succ l1)
  have e2 : ws.length = ks.length := rz.length.symm.trans l2
  refine wpAny_call (make_map (f := fA) I.kIn M.makes M.init (beq_iff_eq.mp M.fn) (codeAny_mono (F.run _ X.stack _ _ ⟨Value.ref (s.heap.objs.size + 1) :: us, ks.zip ws⟩ (srcs sel (Value.ref (s.heap.objs.size + 1) :: us) ws ds) _ _ E (hr.make C us (ks.zip ws))
    (I2.env0.make C us (ks.zip ws)) (hb _ (Value.ref (s.heap.objs.size + 1) :: us) ws I2.kIn e1 e2) r2 hq) fun r s' hq' => ?_))
  cases r with
  | error e => exact hx pins _ _ e s' I2 hq'
  | ok fl =>
    cases fl with
    | ret u =>
      obtain ⟨v, H', I3, rv, ev, q3⟩ := I2.after hq'
      subst ev
      exact ⟨rv, ⟨V.ref (s.heap.objs.size + 1), H', I3, rfl, q3⟩⟩
    | next => exact False.elim hq'
    | brk => exact False.elim hq'
    | cont => exact False.elim hq'
/-- what the text says of a def: k deep, N parameters -/
structure FnG (X : Cx) (T : Tb) (y : Str) (N : Nat) (mf : List Ar → M D) (n : Nat) (ks : List Str) (sel : List Src) (das : List Ar) : Prop where
  ex : ∃ (k : Nat) (fA : Addr) (fd : FuncData) (ps : List Str) (dvs : List V), FnOk X.prog X.w X.K X.mg X.base (L2.CX X.prog X.w) k fA fd ps (spD T N mf) ∧ Room k X.A ∧ X.mg y = some (.ref fA) ∧ PySem.W.keepIn X.K (.ref fA) = true ∧ KBg X.K fd ps n ks sel dvs ∧ Dfl T dvs das
theorem pd_callG {n N : Nat} {mf : List Ar → M D} {ks : List Str} {sel : List Src} (G : FnG X T y N mf n ks sel das) (hg : Gl X y) (tk : Takes X W) (ha : PA X (e :: es) (EA T W fs)) (hkw : PK X kws (EA T W gs))
    (hall : (backToKw pos (keywordEach kws X.env)).all (·.1.isSome) = true := by rfl) (hks : (backToKw pos (keywordEach kws X.env)).filterMap (·.1) = ks := by rfl)
    (hdb : (y == ("__debug__" : Str)) = false := by decide) (he : starEach (e :: es) X.env = (false, eval e X.env) :: starEach es X.env := by rfl)
    (hpl : ((backTo pos (starEach (e :: es) X.env)).any (·.1) || (backToKw pos (keywordEach kws X.env)).any (·.1.isNone)) = false := by rfl) :
    PE X (.Call (.Name y p) (e :: es) kws pos) (E T W .fz (eCallG (lenOk N mf) n ks.length sel das fs gs)) := by
  refine ⟨fun pins s σ H Q I h => ?_⟩
  obtain ⟨c, own, Γ, x, st, r⟩ := h
  obtain ⟨k, fA, fd, ps, dvs, F, hr, hm, hk, hb, hda⟩ := G.ex
  refine wpAny_Call_Name_kw (ld_glob I hg hm ?_ hdb)
  refine PySem.W.callWith_KW (h₀ := X.base) I.ok.mod.kin hk hall (thn (ha.run pos pins s σ H _ I ⟨c, own, Γ, x, st, argsG st r⟩) fun us s1 ⟨vs, H1, I1, r1, q⟩ => ?_) hpl he
  refine thn (hkw.run pos pins s1 σ H1 _ I1 q) fun ws s2 ⟨zs, H2, I2, rz, l1, l2, as, bs, x2, st2, ar, br, r2⟩ => ⟨I2.kIn, ?_⟩
  rw [hks]
  have ar2 := paired_srcs ar br (hda c.b H2 (Pp c own)) sel
  unfold lenOk at r2
  by_cases hl : (srcs sel as bs das).length = N
  · rw [if_pos hl] at r2
    exact run_fnG F hr hb (passAt tk σ) I2 r1 rz l1 l2 (call_at st2 ar2 hl r2)
  · rw [if_neg hl] at r2
    exact r2.elim
theorem pd_callG0 {n N : Nat} {mf : List Ar → M D} {ks : List Str} {sel : List Src} (G : FnG X T y N mf n ks sel das) (hg : Gl X y) (tk : Takes X W) (hkw : PK X kws (EA T W gs))
    (hall : (backToKw pos (keywordEach kws X.env)).all (·.1.isSome) = true := by rfl) (hks : (backToKw pos (keywordEach kws X.env)).filterMap (·.1) = ks := by rfl)
    (hdb : (y == ("__debug__" : Str)) = false := by decide)
    (hpl : ((backTo pos (starEach [] X.env)).any (·.1) || (backToKw pos (keywordEach kws X.env)).any (·.1.isNone)) = false := by rfl) :
    PE X (.Call (.Name y p) [] kws pos) (E T W .fz (eCallG (lenOk N mf) n ks.length sel das aNil gs)) := by
  refine ⟨fun pins s σ H Q I h => ?_⟩
  obtain ⟨c, own, Γ, x, st, r⟩ := h
  obtain ⟨k, fA, fd, ps, dvs, F, hr, hm, hk, hb, hda⟩ := G.ex
  refine wpAny_Call_Name_kw (ld_glob I hg hm ?_ hdb)
  have q := argsG st r [] H Grow.refl st.bx .nil
  refine PySem.W.callWith_KW0 (h₀ := X.base) I.ok.mod.kin hk hall ?_ hpl
  refine thn (hkw.run pos pins s σ H _ I q) fun ws s2 ⟨zs, H2, I2, rz, l1, l2, as, bs, x2, st2, ar, br, r2⟩ => ⟨I2.kIn, ?_⟩
  rw [hks]
  have ar2 := paired_srcs ar br (hda c.b H2 (Pp c own)) sel
  unfold lenOk at r2
  by_cases hl : (srcs sel as bs das).length = N
  · rw [if_pos hl] at r2
    exact run_fnG (us := []) F hr hb (passAt tk σ) I2 .nil rz l1 l2 (call_at st2 ar2 hl r2)
  · rw [if_neg hl] at r2
    exact r2.elim
/-- a class that may be made: its __init__ has N parameters behind self -/
structure MkG (X : Cx) (T : Tb) (y cn : Str) (N L : Nat) (g : SC) (n : Nat) (ks : List Str) (sel : List Src) (das : List Ar) : Prop where
  ex : ∃ (k : Nat) (C fA : Addr) (fd : FuncData) (ps : List Str) (dvs : List V), T.cls cn = some C ∧ Mk X.K C fA ∧ FnOk X.prog X.w X.K X.mg X.base (L2.CX X.prog X.w) k fA fd ps (spI T cn N (mInit L cn g)) ∧ Room (k + 1) X.A ∧ X.mg y = some (.ref C) ∧ KBg X.K fd ps (n + 1) ks (.p 0 :: sel.map fun | .p i => .p (i + 1) | s => s) dvs ∧ Dfl T dvs das
theorem srcs_self {α : Type} (v : α) (us ws ds : List α) : ∀ sel : List Src, srcs (sel.map fun | .p i => .p (i + 1) | s => s) (v :: us) ws ds = srcs sel us ws ds
  | [] => rfl
  | s :: sel => by
    have ih := srcs_self v us ws ds sel
    unfold srcs at ih ⊢
    rw [List.map_cons]
    have e : Src.get (v :: us) ws ds (match s with | .p i => .p (i + 1) | s => s) = Src.get us ws ds s := by
      cases s with
      | p i => simp [Src.get]
      | k i => rfl
      | d i => rfl
    cases hs : Src.get us ws ds s with
    | none => rw [List.filterMap_cons_none (e.trans hs), List.filterMap_cons_none hs, ih]
    | some z => rw [List.filterMap_cons_some (e.trans hs), List.filterMap_cons_some hs, ih]
theorem srcs_self0 {α : Type} (v : α) (us ws ds : List α) (sel : List Src) : srcs (.p 0 :: sel.map fun | .p i => .p (i + 1) | s => s) (v :: us) ws ds = v :: srcs sel us ws ds := by
  rw [← srcs_self v us ws ds sel]
  rfl
theorem makeG_at {n N L : Nat} {g : SC} {ks : List Str} {sel : List Src} {dvs zs : List V} {C : Addr} {k : Nat} {fA : Addr} {fd : FuncData} {ps : List Str} {pins : List (Addr × Obj)} {s : Shared} {us ws : List Value} {bs : List Ar} (hC : T.cls cn = some C) (M : Mk X.K C fA) (F : FnOk X.prog X.w X.K X.mg X.base (L2.CX X.prog X.w) k fA fd ps (spI T cn N (mInit L cn g))) (hr : Room (k + 1) X.A) (hb : KBg X.K fd ps (n + 1) ks (.p 0 :: sel.map fun | .p i => .p (i + 1) | s => s) dvs) (hda : Dfl T dvs das) (tk : Takes X W)
    (I : Inv X pins σ H s) (r : Vals vs us) (rz : Vals zs ws) (l1 : vs.length = n) (l2 : zs.length = ks.length) (st : Sat T c own Γ x σ H) (ar : Paired (RepA T c.b H (Pp c own)) vs as) (br : Paired (RepA T c.b H (Pp c own)) zs bs) (r2 : ERes T W .fz c own σ H Q (lenOk N (mInit L cn g) (srcs sel as bs das) x)) :
    wpAny (model X.prog X.w) X.A (call (.ref C) us (ks.zip ws)) (EP X pins σ Q) X.xe s := by
  have ar2 := paired_srcs ar br (hda c.b H (Pp c own)) sel
  unfold lenOk at r2
  by_cases hl : (srcs sel as bs das).length = N
  · rw [if_pos hl] at r2
    refine run_makeG M F hr hb (passAt tk σ) I r rz l1 l2 fun q dx nq nd ne => ?_
    rw [srcs_self0]
    exact make_at hC st ar2 hl r2 nq nd ne fun d x1 h => mInit_obj h
  · rw [if_neg hl] at r2
    exact r2.elim
theorem pd_makeG {n N L : Nat} {g : SC} {ks : List Str} {sel : List Src} (G : MkG X T y cn N L g n ks sel das) (hg : Gl X y) (tk : Takes X W) (ha : PA X (e :: es) (EA T W fs)) (hkw : PK X kws (EA T W gs))
    (hall : (backToKw pos (keywordEach kws X.env)).all (·.1.isSome) = true := by rfl) (hks : (backToKw pos (keywordEach kws X.env)).filterMap (·.1) = ks := by rfl)
    (hdb : (y == ("__debug__" : Str)) = false := by decide) (he : starEach (e :: es) X.env = (false, eval e X.env) :: starEach es X.env := by rfl)
    (hpl : ((backTo pos (starEach (e :: es) X.env)).any (·.1) || (backToKw pos (keywordEach kws X.env)).any (·.1.isNone)) = false := by rfl) :
    PE X (.Call (.Name y p) (e :: es) kws pos) (E T W .fz (eCallG (lenOk N (mInit L cn g)) n ks.length sel das fs gs)) := by
  refine ⟨fun pins s σ H Q I h => ?_⟩
  obtain ⟨c, own, Γ, x, st, r⟩ := h
  obtain ⟨k, C, fA, fd, ps, dvs, hC, M, F, hr, hm, hb, hda⟩ := G.ex
  refine wpAny_Call_Name_kw (ld_glob I hg hm ?_ hdb)
  refine PySem.W.callWith_KW (h₀ := X.base) I.ok.mod.kin M.kp hall (thn (ha.run pos pins s σ H _ I ⟨c, own, Γ, x, st, argsG st r⟩) fun us s1 ⟨vs, H1, I1, r1, q⟩ => ?_) hpl he
  refine thn (hkw.run pos pins s1 σ H1 _ I1 q) fun ws s2 ⟨zs, H2, I2, rz, l1, l2, as, bs, x2, st2, ar, br, r2⟩ => ⟨I2.kIn, ?_⟩
  rw [hks]
  exact makeG_at hC M F hr hb hda tk I2 r1 rz l1 l2 st2 ar br r2
theorem pd_makeG0 {n N L : Nat} {g : SC} {ks : List Str} {sel : List Src} (G : MkG X T y cn N L g n ks sel das) (hg : Gl X y) (tk : Takes X W) (hkw : PK X kws (EA T W gs))
    (hall : (backToKw pos (keywordEach kws X.env)).all (·.1.isSome) = true := by rfl) (hks : (backToKw pos (keywordEach kws X.env)).filterMap (·.1) = ks := by rfl)
    (hdb : (y == ("__debug__" : Str)) = false := by decide)
    (hpl : ((backTo pos (starEach [] X.env)).any (·.1) || (backToKw pos (keywordEach kws X.env)).any (·.1.isNone)) = false := by rfl) :
    PE X (.Call (.Name y p) [] kws pos) (E T W .fz (eCallG (lenOk N (mInit L cn g)) n ks.length sel das aNil gs)) := by
  refine ⟨fun pins s σ H Q I h => ?_⟩
  obtain ⟨c, own, Γ, x, st, r⟩ := h
  obtain ⟨k, C, fA, fd, ps, dvs, hC, M, F, hr, hm, hb, hda⟩ := G.ex
  refine wpAny_Call_Name_kw (ld_glob I hg hm ?_ hdb)
  have q := argsG st r [] H Grow.refl st.bx .nil
  refine PySem.W.callWith_KW0 (h₀ := X.base) I.ok.mod.kin M.kp hall ?_ hpl
  refine thn (hkw.run pos pins s σ H _ I q) fun ws s2 ⟨zs, H2, I2, rz, l1, l2, as, bs, x2, st2, ar, br, r2⟩ => ⟨I2.kIn, ?_⟩
  rw [hks]
  exact makeG_at (us := []) hC M F hr hb hda tk I2 .nil rz l1 l2 st2 ar br r2
end
end DL

namespace DL
open PySem PySem.Spec PyProof.Rows L2
/-! ### defs with defaults -/
section
variable {P : Program} {w : World} {K : PySem.W.Frag} {mg : Str → Option Value} {base : Heap} {T : Tb} {x qual : Str} {params : Arguments} {body : List Stmt} {scope : Scope} {dvs : List V} {kws : List (Str × V)} {f : Addr} {fd : FuncData} {N ps : List Str} {k : Nat} {g : SC} {cn : Str}
theorem scope_len (S : FnScope N ps scope) : ps.length ≤ N.length := by
  have h := S.pre
  have h2 : (N.take ps.length).length = ps.length := by rw [h]
  rw [List.length_take] at h2
  omega
/-- THE RULE for a def -/
theorem _root_.L2.FunD.okD (F : FunD K x qual params body scope dvs kws f fd) (S : FnScope N ps scope)
    (hbody : ∀ (cdv : Value) (A : Around) (outer : List Env) (s : Shared) (H : Hp) (E : XK), Room k (A.deeper (envOfC qual scope s.heap.objs.size f cdv)) →
      PSs (cxOf (L2.CX P w) P w K mg base N qual scope f cdv A outer s H E) body (SS T (fun cls d _ H => E cls d H) g)) : FnOk P w K mg base (L2.CX P w) (k + 1) f fd ps (spD T ps.length (mOf N.length g)) := by
  have hps := scope_len S
  refine F.ok S (fun vs H Q E h => ?_) (fun cdv A outer s H vs Q E hr h => ?_)
  · obtain ⟨c, as, x, A, hl, _⟩ := h
    rw [← hl]
    exact A.ar.length
  · refine ⟨_, hbody cdv A outer s H E hr, ?_⟩
    obtain ⟨c, as, x, A, hl, r⟩ := h
    have hv : vs.length = as.length := A.ar.length
    refine ⟨c, _, _, x, A.sat N (by omega), ?_⟩
    unfold mOf at r
    cases hz : g (as.map arSl ++ List.replicate (N.length - as.length) .no) x with
    | nx Γ' x1 => rw [hz] at r; exact fun own' σ' H' fz s' => r .non H' s'.gr s'.bx .non
    | rt d x1 => rw [hz] at r; exact fun v H' g bx q => r v H' g bx q
    | bk Γ' x1 => rw [hz] at r; exact r.elim
    | ct Γ' x1 => rw [hz] at r; exact r.elim
    | er d Γ' x1 => rw [hz] at r; exact fun cls dd own' σ' H' fz s' q => r cls dd H' s'.gr s'.bx (q.mono (fun _ _ _ e => e) fun _ _ p _ => p.nil)
    | no => rw [hz] at r; exact r.elim
/-- THE RULE for an __init__ -/
theorem _root_.L2.FunD.okI (F : FunD K x qual params body scope dvs kws f fd) (S : FnScope N ps scope) (hps0 : 0 < ps.length)
    (hbody : ∀ (cdv : Value) (A : Around) (outer : List Env) (s : Shared) (H : Hp) (E : XK), Room k (A.deeper (envOfC qual scope s.heap.objs.size f cdv)) →
      PSs (cxOf (L2.CX P w) P w K mg base N qual scope f cdv A outer s H E) body (SS T (fun cls d _ H => E cls d H) g)) : FnOk P w K mg base (L2.CX P w) (k + 1) f fd ps (spI T cn (ps.length - 1) (mInit N.length cn g)) := by
  have hps := scope_len S
  refine F.ok S (fun vs H Q E h => ?_) (fun cdv A outer s H vs Q E hr h => ?_)
  · obtain ⟨c, as, x, p, C, dx, us, G, rfl, _, _, _, _, A, hl, _⟩ := h
    have hv : us.length = as.length := A.ar.length
    rw [List.length_cons]
    omega
  · refine ⟨_, hbody cdv A outer s H E hr, ?_⟩
    obtain ⟨c, as, x, p, C, dx, us, G, rfl, hC, rfl, hp, hme, A, hl, r⟩ := h
    have hv : us.length = as.length := A.ar.length
    refine ⟨c, _, _, x, A.satI hC hp hme N (by omega), ?_⟩
    unfold mInit at r
    cases hz : g (.ow (.obj cn []) :: (as.map arSl ++ List.replicate (N.length - (as.length + 1)) .no)) x with
    | nx Γ' x1 =>
      rw [hz] at r
      refine fun own' σ' H' fz s' => ?_
      dsimp only at r
      cases hs : selfOf cn Γ' with
      | none => rw [hs] at r; exact r.elim
      | some d =>
        rw [hs] at r
        obtain ⟨ds, rfl, hg⟩ := selfOf_some hs
        obtain ⟨_, r2⟩ := r
        have hm := s'.me p cn ds hme hg
        obtain ⟨q, h1, h2, h3⟩ := s'.slot 0 _ hg
        rw [hm] at h2
        cases h2
        refine r2 H' s'.gr s'.bx (h3.mono (fun _ _ _ e => e) (fun a o pa _ => ⟨pa.nil, fun z => pa.2.2 ?_⟩) fun _ e => e)
        rw [z]
        exact List.mem_of_getElem? hm
    | rt d x1 => rw [hz] at r; exact r.elim
    | bk Γ' x1 => rw [hz] at r; exact r.elim
    | ct Γ' x1 => rw [hz] at r; exact r.elim
    | er d Γ' x1 => rw [hz] at r; exact fun cls dd own' σ' H' fz s' q => r cls dd H' s'.gr s'.bx (q.mono (fun _ _ _ e => e) fun _ _ p _ => p.nil)
    | no => rw [hz] at r; exact r.elim
/-! ### a method that hands back NotImplemented -/
/-- at arguments whose test says so, NotImplemented comes back -/
structure FnNI (P : Program) (w : World) (K : PySem.W.Frag) (mg : Str → Option Value) (base : Heap) (T : Tb) (k : Nat) (f : Addr) (fd : FuncData) (ps : List Str) (tst : List Ar → M Bool) : Prop where
  run : ∀ (A : Around) (outer : List Env) (s : Shared) (H : Hp) (args : Args) (us : List Value) (vs : List V) (c : Cf) (as : List Ar) (x x' : Bx), Room k A → Env0 P w K mg base A outer s H → BindsTo s fd args (ps.zip us) → Vals vs us → At T c x vs as H → as.length = ps.length → tst as x = .ok true x' →
    codeAny (model P w) A (.call (.ref f) args) (fun r s' => r = .ok (.ret .notImplemented) ∧ ∃ H', s'.os = s.os ∧ AllBare s'.gens ∧ Un (frs outer) [] H H' s.heap s'.heap ∧ HOk P w H' s'.heap ∧ Grow c.b H H' ∧ BoxRel c.b x' H') s
theorem _root_.L2.FunD.okNI {cnd : Expr} {p1 p2 p3 : Pos} {rest : List Stmt} {tf : TC} (F : FunD K x qual params body scope dvs kws f fd) (S : FnScope N ps scope) (hbd : body = .If cnd [.Return (some (.Name "NotImplemented" p1)) p2] [] p3 :: rest) (hmg : mg "NotImplemented" = none)
    (hbody : ∀ (cdv : Value) (A : Around) (outer : List Env) (s : Shared) (H : Hp) (E : XK), Room k (A.deeper (envOfC qual scope s.heap.objs.size f cdv)) →
      PT (cxOf (L2.CX P w) P w K mg base N qual scope f cdv A outer s H E) cnd (ET T (fun cls d _ H => E cls d H) tf) ∧ Gl (cxOf (L2.CX P w) P w K mg base N qual scope f cdv A outer s H E) "NotImplemented") :
    FnNI P w K mg base T (k + 1) f fd ps (fun as => tf (as.map arSl ++ List.replicate (N.length - as.length) .no)) := by
  have hps := scope_len S
  obtain ⟨oc, od, dV, kV, doc, pm, an, cdv, ct, osl, rfl, lk, hcd, _, _⟩ := F.ex
  refine ⟨fun A outer s H args us vs c as x x' hr e0 hb r At hl ht => ?_⟩
  have hv : vs.length = as.length := At.ar.length
  have KX : K.In s.heap := e0.mod.kin.keeps fun b o e => (e0.bs b o e).1
  have lim : s.heap.NoLimit := e0.mod.nolimit.keeps fun b o e => (e0.bs b o e).1
  have hkind : ∀ y ∈ ps.zip us, scope.names.lookup y.1 = some .local ∨ (scope.names.lookup y.1 = some .cell ∧ ((cellsFrom (s.heap.objs.size + 1) scope.names []).lookup y.1).isSome = true) := fun ⟨n, v⟩ hy => by
    rcases S.par n (List.of_mem_zip hy).1 with q | q
    · exact .inl q
    · exact .inr ⟨q, PySem.W.cellsFrom_some _ _ _ (.inl q)⟩
  refine codeAny_call_function hr.depth (KX _ _ lk) rfl S.co S.gen rfl (PySem.W.codeRec_of KX hcd) (hb _ _ _ _ ?_)
  refine wpAny_newFunctionEnv_cells S.kind hkind fun env he s1 xx => ?_
  subst he
  refine ⟨lim.keeps xx.toInCall.keep, codeAny_func ?_⟩
  obtain ⟨htt, hgl⟩ := hbody cdv A outer s H (fun _ _ _ => False) (hr.deeper _)
  have I : Inv (cxOf (L2.CX P w) P w K mg base N qual scope f cdv A outer s H (fun _ _ _ => False)) [] (start N vs) H s1 := inv_start S hr.hd e0 (by omega) r xx
  subst hbd
  have st := At.sat N (by omega)
  have key := htt.run [] s1 (start N vs) H (fun b H1 => b = true ∧ Grow c.b H H1 ∧ BoxRel c.b x' H1) I ⟨c, _, _, x, st, by rw [ht]; exact fun H1 g bx => ⟨rfl, g, bx⟩⟩
  refine wpAny_mono (wpAny_execs_cons (wpAny_If (wpAny_mono key (fun d s2 ⟨H1, I1, hd, g, bx⟩ => ?_) fun e s' hs => hs))) (fun fl s' hs => hs) (fun e s' hs => ?_)
  · subst hd
    refine wpAny_execs_cons (wpAny_Return_some (ld_blt I1 hgl hmg (u := .notImplemented) rfl ?_))
    exact ⟨rfl, H1, I1.os, I1.bare, I1.base, I1.hok, g, bx⟩
  · refine wpAny_mono hs (fun _ s'' z => ?_) fun _ s'' z => ?_
    · obtain ⟨_, _, _, _, _, _, _, _, _, _, _, _, z⟩ := z
      exact z.elim
    · obtain ⟨_, _, _, _, _, _, _, _, _, _, _, _, z⟩ := z
      exact z.elim
end
end DL

namespace PySem.W
open PySem PySem.Spec PySem.Calls PyProof.Rows Builtin PySem.SeqAt
/-! ### an instance beside another kind: built-in kinds decline -/
theorem int_eq_inst (i : Int) (t : Tok) (x C dx : Addr) : Meets (Builtin.«int.__eq__» ⟨[.int i t, .ref x], []⟩) (fun _ R s => s.heap.get? x = some (instObj C dx) ∧ R (.ok (.ret Value.notImplemented)) s) :=
  .of_wp fun prog w A R s h => by obtain ⟨hp, g, d, tk, os⟩ := s; obtain ⟨hl, h⟩ := h; unfold instObj at hl; wp_walk using wpAny_loadPart' hl; exact ⟨_, rfl, h⟩
theorem bool_eq_inst (i : Bool) (x C dx : Addr) : Meets (Builtin.«int.__eq__» ⟨[.bool i, .ref x], []⟩) (fun _ R s => s.heap.get? x = some (instObj C dx) ∧ R (.ok (.ret Value.notImplemented)) s) :=
  .of_wp fun prog w A R s h => by obtain ⟨hp, g, d, tk, os⟩ := s; obtain ⟨hl, h⟩ := h; unfold instObj at hl; wp_walk using wpAny_loadPart' hl; exact ⟨_, rfl, h⟩
theorem str_eq_inst (i : Str) (t : Tok) (x C dx : Addr) : Meets (Builtin.«str.__eq__» ⟨[.str i t, .ref x], []⟩) (fun _ R s => s.heap.get? x = some (instObj C dx) ∧ R (.ok (.ret Value.notImplemented)) s) :=
  .of_wp fun prog w A R s h => by obtain ⟨hp, g, d, tk, os⟩ := s; obtain ⟨hl, h⟩ := h; unfold instObj at hl; wp_walk using wpAny_loadPart' hl; exact ⟨_, rfl, h⟩
theorem tuple_eq_inst (l : Addr) (items : Array Value) (n : Nat) (dd : Option Addr) (sl : Array (Option Value)) (x C dx : Addr) :
    Meets (Builtin.«tuple.__eq__» ⟨[.ref l, .ref x], []⟩) (fun _ R s => (∀ M, Looks M s.heap (isSubtype (.ref C) (.type "tuple")) false) ∧ s.heap.get? l = some { cls := .type "tuple", dict := dd, data := .seq items n, slots := sl } ∧ s.heap.get? x = some (instObj C dx) ∧ R (.ok (.ret .notImplemented)) s) :=
  .of_wp fun prog w A R s h => by
    obtain ⟨hp, g, d, tk, os⟩ := s; obtain ⟨f1, hl, hx, h⟩ := h; unfold instObj at hx
    wp_walk using wpAny_loadPart' hl
    refine (f1 _).here ?_
    simp only [Bool.not_false, if_true]
    wp_walk
    exact ⟨_, rfl, h⟩
theorem list_eq_inst (l : Addr) (items : Array Value) (n : Nat) (dd : Option Addr) (sl : Array (Option Value)) (x C dx : Addr) :
    Meets (Builtin.«list.__eq__» ⟨[.ref l, .ref x], []⟩) (fun _ R s => (∀ M, Looks M s.heap (isSubtype (.ref C) (.type "list")) false) ∧ s.heap.get? l = some { cls := .type "list", dict := dd, data := .seq items n, slots := sl } ∧ s.heap.get? x = some (instObj C dx) ∧ R (.ok (.ret .notImplemented)) s) :=
  .of_wp fun prog w A R s h => by
    obtain ⟨hp, g, d, tk, os⟩ := s; obtain ⟨f1, hl, hx, h⟩ := h; unfold instObj at hx
    wp_walk using wpAny_loadPart' hl
    refine (f1 _).here ?_
    simp only [Bool.not_false, if_true]
    wp_walk
    exact ⟨_, rfl, h⟩
section
variable {prog : Program} {w : World} {A : Around} {E : Value → Shared → Prop} {s : Shared} {K : Frag} {x C L f : Addr} {h₀ : Heap} {m : Str → Option Value} {ox : Obj} {od : Option Obj} {b tb : Value}
theorem try_ni {R : Option Value → Shared → Prop} (X : K.In s.heap) (I : InstAt s.heap x ox C od) (hs : findIn K (.ref C) "__eq__" = some (some (.ref f))) (hf : isFn K (.ref f) = true)
    (h : wpAny (model prog w) A (call (.ref f) [.ref x, b]) (fun v s' => v = .notImplemented ∧ R none s') E s) : wpAny (model prog w) A (tryCompare (.ref x) "__eq__" b) R E s := by
  unfold tryCompare
  refine wpAny_bind (ifBound_K X I hs hf (wpAny_mono h (fun v s' hv => ?_) fun _ _ e => e))
  obtain ⟨rfl, hv⟩ := hv
  exact wpAny_pure hv
theorem rc_ni_l {Q : Value → Shared → Prop} (hu : A.units < cLine) (h1t : oneThing? .Eq (.ref x) b = none) (ta : Looks (model prog w) s.heap (typeOf (.ref x)) (.ref C)) (ht : Looks (model prog w) s.heap (typeOf b) tb) (hsub : Looks (model prog w) s.heap (isSubtype tb (.ref C)) false)
    (h : wpAny (model prog w) A (tryCompare (.ref x) "__eq__" b) (fun r s1 => r = none ∧ wpAny (model prog w) A (tryCompare b "__eq__" (.ref x)) (fun r s2 => r = none ∧ wpAny (model prog w) A (isSame (.ref x) b) (fun k s3 => k = false ∧ Q (.bool false) s3) E s2) E s1) E s) :
    wpAny (model prog w) A (richCompare .Eq (.ref x) b) Q E s := by
  unfold richCompare
  simp only [h1t, cmpInfo_Eq]
  refine wpAny_holding (wpAny_bind (wpAny_cRoomFor hu ?_))
  refine wpAny_bind (ta.here (wpAny_bind (ht.here ?_)))
  have fin : wpAny (model prog w) A (tryCompare (.ref x) "__eq__" b) (fun r s1 => r = none ∧ wpAny (model prog w) A (tryCompare b "__eq__" (.ref x)) (fun r s2 => r = none ∧ wpAny (model prog w) A (isSame (.ref x) b) (fun k s3 => k = false ∧ Q (.bool false) s3) E s2) E s1) E s := h
  split
  · refine wpAny_bind (hsub.here ?_)
    simp only [Bool.false_eq_true, if_false, Bool.not_false, if_true]
    refine wpAny_bind (m := tryCompare (.ref x) _ b) (wpAny_mono fin (fun r s1 z => ?_) fun _ _ e => e)
    obtain ⟨rfl, z⟩ := z
    refine wpAny_bind (m := tryCompare b _ (.ref x)) (wpAny_mono z (fun r s2 z => ?_) fun _ _ e => e)
    obtain ⟨rfl, z⟩ := z
    refine wpAny_bind (wpAny_rule (wpAny_bind (wpAny_mono z (fun k s3 z => ?_) fun _ _ e => e)))
    obtain ⟨rfl, z⟩ := z
    exact wpAny_pure z
  · refine wpAny_bind (wpAny_pure ?_)
    simp only [Bool.false_eq_true, if_false, Bool.not_false, if_true]
    refine wpAny_bind (m := tryCompare (.ref x) _ b) (wpAny_mono fin (fun r s1 z => ?_) fun _ _ e => e)
    obtain ⟨rfl, z⟩ := z
    refine wpAny_bind (m := tryCompare b _ (.ref x)) (wpAny_mono z (fun r s2 z => ?_) fun _ _ e => e)
    obtain ⟨rfl, z⟩ := z
    refine wpAny_bind (wpAny_rule (wpAny_bind (wpAny_mono z (fun k s3 z => ?_) fun _ _ e => e)))
    obtain ⟨rfl, z⟩ := z
    exact wpAny_pure z
theorem rc_ni_r {Q : Value → Shared → Prop} (hu : A.units < cLine) (h1t : oneThing? .Eq b (.ref x) = none) (ta : Looks (model prog w) s.heap (typeOf (.ref x)) (.ref C)) (ht : Looks (model prog w) s.heap (typeOf b) tb) (hsub : Looks (model prog w) s.heap (isSubtype (.ref C) tb) false)
    (h : wpAny (model prog w) A (tryCompare b "__eq__" (.ref x)) (fun r s1 => r = none ∧ wpAny (model prog w) A (tryCompare (.ref x) "__eq__" b) (fun r s2 => r = none ∧ wpAny (model prog w) A (isSame b (.ref x)) (fun k s3 => k = false ∧ Q (.bool false) s3) E s2) E s1) E s) :
    wpAny (model prog w) A (richCompare .Eq b (.ref x)) Q E s := by
  unfold richCompare
  simp only [h1t, cmpInfo_Eq]
  refine wpAny_holding (wpAny_bind (wpAny_cRoomFor hu ?_))
  refine wpAny_bind (ht.here (wpAny_bind (ta.here ?_)))
  split
  · refine wpAny_bind (hsub.here ?_)
    simp only [Bool.false_eq_true, if_false, Bool.not_false, if_true]
    refine wpAny_bind (m := tryCompare b _ (.ref x)) (wpAny_mono h (fun r s1 z => ?_) fun _ _ e => e)
    obtain ⟨rfl, z⟩ := z
    refine wpAny_bind (m := tryCompare (.ref x) _ b) (wpAny_mono z (fun r s2 z => ?_) fun _ _ e => e)
    obtain ⟨rfl, z⟩ := z
    refine wpAny_bind (wpAny_rule (wpAny_bind (wpAny_mono z (fun k s3 z => ?_) fun _ _ e => e)))
    obtain ⟨rfl, z⟩ := z
    exact wpAny_pure z
  · refine wpAny_bind (wpAny_pure ?_)
    simp only [Bool.false_eq_true, if_false, Bool.not_false, if_true]
    refine wpAny_bind (m := tryCompare b _ (.ref x)) (wpAny_mono h (fun r s1 z => ?_) fun _ _ e => e)
    obtain ⟨rfl, z⟩ := z
    refine wpAny_bind (m := tryCompare (.ref x) _ b) (wpAny_mono z (fun r s2 z => ?_) fun _ _ e => e)
    obtain ⟨rfl, z⟩ := z
    refine wpAny_bind (wpAny_rule (wpAny_bind (wpAny_mono z (fun k s3 z => ?_) fun _ _ e => e)))
    obtain ⟨rfl, z⟩ := z
    exact wpAny_pure z
/-! ### != by object.__ne__ and an own __eq__ -/
theorem ifBound_objNe {M : Model} {args : List Value} {Q : Option Value → Shared → Prop} (X : K.In s.heap) (I : InstAt s.heap x ox C od) (hs : findIn K (.ref C) "__ne__" = some (some (.builtin "object.__ne__")))
    (h : wpAny M A (call (.builtin "object.__ne__") (.ref x :: args)) (fun v => Q (some v)) E s) : wpAny M A (callSpecialIfBound? (.ref x) "__ne__" args) Q E s := by
  simp only [callSpecialIfBound?, bindSpecialIfBound?]
  refine wpAny_holding (wpAny_bind (wpAny_bind (wpAny_bind (I.type.here ((PySem.W.looks_findIn X hs).here ?_)))))
  refine wpAny_bind (wpAny_askSetting (wpAny_ite ?_))
  have fin : wpAny M A (call (.builtin "object.__ne__") ([.ref x] ++ args) >>= fun v => pure (some v)) Q E s := wpAny_bind (wpAny_mono h (fun v s' h' => wpAny_pure h') fun _ _ h' => h')
  split
  · exact wpAny_bind (wpAny_of_eq (F.cmp_object.ne.bind _) (wpAny_pure (by exact fin)))
  · exact wpAny_tryCatch (wpAny_bind (wpAny_of_eq (F.cmp_object.ne.bind _) (wpAny_pure (by exact fin))))
theorem ne_entry {y : Addr} (X : K.In s.heap) (I : InstAt s.heap x ox C od) (hs : findIn K (.ref C) "__eq__" = some (some (.ref f))) (hf : isFn K (.ref f) = true) (hu : A.units < cLine) {Q : Fin → Shared → Prop}
    (hcall : wpAny (model prog w) A (call (.ref f) [.ref x, .ref y]) (fun v s' => ∃ b, v = .bool b ∧ Q (.done (.ret (.bool (!b)))) s') E s) :
    wpAny (model prog w) A (Builtin.«object.__ne__» ⟨[.ref x, .ref y], []⟩) Q E s := by
  obtain ⟨hp, g, d, tk, os⟩ := s
  unfold Builtin.«object.__ne__»
  repeat (first
    | with_reducible refine wpAny_cRoomFor hu ?_
    | (refine wpAny_bind (m := callSpecialIfBound? (.ref x) (Str.ofString "__eq__") [.ref y])
        (ifBound_K X I hs hf (wpAny_mono hcall (fun r s' hr => by
          obtain ⟨b, rfl, hq⟩ := hr
          repeat (first | exact hq | exact wpAny_pure hq | exact wpAny_truthy_bool hq | (refine wpAny_bind (m := truthy (.bool _)) (wpAny_truthy_bool ?_)) | wp_step)) fun _ _ e => e)))
    | wp_step)
theorem ne_K {y : Addr} {Q : Value → Shared → Prop} (hu : A.units + 1 < cLine) (X : K.In s.heap) (I : InstAt s.heap x ox C od) (ht : Looks (model prog w) s.heap (typeOf (.ref y)) (.ref C)) (hm : mroIn K C (.type "object") = some true)
    (hs : findIn K (.ref C) "__eq__" = some (some (.ref f))) (hn : findIn K (.ref C) "__ne__" = some (some (.builtin "object.__ne__"))) (hf : isFn K (.ref f) = true)
    (hcall : wpAny (model prog w) A.in1 (call (.ref f) [.ref x, .ref y]) (fun v s' => ∃ b, v = .bool b ∧ Q (.bool (!b)) s') E s) :
    wpAny (model prog w) A (richCompare .NotEq (.ref x) (.ref y)) Q E s := by
  have one : wpAny (model prog w) A (tryCompare (.ref x) "__ne__" (.ref y)) (fun r s' => ∃ v, r = some v ∧ Q v s') E s := by
    unfold tryCompare
    refine wpAny_bind (ifBound_objNe X I hn (wpAny_call (codeAny_call_builtin F.cmp_object.ne.plain F.cmpEntry_ne (PySem.W.check_slot F.cmpKind_ne F.cmpSplit_ne (I.type.andThen (PySem.W.looks_mroIn X hm)) (F.cmpArgs_ne _ _) (ne_entry (A := A.in1) X I hs hf hu (wpAny_mono hcall (fun v s' hv => ?_) fun _ _ e => e))))))
    obtain ⟨b, rfl, hq⟩ := hv
    first | exact ⟨b, rfl, wpAny_pure ⟨_, rfl, hq⟩⟩ | exact ⟨b, rfl, wpAny_pure (wpAny_pure ⟨_, rfl, hq⟩)⟩ | exact ⟨b, rfl, ⟨_, rfl, hq⟩⟩
  unfold richCompare
  simp only [oneThing_ref]
  refine wpAny_holding (wpAny_bind (wpAny_cRoomFor (Nat.lt_of_succ_lt hu) ?_))
  refine wpAny_bind (I.type.here (wpAny_bind (ht.here ?_)))
  rw [cmpInfo_NotEq, show (Value.ref C != Value.ref C) = false from by simp]
  simp only [Bool.false_eq_true, if_false]
  refine wpAny_bind (wpAny_pure ?_)
  simp only [Bool.false_eq_true, if_false]
  refine wpAny_bind (wpAny_mono one (fun r s' z => ?_) fun _ _ e => e)
  obtain ⟨v, rfl, hq⟩ := z
  exact wpAny_pure hq
end
end PySem.W

namespace DL
open PySem PySem.Spec PyProof.Rows L2
/-! ### == and != with own classes -/
/-- kinds that are no own class -/
def frn : D → Bool
  | .int _ => true
  | .bl _ => true
  | .str _ => true
  | .non => true
  | .tup _ => true
  | .lst _ => true
  | _ => false
/-- one is of an own class of the list, the other of another kind -/
def niD (ni : List Str) : D → D → Bool
  | .obj c _, y => decide (c ∈ ni) && frn y
  | x, .obj c _ => decide (c ∈ ni) && frn x
  | _, _ => false
def eEqO (cs : List (Str × (List Ar → M D))) (ni : List Str) (g : D → D → Option D) (fa fb : EC) : EC := fun Γ => bnd (fa Γ) fun x => bnd (fb Γ) fun y => match ownM cs x y with
  | some mf => mf [.bo x, .bo y]
  | none => if niD ni x y = true then M.pure (.bl false) else opt (g x y)
def negB : D → M D
  | .bl k => M.pure (.bl (!k))
  | _ => M.no
def eNeO (cs : List (Str × (List Ar → M D))) (g : D → D → Option D) (fa fb : EC) : EC := fun Γ => bnd (fa Γ) fun x => bnd (fb Γ) fun y => match ownM cs x y with
  | some mf => bnd (mf [.bo x, .bo y]) negB
  | none => opt (g x y)
section
variable {X : Cx} {T : Tb} {W : WX} {m : Md} {a b e : Expr} {f fa fb : EC} {pos p apos : Pos} {c : Cf} {own own' : Ow} {Γ : Gm} {x x' : Bx} {σ : L2.St} {H H' : Hp} {Q : VK} {cs : List (Str × (List Ar → M D))}
/-- what the text says of an own __eq__ that declines other kinds -/
structure NIOk (X : Cx) (T : Tb) (cn : Str) : Prop where
  ex : ∃ (C fA : Addr) (fd : FuncData) (ps : List Str) (k : Nat) (tst : List Ar → M Bool), T.cls cn = some C ∧ FnNI X.prog X.w X.K X.mg X.base T k fA fd ps tst ∧ Room k X.A ∧ PySem.W.findIn X.K (.ref C) "__eq__" = some (some (.ref fA)) ∧ PySem.W.isFn X.K (.ref fA) = true ∧ Binds X.K fd ps [] ∧ ps.length = 2 ∧
    PySem.W.subIn X.K (.ref C) (.type "int") = some false ∧ PySem.W.subIn X.K (.ref C) (.type "bool") = some false ∧ PySem.W.subIn X.K (.ref C) (.type "str") = some false ∧ PySem.W.subIn X.K (.ref C) (.type "NoneType") = some false ∧ PySem.W.subIn X.K (.ref C) (.type "tuple") = some false ∧ PySem.W.subIn X.K (.ref C) (.type "list") = some false ∧
    PySem.W.subIn X.K (.type "int") (.ref C) = some false ∧ PySem.W.subIn X.K (.type "bool") (.ref C) = some false ∧ PySem.W.subIn X.K (.type "str") (.ref C) = some false ∧ PySem.W.subIn X.K (.type "NoneType") (.ref C) = some false ∧ PySem.W.subIn X.K (.type "tuple") (.ref C) = some false ∧ PySem.W.subIn X.K (.type "list") (.ref C) = some false ∧
    ∀ (fs : List (Str × D)) (y : D) (x : Bx), frn y = true → tst [.bo (.obj cn fs), .bo y] x = .ok true x
theorem ni_call {k : Nat} {fA : Addr} {fd : FuncData} {ps : List Str} {tst : List Ar → M Bool} {pins : List (Addr × Obj)} {s : Shared} {us : List Value} {vs : List V} {as : List Ar} {E : Value → Shared → Prop} (F : FnNI X.prog X.w X.K X.mg X.base T k fA fd ps tst) (hr : Room k X.A) (hb : Binds X.K fd ps []) (I : Inv X pins σ H s) (st : Sat T c own Γ x σ H) (r : Vals vs us) (ar : Paired (RepA T c.b H (Pp c own)) vs as) (hl : as.length = ps.length) (ht : tst as x = .ok true x) :
    wpAny (model X.prog X.w) X.A (call (.ref fA) us) (fun v s' => v = .notImplemented ∧ ∃ H', Inv X pins σ H' s' ∧ Grow c.b H H' ∧ BoxRel c.b x H') E s := by
  have hl2 : (us ++ []).length = ps.length := by
    rw [List.append_nil, ← r.length, ← hl]
    exact ar.length
  have bd := hb s us I.kIn hl2
  rw [List.append_nil] at bd
  refine wpAny_call (codeAny_mono (F.run X.A X.stack s H ⟨us, []⟩ us vs _ as x x hr I.env0 bd r (at_of st ar) hl ht) fun r s' hq => ?_)
  obtain ⟨rfl, H', os, bare, un, hok, g, bx⟩ := hq
  obtain ⟨hh, g', d, t, os'⟩ := s'
  obtain rfl : os' = s.os := os
  exact ⟨rfl, H', I.call (h' := hh) (g' := g') (d' := d) (t' := t) (ch := []) un hok bare (fun b z => absurd z (by simp)), g, bx⟩
/-- what a built-in kind says of an instance -/
theorem declines {pins : List (Addr × Obj)} {s : Shared} {E : Value → Shared → Prop} {v : V} {u : Value} {y : D} {p C dx : Addr} {fs : List (Str × V)} (hK : X.K = T.K) (hu : X.A.units < cLine) (I : Inv X pins σ H s) (q : RepQ T c.b H (Pp c own) v y) (ru : RelV v u) (hf : frn y = true) (hp : H p = some (.ins C dx fs))
    (h1 : PySem.W.subIn X.K (.ref C) (.type "int") = some false) (h2 : PySem.W.subIn X.K (.ref C) (.type "bool") = some false) (h3 : PySem.W.subIn X.K (.ref C) (.type "str") = some false) (h4 : PySem.W.subIn X.K (.ref C) (.type "NoneType") = some false) (h5 : PySem.W.subIn X.K (.ref C) (.type "tuple") = some false) (h6 : PySem.W.subIn X.K (.ref C) (.type "list") = some false) :
    (∃ t : String, PySem.W.Looks (model X.prog X.w) s.heap (typeOf u) (.type t) ∧ (t = "int" ∨ t = "bool" ∨ t = "str" ∨ t = "NoneType" ∨ t = "tuple" ∨ t = "list")) ∧ oneThing? .Eq (.ref p) u = none ∧ oneThing? .Eq u (.ref p) = none ∧
      (∀ (R : Option Value → Shared → Prop), R none s → wpAny (model X.prog X.w) X.A (tryCompare u "__eq__" (.ref p)) R E s) ∧ (∀ (R : Bool → Shared → Prop), R false s → wpAny (model X.prog X.w) X.A (isSame (.ref p) u) R E s) ∧ (∀ (R : Bool → Shared → Prop), R false s → wpAny (model X.prog X.w) X.A (isSame u (.ref p)) R E s) := by
  have hx0 : s.heap.get? p = some (PySem.W.instObj C dx) := (show ObjOk X.prog X.w H s.heap p (.ins C dx fs) from I.hok p _ hp).2.2.2.1
  have lk : ∀ {t : String} {u : Value}, s.TypeIs u t → PySem.W.Looks (model X.prog X.w) s.heap (typeOf u) (.type t) → PySem.W.Looks (model X.prog X.w) s.heap (typeOf u) (.type t) := fun _ h => h
  cases y with
  | int i =>
    have := q.int
    subst this
    obtain ⟨t, rfl⟩ := ru
    refine ⟨⟨"int", fun A Q E s k q => wpAny_typeOf (typeIs_int s i t) q, .inl rfl⟩, rfl, rfl, fun R hR => ?_, fun R hR => wpAny_of_eq (rfl : isSame (.ref p) (.int i t) = pure false) hR, fun R hR => wpAny_of_eq (rfl : isSame (.int i t) (.ref p) = pure false) hR⟩
    exact wpAny_tryCompare_declines (typeIs_int s i t) F.slot_int_eq_refl (call_meets F.slot_int_eq_refl (typeIs_int s i t) F.entry_int_eq (F.args_int_eq_2 _ _) (PySem.W.int_eq_inst i t p C dx) ⟨hx0, rfl, hR⟩)
  | bl i =>
    have := q.bl
    subst this
    cases ru
    refine ⟨⟨"bool", fun A Q E s k q => wpAny_typeOf (show s.TypeIs (.bool i) "bool" from rfl) q, .inr (.inl rfl)⟩, rfl, rfl, fun R hR => ?_, fun R hR => wpAny_of_eq (rfl : isSame (.ref p) (.bool i) = pure false) hR, fun R hR => wpAny_of_eq (rfl : isSame (.bool i) (.ref p) = pure false) hR⟩
    exact wpAny_tryCompare_declines (show s.TypeIs (.bool i) "bool" from rfl) F.slot_bool_eq_refl (call_meets F.slot_bool_eq_refl (show s.TypeIs (.bool i) "bool" from rfl) F.entry_int_eq (F.args_int_eq_2 _ _) (PySem.W.bool_eq_inst i p C dx) ⟨hx0, rfl, hR⟩)
  | str i =>
    have := q.str
    subst this
    obtain ⟨t, rfl⟩ := ru
    refine ⟨⟨"str", fun A Q E s k q => wpAny_typeOf (show s.TypeIs (.str i t) "str" from rfl) q, .inr (.inr (.inl rfl))⟩, rfl, rfl, fun R hR => ?_, fun R hR => wpAny_of_eq (rfl : isSame (.ref p) (.str i t) = pure false) hR, fun R hR => wpAny_of_eq (rfl : isSame (.str i t) (.ref p) = pure false) hR⟩
    exact wpAny_tryCompare_declines (show s.TypeIs (.str i t) "str" from rfl) F.slot_str_eq_refl (call_meets F.slot_str_eq_refl (show s.TypeIs (.str i t) "str" from rfl) F.entry_str_eq (F.args_str_eq_2 _ _) (PySem.W.str_eq_inst i t p C dx) ⟨hx0, rfl, hR⟩)
  | non =>
    have := q.non
    subst this
    cases ru
    refine ⟨⟨"NoneType", fun A Q E s k q => wpAny_typeOf (show s.TypeIs .none "NoneType" from rfl) q, .inr (.inr (.inr (.inl rfl)))⟩, rfl, rfl, fun R hR => ?_, fun R hR => wpAny_of_eq (rfl : isSame (.ref p) .none = pure false) hR, fun R hR => wpAny_of_eq (rfl : isSame .none (.ref p) = pure false) hR⟩
    exact wpAny_tryCompare_declines (show s.TypeIs .none "NoneType" from rfl) F.slot_NoneType_eq_refl (call_gives F.slot_NoneType_eq_refl rfl F.entry_NoneType_eq (F.args_NoneType_eq_2 _ _) (SeqAt.NoneType___eq___none_ref_0 p) ⟨rfl, hR⟩)
  | tup ds =>
    obtain ⟨l, vs, rfl, hq, _⟩ := q.tup
    cases ru
    rw [← hK] at hq
    obtain ⟨its, rv, ⟨o, eo, co, n, dO⟩, _⟩ := I.tuple hq
    obtain ⟨oc, od, odt, osl⟩ := o
    dsimp only at co dO
    subst co
    subst dO
    have hne : p ≠ l := fun z => by
      subst z
      rw [hx0] at eo
      cases eo
    refine ⟨⟨"tuple", fun A Q E s k q => wpAny_typeOf_ref (k _ _ eo) q, .inr (.inr (.inr (.inr (.inl rfl))))⟩, rfl, rfl, fun R hR => ?_, fun R hR => ?_, fun R hR => ?_⟩
    · exact wpAny_tryCompare_declines ⟨_, eo, rfl⟩ F.slot_tuple_eq_refl (call_meets F.slot_tuple_eq_refl ⟨_, eo, rfl⟩ F.entry_tuple_eq (F.args_tuple_eq_2 _ _) (PySem.W.tuple_eq_inst l _ n od osl p C dx) ⟨fun M => PySem.W.looks_subIn I.kIn h5, eo, hx0, rfl, hR⟩)
    · unfold isSame
      dsimp only
      rw [if_neg (by simpa using hne)]
      exact wpAny_bind (wpAny_load hx0 (wpAny_bind (wpAny_load eo (wpAny_pure hR))))
    · unfold isSame
      dsimp only
      rw [if_neg (by simpa using Ne.symm hne)]
      exact wpAny_bind (wpAny_load eo (wpAny_bind (wpAny_load hx0 (wpAny_pure hR))))
  | lst ds =>
    obtain ⟨l, vs, rfl, hq, _⟩ := q.lst
    cases ru
    obtain ⟨its, rv, ⟨o, n, eo, co, ddn, dO⟩, _⟩ := I.list (.inl (.inl hq))
    obtain ⟨oc, od, odt, osl⟩ := o
    dsimp only at co dO
    subst co
    subst dO
    have hne : p ≠ l := fun z => by
      subst z
      rw [hx0] at eo
      cases eo
    refine ⟨⟨"list", fun A Q E s k q => wpAny_typeOf_ref (k _ _ eo) q, .inr (.inr (.inr (.inr (.inr rfl))))⟩, rfl, rfl, fun R hR => ?_, fun R hR => ?_, fun R hR => ?_⟩
    · exact wpAny_tryCompare_declines ⟨_, eo, rfl⟩ F.slot_list_eq_refl (call_meets F.slot_list_eq_refl ⟨_, eo, rfl⟩ F.entry_list_eq (F.args_list_eq_2 _ _) (PySem.W.list_eq_inst l _ n od osl p C dx) ⟨fun M => PySem.W.looks_subIn I.kIn h6, eo, hx0, rfl, hR⟩)
    · unfold isSame
      dsimp only
      rw [if_neg (by simpa using hne)]
      exact wpAny_bind (wpAny_load hx0 (wpAny_bind (wpAny_load eo (wpAny_pure hR))))
    · unfold isSame
      dsimp only
      rw [if_neg (by simpa using Ne.symm hne)]
      exact wpAny_bind (wpAny_load eo (wpAny_bind (wpAny_load hx0 (wpAny_pure hR))))
  | _ => cases hf
end
end DL

namespace DL
open PySem PySem.Spec PyProof.Rows L2
section
variable {X : Cx} {T : Tb} {W : WX} {m : Md} {a b e : Expr} {f fa fb : EC} {pos p apos : Pos} {c : Cf} {own own' : Ow} {Γ : Gm} {x x' : Bx} {σ : L2.St} {H H' : Hp} {Q : VK} {cs : List (Str × (List Ar → M D))} {ni : List Str}
theorem niD_some {x y : D} (h : niD ni x y = true) : (∃ c fs, x = .obj c fs ∧ c ∈ ni ∧ frn y = true) ∨ (∃ c fs, y = .obj c fs ∧ c ∈ ni ∧ frn x = true) := by
  unfold niD at h
  split at h
  · rename_i c fs
    obtain ⟨h1, h2⟩ := Bool.and_eq_true_iff.mp h
    exact .inl ⟨c, fs, rfl, of_decide_eq_true h1, h2⟩
  · rename_i c fs _
    obtain ⟨h1, h2⟩ := Bool.and_eq_true_iff.mp h
    exact .inr ⟨c, fs, rfl, of_decide_eq_true h1, h2⟩
  · cases h
theorem run_eqO {r : R2} {g : D → D → Option D} {pins : List (Addr × Obj)} {s : Shared} {v u : Value} {vx vy : V} {d e : D} (hK : X.K = T.K) (ho : OpR X (compareOp .Eq) r) (hg : OpD T r g) (hu : X.A.units < cLine) (tk : Takes X W) (hcs : ∀ cn mf, cs.lookup cn = some mf → OwnOk X T "__eq__" cn mf) (hni : ∀ cn ∈ ni, NIOk X T cn) (I : Inv X pins σ H s) (rx : RelV vx v) (ry : RelV vy u)
    (st : Sat T c own Γ x σ H) (qd : RepQ T c.b H (Pp c own) vx d) (qe : RepQ T c.b H (Pp c own) vy e) (r2 : ERes T W .fz c own σ H Q ((match ownM cs d e with | some mf => mf [.bo d, .bo e] | none => if niD ni d e = true then M.pure (.bl false) else opt (g d e)) x)) :
    wpAny (model X.prog X.w) X.A (compareOp .Eq v u) (EP X pins σ Q) X.xe s := by
  cases hz : ownM cs d e with
  | some mf =>
    rw [hz] at r2
    obtain ⟨cn, ds, es, rfl, rfl, hl⟩ := ownM_some hz
    obtain ⟨p, q, C, dx, dy, fA, fs, gs, rfl, rfl, h1, h2, h3, h4, _, h5⟩ := own_call (hcs cn mf hl) tk st I rx ry qd qe r2
    show wpAny _ _ (richCompare .Eq _ _) _ _ _
    obtain ⟨mA, J, _⟩ := ins_get I.hok h1
    obtain ⟨mB, J', _⟩ := ins_get I.hok h2
    obtain ⟨od, J, _⟩ := J.look
    obtain ⟨od', J', _⟩ := J'.look
    obtain ⟨mm, hF⟩ := I.fr
    exact PySem.W.cmp_K (op := .Eq) (tb := .ref C) hu hF I.ok.mod.kin J J'.type (by simp [PySem.W.notFirst]) h3 h4 h5
  | none =>
    rw [hz] at r2
    by_cases hn : niD ni d e = true
    · dsimp only at r2
      rw [if_pos hn] at r2
      show wpAny _ _ (richCompare .Eq _ _) _ _ _
      rcases niD_some hn with ⟨cn, ds, rfl, hc, hf⟩ | ⟨cn, ds, rfl, hc, hf⟩
      · obtain ⟨C, fA, fd, ps, k, tst, hC, F, hr, hs, hfn, hb, hps, s1, s2, s3, s4, s5, s6, t1, t2, t3, t4, t5, t6, ht⟩ := (hni cn hc).ex
        obtain ⟨p, C1, dx, fs, rfl, e2, e3, _⟩ := qd.obj
        rw [hC] at e2
        cases e2
        cases rx
        obtain ⟨⟨t, lt, tt⟩, o1, o2, _, _, _⟩ := declines (E := X.xe) hK hu I qe ry hf e3 s1 s2 s3 s4 s5 s6
        obtain ⟨mA, J, _⟩ := ins_get I.hok e3
        obtain ⟨od, J, _⟩ := J.look
        have sub : PySem.W.subIn X.K (.type t) (.ref C) = some false := by rcases tt with rfl | rfl | rfl | rfl | rfl | rfl <;> assumption
        have ar : Paired (RepA T c.b H (Pp c own)) [.ref p, vy] [.bo (.obj cn ds), .bo e] := .cons qd (.cons qe .nil)
        refine PySem.W.rc_ni_l hu o1 J.type lt (PySem.W.looks_subIn I.kIn sub) ?_
        refine PySem.W.try_ni I.kIn J hs hfn (wpAny_mono (ni_call (vs := [.ref p, vy]) F hr hb I st (.cons rfl (.cons ry .nil)) ar hps.symm (ht ds e x hf)) (fun v' s' z => ?_) fun _ _ z => z)
        obtain ⟨z1, H1, I1, g1, bx1⟩ := z
        refine ⟨z1, rfl, ?_⟩
        have st1 := st.grow g1 bx1
        have nb : c.b ≠ some p := fun z => by
          have := st.bx p z
          rw [e3] at this
          cases this
        obtain ⟨_, _, _, d1, d2, _⟩ := declines (E := X.xe) hK hu I1 (RepQ.grow g1 qe) ry hf (g1 _ _ nb e3) s1 s2 s3 s4 s5 s6
        exact d1 _ ⟨rfl, d2 _ ⟨rfl, .bl false, H1, I1, rfl, r2 _ _ g1 bx1 (.bl false)⟩⟩
      · obtain ⟨C, fA, fd, ps, k, tst, hC, F, hr, hs, hfn, hb, hps, s1, s2, s3, s4, s5, s6, t1, t2, t3, t4, t5, t6, ht⟩ := (hni cn hc).ex
        obtain ⟨p, C1, dx, fs, rfl, e2, e3, _⟩ := qe.obj
        rw [hC] at e2
        cases e2
        cases ry
        obtain ⟨⟨t, lt, tt⟩, o1, o2, d1, _, _⟩ := declines (E := X.xe) hK hu I qd rx hf e3 s1 s2 s3 s4 s5 s6
        obtain ⟨mA, J, _⟩ := ins_get I.hok e3
        obtain ⟨od, J, _⟩ := J.look
        have sub : PySem.W.subIn X.K (.ref C) (.type t) = some false := by rcases tt with rfl | rfl | rfl | rfl | rfl | rfl <;> assumption
        have ar : Paired (RepA T c.b H (Pp c own)) [.ref p, vx] [.bo (.obj cn ds), .bo d] := .cons qe (.cons qd .nil)
        refine PySem.W.rc_ni_r hu o2 J.type lt (PySem.W.looks_subIn I.kIn sub) ?_
        refine d1 _ ⟨rfl, ?_⟩
        refine PySem.W.try_ni I.kIn J hs hfn (wpAny_mono (ni_call (vs := [.ref p, vx]) F hr hb I st (.cons rfl (.cons rx .nil)) ar hps.symm (ht ds d x hf)) (fun v' s' z => ?_) fun _ _ z => z)
        obtain ⟨z1, H1, I1, g1, bx1⟩ := z
        refine ⟨z1, rfl, ?_⟩
        have nb : c.b ≠ some p := fun z => by
          have := st.bx p z
          rw [e3] at this
          cases this
        obtain ⟨_, _, _, _, _, d3⟩ := declines (E := X.xe) hK hu I1 (RepQ.grow g1 qd) rx hf (g1 _ _ nb e3) s1 s2 s3 s4 s5 s6
        exact d3 _ ⟨rfl, .bl false, H1, I1, rfl, r2 _ _ g1 bx1 (.bl false)⟩
    · dsimp only at r2
      rw [if_neg hn] at r2
      exact ho pins s σ H vx vy v u Q I rx ry (hg.fin ⟨c, own, Γ, x, d, e, H, st, Grow.refl, qd, qe, r2⟩)
theorem pd_eqO {r : R2} {g : D → D → Option D} (hK : X.K = T.K) (ho : OpR X (compareOp .Eq) r) (hg : OpD T r g) (hu : X.A.units < cLine) (tk : Takes X W) (hcs : TabOk (OwnOk X T "__eq__") cs) (hni : ∀ cn ∈ ni, NIOk X T cn) (ha : PE X a (E T W .tr fa)) (hb : PE X b (E T W .tr fb)) (hm : behindInMarks .Eq b = false) :
    PE X (.Compare a [.Eq] [b] pos) (E T W .fz (eEqO cs ni g fa fb)) := by
  refine ⟨fun pins s σ H Q I h => ?_⟩
  refine wpAny_Compare1 (binT ha hb I (e_two h) fun v u s2 x y H2 I2 rx ry q => ?_) hm
  obtain ⟨c, own, Γ, xb, d, e, H1, st, g1, q1, q2, r2⟩ := q
  exact run_eqO hK ho hg hu tk hcs hni I2 rx ry st (RepQ.grow g1 q1) q2 r2
/-- a call in another around of the same frames -/
theorem run_fnA {CX : CXT} {k : Nat} {fA : Addr} {fd : FuncData} {ps : List Str} {sp : Sp} {E : XK} {A' : Around} {pins : List (Addr × Obj)} {s : Shared} {us : List Value} {vs : List V} (F : FnOk X.prog X.w X.K X.mg X.base CX k fA fd ps sp) (hr : Room k A') (hb : Binds X.K fd ps []) (hx : PassesAt CX X σ E) (I : Inv X pins σ H s) (e0 : Env0 X.prog X.w X.K X.mg X.base A' X.stack s H) (r : Vals vs us) (h : sp vs H Q E) :
    wpAny (model X.prog X.w) A' (call (.ref fA) us) (EP X pins σ Q) X.xe s := by
  have hl : (us ++ []).length = ps.length := by
    rw [List.append_nil, ← r.length]
    exact F.len _ _ _ _ h
  have bd := hb s us I.kIn hl
  rw [List.append_nil] at bd
  refine wpAny_call (codeAny_mono (F.run A' X.stack s H ⟨us, []⟩ us vs Q E hr e0 bd r h) fun r s' hq => ?_)
  cases r with
  | error e => exact hx pins H s e s' I hq
  | ok fl =>
    cases fl with
    | ret u => exact I.after hq
    | next => exact False.elim hq
    | brk => exact False.elim hq
    | cont => exact False.elim hq
/-- what the text says of an own __eq__ without an own __ne__ -/
structure NeOk (X : Cx) (T : Tb) (cn : Str) (mf : List Ar → M D) : Prop where
  ex : ∃ (C fA : Addr) (fd : FuncData) (ps : List Str) (k : Nat), T.cls cn = some C ∧ FnOk X.prog X.w X.K X.mg X.base (L2.CX X.prog X.w) k fA fd ps (spD T 2 mf) ∧ Room (k + 1) X.A ∧ PySem.W.findIn X.K (.ref C) "__eq__" = some (some (.ref fA)) ∧ PySem.W.findIn X.K (.ref C) "__ne__" = some (some (.builtin "object.__ne__")) ∧ PySem.W.isFn X.K (.ref fA) = true ∧ Binds X.K fd ps [] ∧ PySem.W.mroIn X.K C (.type "object") = some true
theorem pd_neO {r : R2} {g : D → D → Option D} (ho : OpR X (compareOp .NotEq) r) (hg : OpD T r g) (hu : X.A.units + 1 < cLine) (tk : Takes X W) (hcs : TabOk (NeOk X T) cs) (ha : PE X a (E T W .tr fa)) (hb : PE X b (E T W .tr fb)) (hm : behindInMarks .NotEq b = false) :
    PE X (.Compare a [.NotEq] [b] pos) (E T W .fz (eNeO cs g fa fb)) := by
  refine ⟨fun pins s σ H Q I h => ?_⟩
  refine wpAny_Compare1 (binT ha hb I (e_two h) fun v u s2 x y H2 I2 rx ry q => ?_) hm
  obtain ⟨c, own, Γ, xb, d, e, H1, st, g1, q1, q2, r2⟩ := q
  have qd : RepQ T c.b H2 (Pp c own) x d := RepQ.grow g1 q1
  have qe : RepQ T c.b H2 (Pp c own) y e := q2
  cases hz : ownM cs d e with
  | none =>
    rw [hz] at r2
    exact ho pins s2 σ H2 x y v u Q I2 rx ry (hg.fin ⟨c, own, Γ, xb, d, e, H2, st, Grow.refl, qd, qe, r2⟩)
  | some mf =>
    rw [hz] at r2
    obtain ⟨cn, ds, es, rfl, rfl, hl⟩ := ownM_some hz
    obtain ⟨C, fA, fd, ps, k, hC, F, hr, hs, hn, hf, hbd, hm⟩ := (hcs cn mf hl).ex
    obtain ⟨pa, C1, dx, fs, rfl, h1, h2, _⟩ := qd.obj
    obtain ⟨pb, C2, dy, gs, rfl, k1, k2, _⟩ := qe.obj
    rw [hC] at h1 k1
    cases h1
    cases k1
    cases rx
    cases ry
    show wpAny _ _ (richCompare .NotEq _ _) _ _ _
    obtain ⟨mA, J, _⟩ := ins_get I2.hok h2
    obtain ⟨mB, J', _⟩ := ins_get I2.hok k2
    obtain ⟨od, J, _⟩ := J.look
    obtain ⟨od', J', _⟩ := J'.look
    have ar : Paired (RepA T c.b H2 (Pp c own)) [.ref pa, .ref pb] [.bo (.obj cn ds), .bo (.obj cn es)] := .cons qd (.cons qe .nil)
    have r3 : ERes T W .fz c own σ H2 (fun z H3 => ∃ k, z = .bl k ∧ Q (.bl (!k)) H3) (mf [.bo (.obj cn ds), .bo (.obj cn es)] xb) := by
      have hb2 := res_bind (m' := .fz) st r2
      refine hb2.imp fun z H3 ⟨dz, x1, st1, g1, qz, r4⟩ => ?_
      cases dz with
      | bl k =>
        have qz' : Rep T c.b H3 (Pp c own) z (.bl k) := qz
        cases qz'
        exact ⟨k, rfl, r4 _ _ Grow.refl st1.bx (.bl _)⟩
      | _ => exact r4.elim
    refine PySem.W.ne_K hu I2.kIn J J'.type hm hs hn hf (wpAny_mono (run_fnA (A' := X.A.in1) (vs := [.ref pa, .ref pb]) F hr.in1 hbd (passAt tk σ) I2 I2.env0.in1 (.cons rfl (.cons rfl .nil)) (call_at st ar rfl r3)) (fun w s3 hw => ?_) fun _ _ z => z)
    obtain ⟨z, H3, I3, rz, k, rfl, q3⟩ := hw
    cases rz
    exact ⟨k, rfl, .bl (!k), H3, I3, rfl, q3⟩
end
end DL

namespace DL
open PySem PySem.Spec PyProof.Rows L2
open PySem.W (findIn typeIn keepIn subIn specialIn takesIn mroIn hasDictIn kitOne kitAny Frag isFn selfFirst makesIn plainGet plainOver recIn readsIn findCls)
/-! ### facts of own classes, each as one reckoning -/
def clB (K : Frag) (C : Addr) : Bool := plainGet K C Str.empty && (hasDictIn K C && (plainOver K C && (decide (findIn K (.ref C) "__setattr__" = some (some (.builtin "object.__setattr__"))) && (decide (findIn K (.ref C) "__class__" = some (some (.builtin "object.__class__"))) &&
  (decide (specialIn K (.builtin "object.__class__") "__get__" = some (some (.builtin "getset_descriptor.__get__"))) && (decide (takesIn K (.builtin "object.__class__") = some true) && (decide (mroIn K C (.type "object") = some true) && (selfFirst K C && (makesIn K C && keepIn K (.ref C))))))))))
structure ClF (K : Frag) (C : Addr) : Prop where
  cls : Cls K C
  own : OwnI K C
  sf : selfFirst K C = true
  mks : makesIn K C = true
  kp : keepIn K (.ref C) = true
  ob : mroIn K C (.type "object") = some true
theorem clB_ok {K : Frag} {C : Addr} (h : clB K C = true) : ClF K C := by
  obtain ⟨h1, h⟩ := Bool.and_eq_true_iff.mp h
  obtain ⟨h2, h⟩ := Bool.and_eq_true_iff.mp h
  obtain ⟨h3, h⟩ := Bool.and_eq_true_iff.mp h
  obtain ⟨h4, h⟩ := Bool.and_eq_true_iff.mp h
  obtain ⟨h5, h⟩ := Bool.and_eq_true_iff.mp h
  obtain ⟨h6, h⟩ := Bool.and_eq_true_iff.mp h
  obtain ⟨h7, h⟩ := Bool.and_eq_true_iff.mp h
  obtain ⟨h8, h⟩ := Bool.and_eq_true_iff.mp h
  obtain ⟨h9, h⟩ := Bool.and_eq_true_iff.mp h
  obtain ⟨h10, h11⟩ := Bool.and_eq_true_iff.mp h
  have c : Cls K C := ⟨h1, h2, h3, of_decide_eq_true h4⟩
  exact ⟨c, ⟨c, of_decide_eq_true h5, of_decide_eq_true h6, of_decide_eq_true h7, of_decide_eq_true h8⟩, h9, h10, h11, of_decide_eq_true h8⟩
def naB (K : Frag) (C : Addr) (flds : List Str) : Bool := flds.all fun f => decide (findIn K (.ref C) f = some none)
theorem naB_ok {K : Frag} {C : Addr} {flds : List Str} (h : naB K C flds = true) : ∀ f ∈ flds, NoAttr K C f := fun f hf => show findIn K (.ref C) f = some none from of_decide_eq_true (List.all_eq_true.mp h f hf)
/-- a method: the address is found ahead -/
def meB (K : Frag) (C : Addr) (nm : Str) (f : Addr) : Bool := decide (findIn K (.ref C) nm = some (some (.ref f))) && (isFn K (.ref f) && keepIn K (.ref f))
theorem meB_ok {K : Frag} {C : Addr} {nm : Str} {f : Addr} (h : meB K C nm f = true) : Meth K C nm f := by
  obtain ⟨h1, h⟩ := Bool.and_eq_true_iff.mp h
  obtain ⟨h2, h3⟩ := Bool.and_eq_true_iff.mp h
  exact ⟨of_decide_eq_true h1, h2, h3⟩
theorem ClF.mkOf {K : Frag} {C f : Addr} (c : ClF K C) (m : Meth K C "__init__" f) : Mk K C f := ⟨c.mks, m.at_, m.fn, c.kp⟩
def prB (K : Frag) (C : Addr) (nm : Str) (p : Addr) : Bool := decide (findIn K (.ref C) nm = some (some (.ref p))) && (decide (specialIn K (.ref p) "__get__" = some (some (.builtin "property.__get__"))) && decide (takesIn K (.ref p) = some true))
theorem prB_ok {K : Frag} {C : Addr} {nm : Str} {p g : Addr} {rest : List Value} (h : prB K C nm p = true) (r : recIn K p "property" = some (.ref g :: rest)) : PropOf K C nm p g := by
  obtain ⟨h1, h⟩ := Bool.and_eq_true_iff.mp h
  obtain ⟨h2, h3⟩ := Bool.and_eq_true_iff.mp h
  exact ⟨of_decide_eq_true h1, of_decide_eq_true h2, of_decide_eq_true h3, rest, r⟩
/-- beside other kinds -/
def suB (K : Frag) (C : Addr) : Bool := ["int", "bool", "str", "NoneType", "tuple", "list"].all fun t => decide (subIn K (.ref C) (.type t) = some false) && decide (subIn K (.type t) (.ref C) = some false)
theorem suB_ok {K : Frag} {C : Addr} (h : suB K C = true) : ∀ t ∈ ["int", "bool", "str", "NoneType", "tuple", "list"], subIn K (.ref C) (.type t) = some false ∧ subIn K (.type t) (.ref C) = some false := fun t ht => by
  obtain ⟨h1, h2⟩ := Bool.and_eq_true_iff.mp (List.all_eq_true.mp h t ht)
  exact ⟨of_decide_eq_true h1, of_decide_eq_true h2⟩
def neB (K : Frag) (C : Addr) : Bool := decide (findIn K (.ref C) "__ne__" = some (some (.builtin "object.__ne__")))
/-! ### own operators at a place of the text -/
section
variable {X : Cx} {T : Tb} {W : WX} {m : Md} {a b e o : Expr} {es : List Expr} {f fa fb fo : EC} {fs gs : Gm → M (List Ar)} {pos p apos : Pos} {c : Cf} {own own' : Ow} {Γ : Gm} {x x' : Bx} {σ : L2.St} {H H' : Hp} {Q : VK} {cn nm y z : Str} {C fA : Addr} {fd : FuncData} {ps : List Str} {k : Nat} {mf mr : List Ar → M D} {das : List Ar}
theorem ownOk_mk (hC : T.cls cn = some C) (cl : ClF X.K C) (me : Meth X.K C nm fA) (F : FnOk X.prog X.w X.K X.mg X.base (L2.CX X.prog X.w) k fA fd ps (spD T 2 mf)) (hr : Room k X.A) (hb : Binds X.K fd ps []) : OwnOk X T nm cn mf := ⟨C, fA, fd, ps, k, hC, F, hr, me.at_, me.fn, hb, cl.sf⟩
theorem neOk_mk (hC : T.cls cn = some C) (cl : ClF X.K C) (me : Meth X.K C "__eq__" fA) (hne : neB X.K C = true) (F : FnOk X.prog X.w X.K X.mg X.base (L2.CX X.prog X.w) k fA fd ps (spD T 2 mf)) (hr : Room (k + 1) X.A) (hb : Binds X.K fd ps []) : NeOk X T cn mf := ⟨C, fA, fd, ps, k, hC, F, hr, me.at_, of_decide_eq_true hne, me.fn, hb, cl.ob⟩
theorem niOk_mk {tst : List Ar → M Bool} (hC : T.cls cn = some C) (me : Meth X.K C "__eq__" fA) (su : suB X.K C = true) (F : FnNI X.prog X.w X.K X.mg X.base T k fA fd ps tst) (hr : Room k X.A) (hb : Binds X.K fd ps []) (hl : ps.length = 2) (ht : ∀ (fs : List (Str × D)) (y : D) (x : Bx), frn y = true → tst [.bo (.obj cn fs), .bo y] x = .ok true x) : NIOk X T cn :=
  have s := suB_ok su
  ⟨C, fA, fd, ps, k, tst, hC, F, hr, me.at_, me.fn, hb, hl, (s _ (by simp)).1, (s _ (by simp)).1, (s _ (by simp)).1, (s _ (by simp)).1, (s _ (by simp)).1, (s _ (by simp)).1, (s _ (by simp)).2, (s _ (by simp)).2, (s _ (by simp)).2, (s _ (by simp)).2, (s _ (by simp)).2, (s _ (by simp)).2, ht⟩
theorem mulOk_mk {fR : Addr} {fdr : FuncData} {psr : List Str} (hC : T.cls cn = some C) (cl : ClF X.K C) (su : suB X.K C = true) (me : Meth X.K C (PySem.dunder "mul") fA) (mr' : Meth X.K C (PySem.dunderR "mul") fR) (F : FnOk X.prog X.w X.K X.mg X.base (L2.CX X.prog X.w) k fA fd ps (spD T 2 mf)) (Fr : FnOk X.prog X.w X.K X.mg X.base (L2.CX X.prog X.w) k fR fdr psr (spD T 2 mr)) (hr : Room k X.A) (hb : Binds X.K fd ps []) (hbr : Binds X.K fdr psr []) : MulOk X T cn mf mr :=
  have s := suB_ok su "int" (by simp)
  ⟨C, fA, fR, fd, fdr, ps, psr, k, hC, F, Fr, hr, me.at_, mr'.at_, me.fn, mr'.fn, hb, hbr, cl.sf, s.2, s.1⟩
theorem pk_dvar (i : Nat) {z : Str} {nm : Option Str} {kpos : Pos} {kws : List Keyword} (ha : PE X (.Name z p) (tVar i)) (hr : PK X kws (EA T W fs)) : PK X (⟨nm, .Name z p, kpos⟩ :: kws) (EA T W (aVar i fs)) :=
  PK.mono (pk_cons ha hr) fun σ H Q ⟨c, own, Γ, x, s, r⟩ => by
    cases hu : (Γ[i]?).bind slAr with
    | none =>
      rw [show aVar i fs Γ x = .no from bnd_no (by rw [hu]; rfl)] at r
      exact r.elim
    | some ar =>
      rw [show aVar i fs Γ x = _ from bnd_ok (a := ar) (y := x) (by rw [hu]; rfl)] at r
      cases hg : Γ[i]? with
      | none => rw [hg] at hu; cases hu
      | some u =>
        rw [hg] at hu
        have hu' : slAr u = some ar := hu
        have q := s.slot i u hg
        have key : ∃ v, σ[i]? = some (some v) ∧ RepA T c.b H (Pp c own) v ar := by
          cases u with
          | no => cases hu'
          | sh d => obtain ⟨v, e, rp⟩ := q; cases hu'; exact ⟨v, e, rp⟩
          | bo d =>
            obtain ⟨v, e, rp⟩ := q
            cases hu'
            refine ⟨v, e, ?_⟩
            rcases rp with rp | ⟨q, e1, e2, _, e3⟩
            · exact Or.inl rp
            · exact Or.inr ⟨q, e1, e2, e3⟩
          | ow d => obtain ⟨p, e, e2, rp⟩ := q; cases hu'; exact ⟨_, e, Or.inr ⟨p, rfl, s.own_ne e2, rp⟩⟩
        obtain ⟨v, ev, rv⟩ := key
        refine ⟨v, ev, c, own, Γ, x, s, ?_⟩
        cases hg : fs Γ x with
        | ok ds x2 =>
          rw [bnd_ok hg] at r
          exact fun vs H2 g2 bx2 q2 => r (v :: vs) H2 g2 bx2 (.cons (RepA.grow g2 rv) q2)
        | er d x2 => rw [bnd_er hg] at r; exact r
        | no => rw [bnd_no hg] at r; exact r
/-! ### constants of the module -/
theorem pd_gstr {z : Str} (hg : Gl X y) (h : ∃ t, X.mg y = some (.str z t)) (hd : (y == ("__debug__" : Str)) = false := by decide) : PE X (.Name y pos) (E T W .fz (eC (.str z))) := by
  obtain ⟨t, h⟩ := h
  exact pd_c (pe_glob (v := .str z) hg h ⟨t, rfl⟩ hd) fun _ _ _ => .str z
theorem pd_gint {z : Int} (hg : Gl X y) (h : ∃ t, X.mg y = some (.int z t)) (hd : (y == ("__debug__" : Str)) = false := by decide) : PE X (.Name y pos) (E T W .fz (eC (.int z))) := by
  obtain ⟨t, h⟩ := h
  exact pd_c (pe_glob (v := .int z) hg h ⟨t, rfl⟩ hd) fun _ _ _ => .int z
/-! ### a static method, by its class -/
structure StOk (K : Frag) (C : Addr) (nm : Str) (p f : Addr) : Prop where
  ty : typeIn K (.ref C) = some (.type "type")
  rd : readsIn K C (.type "type") = true
  fc : findCls K (.ref C) (.type "type") nm = some (.get (.builtin "staticmethod.__get__") (.ref p) .none (.ref C))
  rc : ∃ rest, recIn K p "staticmethod" = some (.ref f :: rest)
  hd : PySem.W.handedIn (.ref f) = true
  ga : specialIn K (.ref C) "__getattribute__" = some (some (.builtin "type.__getattribute__"))
  kp : keepIn K (.ref f) = true
structure StG (X : Cx) (T : Tb) (y nm : Str) (N : Nat) (mf : List Ar → M D) (n : Nat) (ks : List Str) (sel : List Src) (das : List Ar) : Prop where
  ex : ∃ (k : Nat) (C pA fA : Addr) (fd : FuncData) (ps : List Str) (dvs : List V), FnOk X.prog X.w X.K X.mg X.base (L2.CX X.prog X.w) k fA fd ps (spD T N mf) ∧ Room k X.A ∧ X.mg y = some (.ref C) ∧ StOk X.K C nm pA fA ∧ KBg X.K fd ps n ks sel dvs ∧ Dfl T dvs das
theorem getst {pins : List (Addr × Obj)} {s : Shared} {C pA fA : Addr} {pl : Sem Bool} {Q : Value × List Value → Shared → Prop} {E : Value → Shared → Prop} (I : Inv X pins σ H s) (S : StOk X.K C nm pA fA) (h : ∀ s', Inv X pins σ H s' → Q (.ref fA, []) s') : wpAny (model X.prog X.w) X.A (getMethod (.ref C) nm pl) Q E s := by
  obtain ⟨rest, rc⟩ := S.rc
  obtain ⟨mm, hF⟩ := I.fr
  exact PySem.W.method_of_cls hF I.ok.mod.kin S.ga (PySem.W.cls_sm hF I.ok.mod.kin S.ty S.rd S.fc rc S.hd (h _ (I.tok _)))
theorem pd_static {n N : Nat} {kws : List Keyword} {ks : List Str} {sel : List Src} {pl : Sem Bool} {p1 : Pos} (G : StG X T y nm N mf n ks sel das) (hg : Gl X y) (tk : Takes X W) (ha : PA X (e :: es) (EA T W fs)) (hkw : PK X kws (EA T W gs))
    (hall : (backToKw pos (keywordEach kws X.env)).all (·.1.isSome) = true := by rfl) (hks : (backToKw pos (keywordEach kws X.env)).filterMap (·.1) = ks := by rfl)
    (hdb : (y == ("__debug__" : Str)) = false := by decide) (he : starEach (e :: es) X.env = (false, eval e X.env) :: starEach es X.env := by rfl)
    (hpl : ((backTo pos (starEach (e :: es) X.env)).any (·.1) || (backToKw pos (keywordEach kws X.env)).any (·.1.isNone)) = false := by rfl)
    (hev : eval (.Call (.Attribute (.Name y p1) nm apos) (e :: es) kws pos) X.env = (do
      let ov ← eval (.Name y p1) X.env
      standAt apos.atName
      let (f, first) ← holding [ov] (getMethod ov nm pl)
      callWith pos f first (backTo pos (starEach (e :: es) X.env)) (backToKw pos (keywordEach kws X.env))) := by rfl) :
    PE X (.Call (.Attribute (.Name y p1) nm apos) (e :: es) kws pos) (E T W .fz (eCallG (lenOk N mf) n ks.length sel das fs gs)) := by
  refine ⟨fun pins s σ H Q I h => ?_⟩
  obtain ⟨c, own, Γ, x, st, r⟩ := h
  obtain ⟨k, C, pA, fA, fd, ps, dvs, F, hr, hm, S, hb, hda⟩ := G.ex
  refine PySem.W.methodCall_KW (pl := pl) (ld_glob I hg hm ?_ hdb) hev
  refine getst I S fun s' I' => ?_
  refine PySem.W.callWith_KW (h₀ := X.base) I.ok.mod.kin S.kp hall (thn (ha.run pos pins s' σ H _ I' ⟨c, own, Γ, x, st, argsG st r⟩) fun us s1 ⟨vs, H1, I1, r1, q⟩ => ?_) hpl he
  refine thn (hkw.run pos pins s1 σ H1 _ I1 q) fun ws s2 ⟨zs, H2, I2, rz, l1, l2, as, bs, x2, st2, ar, br, r2⟩ => ⟨I2.kIn, ?_⟩
  rw [hks]
  have ar2 := paired_srcs ar br (hda c.b H2 (Pp c own)) sel
  unfold lenOk at r2
  by_cases hl : (srcs sel as bs das).length = N
  · rw [if_pos hl] at r2
    exact run_fnG F hr hb (passAt tk σ) I2 r1 rz l1 l2 (call_at st2 ar2 hl r2)
  · rw [if_neg hl] at r2
    exact r2.elim
theorem pd_static0 {n N : Nat} {kws : List Keyword} {ks : List Str} {sel : List Src} {pl : Sem Bool} {p1 : Pos} (G : StG X T y nm N mf n ks sel das) (hg : Gl X y) (tk : Takes X W) (hkw : PK X kws (EA T W gs))
    (hall : (backToKw pos (keywordEach kws X.env)).all (·.1.isSome) = true := by rfl) (hks : (backToKw pos (keywordEach kws X.env)).filterMap (·.1) = ks := by rfl)
    (hdb : (y == ("__debug__" : Str)) = false := by decide)
    (hpl : ((backTo pos (starEach [] X.env)).any (·.1) || (backToKw pos (keywordEach kws X.env)).any (·.1.isNone)) = false := by rfl)
    (hev : eval (.Call (.Attribute (.Name y p1) nm apos) [] kws pos) X.env = (do
      let ov ← eval (.Name y p1) X.env
      standAt apos.atName
      let (f, first) ← holding [ov] (getMethod ov nm pl)
      callWith pos f first (backTo pos (starEach [] X.env)) (backToKw pos (keywordEach kws X.env))) := by rfl) :
    PE X (.Call (.Attribute (.Name y p1) nm apos) [] kws pos) (E T W .fz (eCallG (lenOk N mf) n ks.length sel das aNil gs)) := by
  refine ⟨fun pins s σ H Q I h => ?_⟩
  obtain ⟨c, own, Γ, x, st, r⟩ := h
  obtain ⟨k, C, pA, fA, fd, ps, dvs, F, hr, hm, S, hb, hda⟩ := G.ex
  refine PySem.W.methodCall_KW (pl := pl) (ld_glob I hg hm ?_ hdb) hev
  refine getst I S fun s' I' => ?_
  have q := argsG st r [] H Grow.refl st.bx .nil
  refine PySem.W.callWith_KW0 (h₀ := X.base) I.ok.mod.kin S.kp hall ?_ hpl
  refine thn (hkw.run pos pins s' σ H _ I' q) fun ws s2 ⟨zs, H2, I2, rz, l1, l2, as, bs, x2, st2, ar, br, r2⟩ => ⟨I2.kIn, ?_⟩
  rw [hks]
  have ar2 := paired_srcs ar br (hda c.b H2 (Pp c own)) sel
  unfold lenOk at r2
  by_cases hl : (srcs sel as bs das).length = N
  · rw [if_pos hl] at r2
    exact run_fnG (us := []) F hr hb (passAt tk σ) I2 .nil rz l1 l2 (call_at st2 ar2 hl r2)
  · rw [if_neg hl] at r2
    exact r2.elim
end
end DL

namespace DL
open PySem PySem.Spec PyProof.Rows L2
section
variable {P : Program} {w : World} {K : PySem.W.Frag} {mg : Str → Option Value} {base : Heap} {T : Tb}
theorem _root_.L2.FunD.okF {x qual : Str} {params : Arguments} {body : List Stmt} {scope : Scope} {dvs : List V} {kws : List (Str × V)} {f : Addr} {fd : FuncData} {N ps : List Str} {k : Nat} {g : SC} {fr : EC} (F : FunD K x qual params body scope dvs kws f fd) (S : FnScope N ps scope)
    (hbody : ∀ (cdv : Value) (A : Around) (outer : List Env) (s : Shared) (H : Hp) (E : XK), Room k (A.deeper (envOfC qual scope s.heap.objs.size f cdv)) →
      PSs (cxOf (L2.CX P w) P w K mg base N qual scope f cdv A outer s H E) body (tSeq (SS T (fun cls d _ H => E cls d H) g) (tRet (EF T (fun cls d _ H => E cls d H) fr)))) : FnOk P w K mg base (L2.CX P w) (k + 1) f fd ps (spF T ps.length (mFr N.length g fr)) := by
  have hps : ps.length ≤ N.length := by
    have h := S.pre
    have h2 : (N.take ps.length).length = ps.length := by rw [h]
    rw [List.length_take] at h2
    omega
  refine F.ok S (fun vs H Q E h => ?_) (fun cdv A outer s H vs Q E hr h => ?_)
  · obtain ⟨c, as, x, A, hl, _⟩ := h
    rw [← hl]
    exact A.ar.length
  · refine ⟨_, hbody cdv A outer s H E hr, ?_⟩
    obtain ⟨c, as, x, A, hl, r⟩ := h
    have hv : vs.length = as.length := A.ar.length
    refine ⟨c, _, _, x, A.sat N (by omega), ?_⟩
    unfold mFr at r
    cases hz : g (as.map arSl ++ List.replicate (N.length - as.length) .no) x with
    | nx Γ' x1 =>
      rw [hz] at r
      refine fun own' σ' H' fz s' => ⟨c, own', Γ', x1, s', ?_⟩
      dsimp only at r
      cases hf : fr Γ' x1 with
      | ok d x2 =>
        rw [hf] at r
        exact fun p H2 n g2 bx2 q hc => r p H2 (Grow.none s'.gr (fun e => by rw [s'.bx p e] at n; cases n) n) (s'.gr.trans g2) bx2 (q.mono (fun _ _ _ e => e) (fun a o pa _ => ⟨pa.1.nil, pa.2⟩) fun _ e => e)
      | er d x2 =>
        rw [hf] at r
        exact fun cls dd H2 g2 bx2 q => r cls dd H2 (s'.gr.trans g2) bx2 (q.mono (fun _ _ _ e => e) fun _ _ p _ => p.nil)
      | no => rw [hf] at r; exact r
    | rt d x1 => rw [hz] at r; exact r.elim
    | bk Γ' x1 => rw [hz] at r; exact r.elim
    | ct Γ' x1 => rw [hz] at r; exact r.elim
    | er d Γ' x1 => rw [hz] at r; exact fun cls dd own' σ' H' fz s' q => r cls dd H' s'.gr s'.bx (q.mono (fun _ _ _ e => e) fun _ _ p _ => p.nil)
    | no => rw [hz] at r; exact r.elim
end
section
variable {X : Cx} {T : Tb} {W : WX} {st : Stmt} {a b : Expr} {fa fb : EC} {pos : Pos} {c : Str} {mf mr : List Ar → M D} {cs : List (Str × (List Ar → M D))}
/-- code that is not told over trees -/
def sNo : SC := fun _ _ => .no
theorem ps_dno : PS X st (SS T W sNo) := ⟨fun _ _ _ _ _ _ ⟨_, _, _, _, _, r⟩ => r.elim⟩
theorem pd_addO (hK : X.K = T.K) (tk : Takes X W) (hcs : TabOk (OwnOk X T (PySem.dunder Operator.Add.info.2)) cs) (ha : PE X a (E T W .tr fa)) (hb : PE X b (E T W .tr fb)) : PE X (.BinOp a .Add b pos) (E T W .fz (eOpO cs dAdd fa fb)) := by
  have h := op_addU (X := X)
  rw [hK] at h
  exact pd_opO h opd_addU tk hcs ha hb
theorem mulTab (h : MulOk X T c mf mr) : ∀ cn mf' mr', [(c, mf, mr)].lookup cn = some (mf', mr') → MulOk X T cn mf' mr' := fun cn mf' mr' e => by
  rw [List.lookup_cons] at e
  by_cases q : cn = c
  · subst q
    rw [beq_self_eq_true] at e
    cases e
    exact h
  · rw [beq_false_of_ne q] at e
    cases e
end
/-! ### facts of the head -/
theorem funD_mk {K : PySem.W.Frag} {x qual : Str} {st : Stmt} {f : Addr} {oc : Value} {od an : Option Addr} {osl : Array (Option Value)} {kV doc pm cdv ct : Value} (l : K.lookup f = some ⟨oc, od, .func (PySem.W.fnOf x qual (defArgs st) (defBody st) (defScope st) .none kV doc pm an cdv ct), osl⟩)
    (c : PySem.W.codeIn K cdv qual = true) (k : PySem.W.keepIn K (.ref f) = true) : FunD K x qual (defArgs st) (defBody st) (defScope st) [] [] f (PySem.W.fnOf x qual (defArgs st) (defBody st) (defScope st) .none kV doc pm an cdv ct) := ⟨⟨oc, od, .none, kV, doc, pm, an, cdv, ct, osl, rfl, l, c, .inl ⟨rfl, rfl⟩, .inl rfl⟩, k⟩
/-- with defaults: a tuple of the text -/
theorem funD_mkD {K : PySem.W.Frag} {x qual : Str} {st : Stmt} {f T : Addr} {oc : Value} {od an : Option Addr} {osl : Array (Option Value)} {kV doc pm cdv ct : Value} {o : Obj} {its : List Value} {n : Nat} {dvs : List V} (l : K.lookup f = some ⟨oc, od, .func (PySem.W.fnOf x qual (defArgs st) (defBody st) (defScope st) (.ref T) kV doc pm an cdv ct), osl⟩)
    (c : PySem.W.codeIn K cdv qual = true) (k : PySem.W.keepIn K (.ref f) = true) (hd : dvs ≠ []) (lT : K.lookup T = some o) (ho : o.data = .seq its.toArray n) (hv : Vals dvs its) : FunD K x qual (defArgs st) (defBody st) (defScope st) dvs [] f (PySem.W.fnOf x qual (defArgs st) (defBody st) (defScope st) (.ref T) kV doc pm an cdv ct) := ⟨⟨oc, od, .ref T, kV, doc, pm, an, cdv, ct, osl, rfl, l, c, .inr ⟨hd, T, o, its, n, rfl, lT, ho, hv⟩, .inl rfl⟩, k⟩
theorem ktup0 {K : PySem.W.Frag} {a : Addr} {d : Option Addr} {n : Nat} {sl : Array (Option Value)} (h : K.lookup a = some ⟨.type "tuple", d, .seq #[] n, sl⟩) : KTup K a [] := ⟨_, #[], n, h, rfl, rfl, by decide, .nil⟩
end DL
namespace DL
open PySem PySem.Spec PyProof.Rows L2
section
variable {X : Cx} {T : Tb} {f cn : Str}
theorem attr_fld (h : FldOk T cn f) : AttrOk X T f cn .fld := h
theorem attr_prop {C pA gA : Addr} {fd : FuncData} {ps : List Str} {k : Nat} {mf : List Ar → M D} (hC : T.cls cn = some C) (c : ClF X.K C) (p : PropOf X.K C f pA gA) (F : FnOk X.prog X.w X.K X.mg X.base (L2.CX X.prog X.w) k gA fd ps (spD T 1 mf)) (hr : Room (k + 1) X.A) (hb : Binds X.K fd ps []) : AttrOk X T f cn (.prop mf) := ⟨C, pA, gA, fd, ps, k, hC, c.cls, p, F, hr, hb⟩
theorem attr_xf {cs : List Str} (h : ∀ c ∈ cs, ∀ C, T.cls c = some C → XfC T.K C ∧ PySem.W.findIn T.K (.ref C) f = some none) (hm : cn ∈ cs) : AttrOk X T f cn .xf := fun C e => h cn hm C e
theorem ni_nil : ∀ cn ∈ ([] : List Str), NIOk X T cn := fun _ h => by cases h
theorem ni_cons {ni : List Str} (h : NIOk X T cn) (t : ∀ c ∈ ni, NIOk X T c) : ∀ c ∈ cn :: ni, NIOk X T c := fun c hc => by
  rcases List.mem_cons.mp hc with e | e
  · rw [e]; exact h
  · exact t c e
theorem meth_mk {mn : Str} {C fA : Addr} {fd : FuncData} {ps : List Str} {d n : Nat} {mf : List Ar → M D} (hC : T.cls cn = some C) (c : ClF X.K C) (m : Meth X.K C mn fA) (F : FnOk X.prog X.w X.K X.mg X.base (L2.CX X.prog X.w) d fA fd ps (spD T n mf)) (hr : Room d X.A) (hb : Binds X.K fd ps []) : MethOk X T mn cn ⟨n, mf, []⟩ := ⟨C, fA, fd, ps, d, [], [], hC, c.cls, m, F, hr, hb, .nil, fun _ _ _ => .nil⟩
end
end DL
namespace DL
open PySem PySem.Spec PyProof.Rows L2
section
variable {X : Cx} {T : Tb} {W : WX} {a b : Expr} {fa fb : EC} {pos : Pos} {c : Cf} {own : Ow} {Γ : Gm} {x : Bx} {σ : L2.St} {H : Hp} {Q : VK}
/-! ### a new list by + -/
def dCatL : D → D → Option D
  | .lst i, .lst j => if i.length + j.length ≤ 100000 then some (.lst (i ++ j)) else none
  | _, _ => none
theorem ef_two {k : D → D → M D} (h : EF T W (fun Γ => bnd (fa Γ) fun x => bnd (fb Γ) fun y => k x y) σ H Q) : E T W .tr fa σ H fun v H1 => E T W .tr fb σ H1 fun u H2 =>
    ∃ c own Γ x d e H1, Sat T c own Γ x σ H2 ∧ Grow c.b H1 H2 ∧ RepM .tr T c.b H1 (Pp c own) v d ∧ RepM .tr T c.b H2 (Pp c own) u e ∧ FRes T W c own σ H2 Q (k d e x) := by
  obtain ⟨c, own, Γ, x, s, r⟩ := h
  dsimp only at r
  refine ⟨c, own, Γ, x, s, ?_⟩
  cases hf : fa Γ x with
  | no => rw [bnd_no hf] at r; exact r
  | er d x1 => rw [bnd_er hf] at r; exact r
  | ok d x1 =>
    rw [bnd_ok hf] at r
    refine fun v H1 g1 bx1 q1 => ?_
    have s1 := s.grow g1 bx1
    replace r := r.at g1 fun p n => s1.none_back' s g1 n
    refine ⟨c, own, Γ, x1, s1, ?_⟩
    cases hg : fb Γ x1 with
    | no => rw [bnd_no hg] at r; exact r
    | er d x1 => rw [bnd_er hg] at r; exact r
    | ok e x2 =>
      rw [bnd_ok hg] at r
      refine fun u H2 g2 bx2 q2 => ?_
      have s2 := s1.grow g2 bx2
      exact ⟨c, own, Γ, x2, d, e, H1, s2, g2, q1, q2, r.at g2 fun p n => s2.none_back' s1 g2 n⟩
theorem pf_cat (ha : PE X a (E T W .tr fa)) (hb : PE X b (E T W .tr fb)) : PE X (.BinOp a .Add b pos) (EF T W (e2 dCatL fa fb)) :=
  (pe_op op_cat ha hb).mono fun σ H Q h => (ef_two h).imp fun v H1 h1 => h1.imp fun u H2 ⟨c, own, Γ, x, d, e, H0, s, g, q1, q2, r⟩ => by
    cases hz : dCatL d e with
    | none => rw [hz] at r; exact r.elim
    | some z =>
      rw [hz] at r
      cases d <;> try cases hz
      cases e <;> try cases hz
      rename_i i j
      have hz' : (if i.length + j.length ≤ 100000 then some (D.lst (i ++ j)) else none) = some z := hz
      obtain ⟨hl, rfl⟩ := ite_some hz'
      have q1' : RepQ T c.b H2 (Pp c own) v (.lst i) := RepQ.grow g q1
      have q2' : RepQ T c.b H2 (Pp c own) u (.lst j) := q2
      obtain ⟨p, vs, rfl, h1, r1⟩ := q1'.lst
      obtain ⟨q, us, rfl, h2, r2⟩ := q2'.lst
      exact ⟨p, q, vs, us, rfl, rfl, h1, h2, by rw [r1.length, r2.length]; exact sz_of hl, fun w n => r w _ n (Grow.same (Same.upd' n)) (s.bx.same (Same.upd' n)) (own_new n (r1.append r2)) rfl⟩
end
end DL
namespace DL
open PySem PySem.Spec PyProof.Rows L2
/-! ### which exceptions a clause takes, as one reckoning -/
def xtB (T : Tb) (cv : Value) (L : List (Str × Bool)) : Bool := L.all fun p => match T.cls p.1 with
  | some C => decide (PySem.W.exmOne T.K (.ref C) cv = some p.2)
  | none => true
theorem xtB_ok {T : Tb} {cv : Value} {L : List (Str × Bool)} (h : xtB T cv L = true) : XtOk T cv L := fun c k C e eC => by
  have := List.all_eq_true.mp h _ (lookup_mem e)
  dsimp only at this
  rw [eC] at this
  exact of_decide_eq_true this
theorem stOk_mk {K : PySem.W.Frag} {C p f : Addr} {nm : Str} {rest : List Value} (h1 : PySem.W.typeIn K (.ref C) = some (.type "type")) (h2 : PySem.W.readsIn K C (.type "type") = true) (h3 : PySem.W.findCls K (.ref C) (.type "type") nm = some (.get (.builtin "staticmethod.__get__") (.ref p) .none (.ref C))) (h4 : PySem.W.recIn K p "staticmethod" = some (.ref f :: rest)) (h5 : PySem.W.specialIn K (.ref C) "__getattribute__" = some (some (.builtin "type.__getattribute__"))) (h6 : PySem.W.keepIn K (.ref f) = true) : StOk K C nm p f := ⟨h1, h2, h3, ⟨rest, h4⟩, rfl, h5, h6⟩
theorem dfl0 {T : Tb} {a : Addr} (h : KTup T.K a []) : Dfl T [.ref a] [.sh (.tup [])] := fun _ _ _ => .cons (show Rep T _ _ _ _ _ from .tupK h .nil) .nil
end DL

namespace DL
open PySem PySem.Spec PyProof.Rows L2
/-! ### tree code, run by rewriting: what is still to come is not looked into -/
section
variable {α β : Type}
def bR (r : R α) (k : α → Bx → R β) : R β := match r with
  | .ok a x => k a x
  | .er e x => .er e x
  | .no => .no
def rS (r : R α) (Γ : Gm) (k : α → Bx → SR) : SR := match r with
  | .ok a x => k a x
  | .er e x => .er e Γ x
  | .no => .no
def oR (o : Option α) (x : Bx) : R α := match o with
  | some d => .ok d x
  | none => .no
def qR (r : SR) (h : SC) : SR := match r with
  | .nx Γ x => h Γ x
  | r => r
def cR (r : R Bool) (g h : SC) (Γ : Gm) : SR := match r with
  | .ok k x => (if k = true then g else h) Γ x
  | .er e x => .er e Γ x
  | .no => .no
def cE (r : R Bool) (f g : Gm → M α) (Γ : Gm) : R α := match r with
  | .ok k x => (if k = true then f else g) Γ x
  | .er e x => .er e x
  | .no => .no
def fR (r : SR) : R D := match r with
  | .rt d x => .ok d x
  | .nx _ x => .ok .non x
  | .er e _ x => .er e x
  | _ => .no
def iR (cn : Str) (r : SR) : R D := match r with
  | .nx Γ x => oR (selfOf cn Γ) x
  | .er e _ x => .er e x
  | _ => .no
def nR (r : R α) : R α := match r with
  | .er _ _ => .no
  | r => r
variable {r r' : R α} {s s' : SR} {k : α → Bx → R β} {ks : α → Bx → SR} {t t' : R Bool} {g h : SC} {f f' : Gm → M α} {Γ : Gm} {x : Bx} {a : α} {e : D} {cn : Str} {o o' : Option α}
@[simp] theorem bR_ok : bR (.ok a x) k = k a x := rfl
@[simp] theorem bR_er : bR (.er e x : R α) k = .er e x := rfl
@[simp] theorem bR_no : bR (.no : R α) k = .no := rfl
@[simp] theorem rS_ok : rS (.ok a x) Γ ks = ks a x := rfl
@[simp] theorem rS_er : rS (.er e x : R α) Γ ks = .er e Γ x := rfl
@[simp] theorem rS_no : rS (.no : R α) Γ ks = .no := rfl
@[simp] theorem oR_some : oR (some a) x = .ok a x := rfl
@[simp] theorem oR_none : oR (none : Option α) x = .no := rfl
@[simp] theorem qR_nx : qR (.nx Γ x) h = h Γ x := rfl
@[simp] theorem qR_rt {d : D} : qR (.rt d x) h = .rt d x := rfl
@[simp] theorem qR_er {d : D} : qR (.er d Γ x) h = .er d Γ x := rfl
@[simp] theorem qR_bk : qR (.bk Γ x) h = .bk Γ x := rfl
@[simp] theorem qR_ct : qR (.ct Γ x) h = .ct Γ x := rfl
@[simp] theorem qR_no : qR .no h = .no := rfl
@[simp] theorem cR_t : cR (.ok true x) g h Γ = g Γ x := rfl
@[simp] theorem cR_f : cR (.ok false x) g h Γ = h Γ x := rfl
@[simp] theorem cR_er : cR (.er e x) g h Γ = .er e Γ x := rfl
@[simp] theorem cE_t : cE (.ok true x) f f' Γ = f Γ x := rfl
@[simp] theorem cE_f : cE (.ok false x) f f' Γ = f' Γ x := rfl
@[simp] theorem cE_er : cE (.er e x) f f' Γ = .er e x := rfl
@[simp] theorem fR_rt {d : D} : fR (.rt d x) = .ok d x := rfl
@[simp] theorem fR_nx : fR (.nx Γ x) = .ok .non x := rfl
@[simp] theorem fR_er {d : D} : fR (.er d Γ x) = .er d x := rfl
@[simp] theorem iR_nx : iR cn (.nx Γ x) = oR (selfOf cn Γ) x := rfl
@[simp] theorem iR_er {d : D} : iR cn (.er d Γ x) = .er d x := rfl
@[simp] theorem nR_ok : nR (.ok a x) = .ok a x := rfl
end
theorem bnd_bR {α β : Type} {m : M α} {k : α → M β} {x : Bx} : bnd m k x = bR (m x) fun a y => k a y := by
  unfold bnd bR
  cases m x <;> rfl
theorem opt_oR {α : Type} {o : Option α} {x : Bx} : opt o x = oR o x := by cases o <;> rfl
theorem sE_rS {f : EC} {k : D → SC} {Γ : Gm} {x : Bx} : sE f k Γ x = rS (f Γ x) Γ fun d y => k d Γ y := by
  unfold sE rS
  cases f Γ x <;> rfl
section
variable {α : Type} {Γ : Gm} {x : Bx} {f fa fb fo : EC} {fs gs : Gm → M (List Ar)} {ls : AC} {t tg tu : TC} {g h : SC} {i j n m L : Nat} {d : D} {cn fn : Str} {mf : List Ar → M D} {as das : List Ar} {cs : List (Str × (List Ar → M D))} {ni : List Str} {gg : D → D → Option D} {g1 : D → Option D} {gl : List D → Option D}
@[simp] theorem q_c : eC d Γ x = .ok d x := rfl
@[simp] theorem q_pure {a : α} : M.pure a x = .ok a x := rfl
@[simp] theorem q_mno : (M.no : M α) x = .no := rfl
theorem q_var0 : eVarT i Γ x = (match Γ[i]? with | some (.sh d) => .ok d x | some (.bo d) => .ok d x | some (.ow d) => .ok d x | _ => .no) := by
  unfold eVarT
  cases Γ[i]? with
  | none => rfl
  | some s => cases s <;> rfl
theorem q_sh (h : Γ[i]? = some (.sh d)) : eVarT i Γ x = .ok d x := by unfold eVarT; rw [h]; rfl
@[simp] theorem q_varT : eVarT i Γ x = oR ((Γ[i]?).bind fun s => match s with | .sh d => some d | .bo d => some d | .ow d => some d | .no => none) x := by
  unfold eVarT
  cases Γ[i]? with
  | none => rfl
  | some s => cases s <;> rfl
@[simp] theorem q_var : eVar i Γ x = oR ((Γ[i]?).bind fun s => match s with | .sh d => some d | _ => none) x := by
  unfold eVar
  cases Γ[i]? with
  | none => rfl
  | some s => cases s <;> rfl
@[simp] theorem q_varI : eVarI i Γ x = oR ((Γ[i]?).bind fun s => match s with | .sh d => some d | .bo d => if isDic d = true then none else some d | _ => none) x := by
  unfold eVarI
  cases Γ[i]? with
  | none => rfl
  | some s => cases s with
    | bo d =>
      show (if isDic d = true then M.no else M.pure d) x = oR (if isDic d = true then none else some d) x
      cases isDic d <;> rfl
    | _ => rfl
@[simp] theorem isDic_lst (ds : List D) : isDic (.lst ds) = false := rfl
@[simp] theorem isDic_tup (ds : List D) : isDic (.tup ds) = false := rfl
@[simp] theorem isDic_str (z : Str) : isDic (.str z) = false := rfl
@[simp] theorem isDic_obj (z : Str) (fs : List (Str × D)) : isDic (.obj z fs) = false := rfl
@[simp] theorem q_e2 : e2 gg fa fb Γ x = bR (fa Γ x) fun a y => bR (fb Γ y) fun b z => oR (gg a b) z := by
  show bnd _ _ x = _
  simp only [bnd_bR, opt_oR, M.pure]
@[simp] theorem q_e1 : e1 g1 fa Γ x = bR (fa Γ x) fun a y => oR (g1 a) y := by
  show bnd _ _ x = _
  simp only [bnd_bR, opt_oR, M.pure]
@[simp] theorem q_tof : tOf f Γ x = bR (f Γ x) fun a y => asB a y := rfl
@[simp] theorem q_asB {k : Bool} : asB (.bl k) x = .ok k x := rfl
@[simp] theorem q_tnot : tNotC t Γ x = bR (t Γ x) fun k y => .ok (!k) y := rfl
@[simp] theorem q_tyes : tYesC Γ x = .ok true x := rfl
@[simp] theorem q_tand : tAndC t tg Γ x = cE (t Γ x) tg (fun _ => M.pure false) Γ := by
  show bnd _ _ x = _
  unfold bnd cE
  cases t Γ x with
  | ok k y => cases k <;> rfl
  | er => rfl
  | no => rfl
@[simp] theorem q_tor : tOrC t tg Γ x = cE (t Γ x) (fun _ => M.pure true) tg Γ := by
  show bnd _ _ x = _
  unfold bnd cE
  cases t Γ x with
  | ok k y => cases k <;> rfl
  | er => rfl
  | no => rfl
@[simp] theorem q_if : eIf t fa fb Γ x = cE (t Γ x) fa fb Γ := by
  show bnd _ _ x = _
  unfold bnd cE
  cases t Γ x with
  | ok k y => cases k <;> rfl
  | er => rfl
  | no => rfl
@[simp] theorem q_and : eAnd fa fb Γ x = cE (tOf fa Γ x) fb (eC (.bl false)) Γ := by
  show bnd _ _ x = _
  unfold bnd cE
  cases tOf fa Γ x with
  | ok k y => cases k <;> rfl
  | er => rfl
  | no => rfl
@[simp] theorem q_or : eOr fa fb Γ x = cE (tOf fa Γ x) (eC (.bl true)) fb Γ := by
  show bnd _ _ x = _
  unfold bnd cE
  cases tOf fa Γ x with
  | ok k y => cases k <;> rfl
  | er => rfl
  | no => rfl
@[simp] theorem q_not : eNot fa Γ x = bR (tOf fa Γ x) fun k y => .ok (.bl (!k)) y := rfl
@[simp] theorem q_l0 : lNil Γ x = .ok [] x := rfl
@[simp] theorem q_lc : lCons f ls Γ x = bR (f Γ x) fun a y => bR (ls Γ y) fun b z => .ok (a :: b) z := by
  show bnd _ _ x = _
  simp only [bnd_bR, opt_oR, M.pure]
@[simp] theorem q_lst : eLst ls Γ x = bR (ls Γ x) fun a y => .ok (.lst a) y := rfl
@[simp] theorem q_tup : eTup ls Γ x = bR (ls Γ x) fun a y => .ok (.tup a) y := rfl
@[simp] theorem q_B : eB gl ls Γ x = bR (ls Γ x) fun a y => oR (gl a) y := by
  show bnd _ _ x = _
  simp only [bnd_bR, opt_oR, M.pure]
@[simp] theorem q_ono : oNo Γ x = .ok none x := rfl
@[simp] theorem q_oyes : oYes f Γ x = bR (f Γ x) fun a y => oInt a y := rfl
@[simp] theorem q_oint {k : Int} : oInt (.int k) x = .ok (some k) x := rfl
@[simp] theorem q_sl {hh : Option Int → Option Int → D → Option D} {lo hi : Gm → M (Option Int)} : eSl hh f lo hi Γ x = bR (f Γ x) fun a y => bR (lo Γ y) fun p z => bR (hi Γ z) fun q w => oR (hh p q a) w := by
  show bnd _ _ x = _
  simp only [bnd_bR, opt_oR, M.pure]
@[simp] theorem q_a0 : aNil Γ x = .ok [] x := rfl
@[simp] theorem q_ash : aSh f fs Γ x = bR (f Γ x) fun a y => bR (fs Γ y) fun b z => .ok (.sh a :: b) z := by
  show bnd _ _ x = _
  simp only [bnd_bR, opt_oR, M.pure]
@[simp] theorem q_avar : aVar i fs Γ x = bR (oR ((Γ[i]?).bind slAr) x) fun a y => bR (fs Γ y) fun b z => .ok (a :: b) z := by
  show bnd _ _ x = _
  simp only [bnd_bR, opt_oR, M.pure]
@[simp] theorem q_call : eCall (lenOk n mf) [] fs Γ x = bR (fs Γ x) fun a y => lenOk n mf a y := by
  show bnd _ _ x = _
  unfold bnd bR
  cases fs Γ x with
  | ok a y => dsimp only; rw [List.append_nil]
  | er => rfl
  | no => rfl
@[simp] theorem q_len (h : as.length = n) : lenOk n mf as x = mf as x := by unfold lenOk; rw [if_pos h]
@[simp] theorem q_callG {sel : List Src} : eCallG mf n m sel das fs gs Γ x = bR (fs Γ x) fun a y => bR (gs Γ y) fun b z => if a.length = n ∧ b.length = m then mf (srcs sel a b das) z else .no := by
  show bnd _ _ x = _
  unfold bnd bR
  cases fs Γ x with
  | ok a y =>
    dsimp only
    cases gs Γ y with
    | ok b z =>
      dsimp only
      by_cases h : a.length = n ∧ b.length = m
      · rw [if_pos h, if_pos h]
      · rw [if_neg h, if_neg h]; rfl
    | er => rfl
    | no => rfl
  | er => rfl
  | no => rfl
@[simp] theorem q_attr {tab : List (Str × AK)} : eAttr fn tab fo Γ x = bR (fo Γ x) fun a y => attrD fn tab a y := rfl
@[simp] theorem q_nr {z : M α} : noEr z x = nR (z x) := by unfold noEr nR; rfl
def opO (cs : List (Str × (List Ar → M D))) (gg : D → D → Option D) (a b : D) (z : Bx) : R D := (match ownM cs a b with | some mf => mf [.bo a, .bo b] | none => opt (gg a b)) z
def opE (cs : List (Str × (List Ar → M D))) (ni : List Str) (gg : D → D → Option D) (a b : D) (z : Bx) : R D := (match ownM cs a b with | some mf => mf [.bo a, .bo b] | none => if niD ni a b = true then M.pure (.bl false) else opt (gg a b)) z
def opN (cs : List (Str × (List Ar → M D))) (gg : D → D → Option D) (a b : D) (z : Bx) : R D := (match ownM cs a b with | some mf => bnd (mf [.bo a, .bo b]) negB | none => opt (gg a b)) z
@[simp] theorem q_opO : eOpO cs gg fa fb Γ x = bR (fa Γ x) fun a y => bR (fb Γ y) fun b z => opO cs gg a b z := by
  show bnd _ _ x = _
  unfold bnd bR
  cases fa Γ x with
  | ok a y => dsimp only; cases fb Γ y <;> rfl
  | er => rfl
  | no => rfl
@[simp] theorem q_opE : eEqO cs ni gg fa fb Γ x = bR (fa Γ x) fun a y => bR (fb Γ y) fun b z => opE cs ni gg a b z := by
  show bnd _ _ x = _
  unfold bnd bR
  cases fa Γ x with
  | ok a y => dsimp only; cases fb Γ y <;> rfl
  | er => rfl
  | no => rfl
@[simp] theorem q_opN : eNeO cs gg fa fb Γ x = bR (fa Γ x) fun a y => bR (fb Γ y) fun b z => opN cs gg a b z := by
  show bnd _ _ x = _
  unfold bnd bR
  cases fa Γ x with
  | ok a y => dsimp only; cases fb Γ y <;> rfl
  | er => rfl
  | no => rfl
@[simp] theorem q_iseq : iSeq f Γ x = bR (f Γ x) fun a y => oR (items a) y := by
  show bnd _ _ x = _
  simp only [bnd_bR, opt_oR, M.pure]
@[simp] theorem q_range1 : iRange1 ls Γ x = bR (ls Γ x) fun a y => oR (rng1 a) y := by
  show bnd _ _ x = _
  simp only [bnd_bR, opt_oR, M.pure]
@[simp] theorem q_range2 : iRange2 ls Γ x = bR (ls Γ x) fun a y => oR (rng2 a) y := by
  show bnd _ _ x = _
  simp only [bnd_bR, opt_oR, M.pure]
@[simp] theorem q_enum : iEnumC f Γ x = bR (f Γ x) fun a y => oR ((lsD a).map enumD) y := by
  show bnd _ _ x = _
  simp only [bnd_bR, opt_oR, M.pure]
@[simp] theorem q_zip : iZip fa fb Γ x = bR (fa Γ x) fun a y => bR (fb Γ y) fun b z => oR (dZip (a, b)) z := by
  show bnd (p2 fa fb Γ) _ x = _
  unfold p2
  rw [bnd_bR, bnd_bR]
  unfold bR
  cases fa Γ x with
  | ok a y =>
    dsimp only
    rw [bnd_bR]
    unfold bR
    cases fb Γ y with
    | ok b z => dsimp only [M.pure]; exact opt_oR
    | er => rfl
    | no => rfl
  | er => rfl
  | no => rfl
@[simp] theorem q_elc {fi : AC} {tc : GC} {tst : TC} {fe : EC} {vs : List Nat} : eLc fi tc tst fe vs Γ x = bR (fi Γ x) fun ds y => if ds.length ≤ 100000 then bR (lcGo tc tst fe (wipeG Γ vs) ds y) fun ys z => .ok (.lst ys) z else .no := by
  show bnd _ _ x = _
  unfold bnd bR
  cases fi Γ x with
  | ok ds y =>
    dsimp only
    by_cases h : ds.length ≤ 100000
    · rw [if_pos h, if_pos h]; rfl
    · rw [if_neg h, if_neg h]; rfl
  | er => rfl
  | no => rfl
@[simp] theorem q_lcnil {tc : GC} {tst : TC} {fe : EC} : lcGo tc tst fe Γ [] x = .ok [] x := rfl
theorem q_lccons {tc : GC} {fe : EC} {ds : List D} {Γ1 : Gm} (h1 : tc d Γ = some Γ1) : lcGo tc tYesC fe Γ (d :: ds) x = bR (nR (fe Γ1 x)) fun y z => bR (lcGo tc tYesC fe Γ ds z) fun ys w => .ok (y :: ys) w := by
  show (match tc d Γ with | none => R.no | some Γ1 => bnd (noEr (tYesC Γ1)) (fun k => if k = true then bnd (noEr (fe Γ1)) fun y => bnd (lcGo tc tYesC fe Γ ds) fun ys => M.pure (y :: ys) else lcGo tc tYesC fe Γ ds) x) = _
  rw [h1]
  show bnd (noEr (fe Γ1)) (fun y => bnd (lcGo tc tYesC fe Γ ds) fun ys => M.pure (y :: ys)) x = _
  simp only [bnd_bR, q_nr, M.pure]
/-! statements -/
@[simp] theorem q_seq : sSeq g h Γ x = qR (g Γ x) h := rfl
@[simp] theorem q_next : sNext Γ x = .nx Γ x := rfl
@[simp] theorem q_break : sBreak Γ x = .bk Γ x := rfl
@[simp] theorem q_cont : sCont Γ x = .ct Γ x := rfl
@[simp] theorem q_ret : sRet f Γ x = rS (f Γ x) Γ fun d y => .rt d y := sE_rS
@[simp] theorem q_sif : sIf t g h Γ x = cR (t Γ x) g h Γ := by
  show sT t _ Γ x = _
  unfold sT cR
  cases t Γ x with
  | ok k y => cases k <;> rfl
  | er => rfl
  | no => rfl
@[simp] theorem q_asg : sAsg i f Γ x = rS (f Γ x) Γ fun d y => .nx (Γ.set i (.sh d)) y := sE_rS
@[simp] theorem q_own : sOwn i f Γ x = rS (f Γ x) Γ fun d y => .nx (Γ.set i (.ow d)) y := sE_rS
def gR (o : Option Gm) (y : Bx) : SR := match o with
  | some Γ => .nx Γ y
  | none => .no
@[simp] theorem gR_some : gR (some Γ) x = .nx Γ x := rfl
@[simp] theorem q_asgG {tg : GC} : sAsgG tg f Γ x = rS (f Γ x) Γ fun d y => gR (tg d Γ) y := by
  show sE f _ Γ x = _
  unfold sE rS
  cases f Γ x with
  | ok d y => dsimp only; cases tg d Γ <;> rfl
  | er => rfl
  | no => rfl
@[simp] theorem q_for {fi : AC} {tg : GC} : sFor fi tg g Γ x = rS (fi Γ x) Γ fun ds y => forGo tg g ds Γ y := by
  unfold sFor rS
  cases fi Γ x <;> rfl
@[simp] theorem q_for0 {tg : GC} : forGo tg g [] Γ x = .nx Γ x := rfl
def lR (r : SR) (k : SC) : SR := match r with
  | .nx Γ x => k Γ x
  | .ct Γ x => k Γ x
  | .bk Γ x => .nx Γ x
  | r => r
theorem q_for1 {tg : GC} {ds : List D} {Γ1 : Gm} (h1 : tg d Γ = some Γ1) : forGo tg g (d :: ds) Γ x = lR (g Γ1 x) (forGo tg g ds) := by
  rw [forGo, h1]
  rfl
@[simp] theorem lR_nx {k : SC} : lR (.nx Γ x) k = k Γ x := rfl
@[simp] theorem lR_ct {k : SC} : lR (.ct Γ x) k = k Γ x := rfl
@[simp] theorem lR_bk {k : SC} : lR (.bk Γ x) k = .nx Γ x := rfl
@[simp] theorem lR_rt {k : SC} : lR (.rt d x) k = .rt d x := rfl
theorem q_wh : whGo t g (n + 1) Γ x = cR (t Γ x) (fun Γ x => lR (g Γ x) (whGo t g n)) sNext Γ := by
  show sT t _ Γ x = _
  unfold sT cR
  cases t Γ x with
  | ok k y => cases k <;> rfl
  | er => rfl
  | no => rfl
@[simp] theorem q_frz : sFrz i g Γ x = g (frz i Γ) x := rfl
def aR (o : Option (List D)) (k : List D → SR) : SR := match o with
  | some ds => k ds
  | none => .no
@[simp] theorem aR_some {ds : List D} {k : List D → SR} : aR (some ds) k = k ds := rfl
@[simp] theorem q_app : sApp i f Γ x = aR (ownL Γ i) fun ds => rS (f Γ x) Γ fun d y => if ds.length < 100000 then .nx (Γ.set i (.ow (.lst (ds ++ [d])))) y else .no := by
  unfold sApp aR
  cases ownL Γ i with
  | none => rfl
  | some ds => exact sE_rS
@[simp] theorem q_fld : sFld i cn fn f Γ x = rS (f Γ x) Γ fun d y => (match Γ[i]? with
    | some (.ow (.obj c fs)) => if c = cn ∧ fs.length < 900 then .nx (Γ.set i (.ow (.obj c (putD fn d fs)))) y else .no
    | _ => .no) := sE_rS
@[simp] theorem q_raise : sRaise f Γ x = (match f Γ x with | .ok d x => .er d Γ x | .er d x => .er d Γ x | .no => .no) := rfl
def setR (Γ : Gm) (i : Nat) (ds : List D) (d k : D) (z : Bx) : SR := match k with
  | .int k => match ixN ds.length k with
    | some n => .nx (Γ.set i (.ow (.lst (ds.set n d)))) z
    | none => .no
  | _ => .no
@[simp] theorem q_setL {fk : EC} : sSetL i fk f Γ x = aR (ownL Γ i) fun ds => rS (f Γ x) Γ fun d y => rS (fk Γ y) Γ fun k z => setR Γ i ds d k z := by
  unfold sSetL aR
  cases ownL Γ i with
  | none => rfl
  | some ds =>
    dsimp only
    rw [sE_rS]
    congr 1
    funext d y
    exact sE_rS
theorem setR_ok {ds : List D} {k : Int} {n : Nat} (h : ixN ds.length k = some n) : setR Γ i ds d (.int k) x = .nx (Γ.set i (.ow (.lst (ds.set n d)))) x := by
  show (match ixN ds.length k with | some n => _ | none => _) = _
  rw [h]
def tyR (i j : Nat) (L : List (Str × Bool)) (r : SR) : SR := match r with
  | .er (.exc c fs) Γ' x' => match L.lookup c with
    | some true => .nx (((Γ'.set i (.sh (.exc c fs))).set j (.sh (.exc c fs))).set i .no) x'
    | some false => .er (.exc c fs) Γ' x'
    | none => .no
  | .er _ _ _ => .no
  | r => r
@[simp] theorem q_try {L : List (Str × Bool)} : sTry i j L g Γ x = tyR i j L (g Γ x) := rfl
@[simp] theorem tyR_nx {L : List (Str × Bool)} : tyR i j L (.nx Γ x) = .nx Γ x := rfl
@[simp] theorem tyR_rt {L : List (Str × Bool)} : tyR i j L (.rt d x) = .rt d x := rfl
theorem tyR_er {L : List (Str × Bool)} {c : Str} {fs : List (Str × D)} (h : L.lookup c = some true) : tyR i j L (.er (.exc c fs) Γ x) = .nx (((Γ.set i (.sh (.exc c fs))).set j (.sh (.exc c fs))).set i .no) x := by
  show (match L.lookup c with | some true => _ | some false => _ | none => _) = _
  rw [h]
theorem tyR_up {L : List (Str × Bool)} {c : Str} {fs : List (Str × D)} (h : L.lookup c = some false) : tyR i j L (.er (.exc c fs) Γ x) = .er (.exc c fs) Γ x := by
  show (match L.lookup c with | some true => _ | some false => _ | none => _) = _
  rw [h]
/-! defs -/
@[simp] theorem q_of : mOf L g as x = fR (g (as.map arSl ++ List.replicate (L - as.length) .no) x) := rfl
theorem q_init : mInit L cn g as x = iR cn (g (.ow (.obj cn []) :: (as.map arSl ++ List.replicate (L - (as.length + 1)) .no)) x) := by
  unfold mInit iR
  cases g (.ow (.obj cn []) :: (as.map arSl ++ List.replicate (L - (as.length + 1)) .no)) x with
  | nx Γ y => dsimp only; cases selfOf cn Γ <;> rfl
  | rt => rfl
  | bk => rfl
  | ct => rfl
  | er => rfl
  | no => rfl
end
section
@[simp] theorem arSl_sh {d : D} : arSl (.sh d) = .sh d := rfl
@[simp] theorem arSl_bo {d : D} : arSl (.bo d) = .bo d := rfl
@[simp] theorem slAr_sh {d : D} : slAr (.sh d) = some (.sh d) := rfl
@[simp] theorem slAr_bo {d : D} : slAr (.bo d) = some (.bo d) := rfl
@[simp] theorem slAr_ow {d : D} : slAr (.ow d) = some (.bo d) := rfl
@[simp] theorem gN_is {i : Nat} {d : D} {Γ : Gm} : gN i d Γ = some (Γ.set i (.sh d)) := rfl
@[simp] theorem gsN_is {Γ : Gm} : gsN [] Γ = some Γ := rfl
@[simp] theorem gsC_is {t : GC} {ts : List D → Gm → Option Gm} {d : D} {ds : List D} {Γ : Gm} : gsC t ts (d :: ds) Γ = (t d Γ).bind fun Γ' => ts ds Γ' := rfl
@[simp] theorem lend_sh {d : D} : lend (.sh d) = .sh d := rfl
@[simp] theorem lend_bo {d : D} : lend (.bo d) = .bo d := rfl
@[simp] theorem lend_ow {d : D} : lend (.ow d) = .bo d := rfl
@[simp] theorem lend_no : lend .no = .no := rfl
@[simp] theorem wipe0 {Γ : Gm} : wipeG Γ [] = Γ.map lend := rfl
@[simp] theorem wipe1 {Γ : Gm} {v : Nat} {vs : List Nat} : wipeG Γ (v :: vs) = (wipeG Γ vs).set v .no := rfl
end
/-! what is still to come is not looked into -/
section
variable {α β : Type} {r r' : R α} {s s' : SR} {k : α → Bx → R β} {ks : α → Bx → SR} {t t' : R Bool} {g h : SC} {f f' : Gm → M α} {Γ : Gm} {x : Bx} {a : α} {e : D} {cn : Str} {o o' : Option α}
theorem bR_congr (h : r = r') : bR r k = bR r' k := by rw [h]
theorem rS_congr (h : r = r') : rS r Γ ks = rS r' Γ ks := by rw [h]
theorem qR_congr (e : s = s') : qR s h = qR s' h := by rw [e]
theorem cR_congr (e : t = t') : cR t g h Γ = cR t' g h Γ := by rw [e]
theorem cE_congr (e : t = t') : cE t f f' Γ = cE t' f f' Γ := by rw [e]
theorem lR_congr {s s' : SR} {k : SC} (e : s = s') : lR s k = lR s' k := by rw [e]
theorem aR_congr {o o' : Option (List D)} {k : List D → SR} (e : o = o') : aR o k = aR o' k := by rw [e]
end
end DL

namespace DL
open PySem PySem.Spec PyProof.Rows L2
/-! ### rows of numbers as data -/
@[simp] abbrev iL (xs : List Int) : D := .lst (xs.map D.int)
@[simp] abbrev iT (xs : List Int) : D := .tup (xs.map D.int)
theorem toPys_int : ∀ xs : List Int, toPys (xs.map D.int) = some (xs.map PyData.int)
  | [] => rfl
  | a :: r => by
    show (toPy (.int a)).bind _ = _
    show (toPys (r.map D.int)).map _ = _
    rw [toPys_int r]
    rfl
theorem canLay_int : ∀ xs : List Int, PyData.canLayAll0 (xs.map PyData.int) = true
  | [] => by simp only [List.map_nil, PyData.canLayAll0]
  | a :: r => by simp only [List.map_cons, PyData.canLayAll0, PyData.canLay0, canLay_int r, Bool.and_self]
theorem depth_int : ∀ xs : List Int, PyData.depthAll (xs.map PyData.int) = 0
  | [] => by simp only [List.map_nil, PyData.depthAll]
  | a :: r => by simp only [List.map_cons, PyData.depthAll, PyData.depth, depth_int r, Nat.max_self]
theorem eqvAll_int : ∀ xs ys : List Int, PyData.eqvAll (xs.map PyData.int) (ys.map PyData.int) = decide (xs = ys)
  | [], [] => by simp [PyData.eqvAll]
  | [], b :: s => by simp [PyData.eqvAll]
  | a :: r, [] => by simp [PyData.eqvAll]
  | a :: r, b :: s => by
    simp only [List.map_cons, PyData.eqvAll, PyData.eqv, eqvAll_int r s]
    by_cases h : a = b
    · subst h; simp
    · simp [h]
theorem shaped_l (xs : List Int) : SeqAt.shaped (.list (xs.map PyData.int)) = true := by
  unfold SeqAt.shaped
  simp only [PyData.canLay0, PyData.depth, canLay_int, depth_int]
  decide
theorem shaped_t (xs : List Int) : SeqAt.shaped (.tuple (xs.map PyData.int)) = true := by
  unfold SeqAt.shaped
  simp only [PyData.canLay0, PyData.depth, canLay_int, depth_int]
  decide
theorem dEq_iL (f : Bool → Bool) (xs ys : List Int) : dEqU f (iL xs) (iL ys) = some (.bl (f (decide (xs = ys)))) := by
  show dEqB f (iL xs) (iL ys) = _
  unfold dEqB
  rw [show toPy (iL xs) = some (.list (xs.map PyData.int)) by show (toPys _).map _ = _; rw [toPys_int]; rfl, show toPy (iL ys) = some (.list (ys.map PyData.int)) by show (toPys _).map _ = _; rw [toPys_int]; rfl]
  show (if _ then _ else _) = _
  rw [if_pos ⟨shaped_l xs, shaped_l ys⟩]
  simp only [PyData.eqv, eqvAll_int]
theorem dEq_iT (f : Bool → Bool) (xs ys : List Int) : dEqU f (iT xs) (iT ys) = some (.bl (f (decide (xs = ys)))) := by
  show dEqB f (iT xs) (iT ys) = _
  unfold dEqB
  rw [show toPy (iT xs) = some (.tuple (xs.map PyData.int)) by show (toPys _).map _ = _; rw [toPys_int]; rfl, show toPy (iT ys) = some (.tuple (ys.map PyData.int)) by show (toPys _).map _ = _; rw [toPys_int]; rfl]
  show (if _ then _ else _) = _
  rw [if_pos ⟨shaped_t xs, shaped_t ys⟩]
  simp only [PyData.eqv, eqvAll_int]
@[simp] theorem dEq_l (f : Bool → Bool) (xs ys : List Int) : dEqU f (.lst (xs.map D.int)) (.lst (ys.map D.int)) = some (.bl (f (decide (xs = ys)))) := dEq_iL f xs ys
@[simp] theorem dEq_l0 (f : Bool → Bool) (xs : List Int) : dEqU f (.lst (xs.map D.int)) (.lst []) = some (.bl (f (decide (xs = [])))) := dEq_iL f xs []
@[simp] theorem dEq_l00 (f : Bool → Bool) : dEqU f (.lst []) (.lst []) = some (.bl (f true)) := dEq_iL f [] []
@[simp] theorem dEq_lc (f : Bool → Bool) (a : Int) (xs : List Int) : dEqU f (.lst (.int a :: xs.map D.int)) (.lst []) = some (.bl (f false)) := dEq_iL f (a :: xs) []
@[simp] theorem dEq_t (f : Bool → Bool) (xs ys : List Int) : dEqU f (.tup (xs.map D.int)) (.tup (ys.map D.int)) = some (.bl (f (decide (xs = ys)))) := dEq_iT f xs ys
@[simp] theorem dEq_t0 (f : Bool → Bool) (xs : List Int) : dEqU f (.tup (xs.map D.int)) (.tup []) = some (.bl (f (decide (xs = [])))) := dEq_iT f xs []
@[simp] theorem dEq_t00 (f : Bool → Bool) : dEqU f (.tup []) (.tup []) = some (.bl (f true)) := dEq_iT f [] []
@[simp] theorem dEq_tc (f : Bool → Bool) (a : Int) (xs : List Int) : dEqU f (.tup (.int a :: xs.map D.int)) (.tup []) = some (.bl (f false)) := dEq_iT f (a :: xs) []
/-! order from the left -/
def lexI : List Int → List Int → Bool
  | [], [] => false
  | [], _ :: _ => true
  | _ :: _, [] => false
  | a :: r, b :: s => decide (a < b) || (decide (a = b) && lexI r s)
open PySem.W (keyToks keyToksAll alike alikeAll dataLt)
theorem lex_irr : ∀ t : List (Int ⊕ List Nat), PyProof.Rows.lexLt itemOrd t t = false
  | [] => rfl
  | a :: t => (lex_self (O := itemOrd) a t t).trans (lex_irr t)
theorem lex_row : ∀ (xs ys : List Int) (t : List (Int ⊕ List Nat)), PyProof.Rows.lexLt itemOrd (keyToksAll (xs.map PyData.int) ++ t) (keyToksAll (ys.map PyData.int) ++ t) = lexI xs ys
  | [], [], t => by
    simp only [List.map_nil, keyToksAll, List.cons_append, List.nil_append]
    exact (lex_self (O := itemOrd) _ t t).trans (lex_irr t)
  | [], b :: s, t => by
    simp only [List.map_nil, List.map_cons, keyToksAll, List.cons_append, List.nil_append]
    exact (lex_diff (O := itemOrd) (fun h => by cases h)).trans rfl
  | a :: r, [], t => by
    simp only [List.map_nil, List.map_cons, keyToksAll, List.cons_append, List.nil_append]
    exact (lex_diff (O := itemOrd) (fun h => by cases h)).trans rfl
  | a :: r, b :: s, t => by
    simp only [List.map_cons, keyToksAll, keyToks, List.cons_append, List.nil_append]
    refine (lex_self (O := itemOrd) _ _ _).trans ?_
    by_cases h : a = b
    · subst h
      refine (lex_self (O := itemOrd) _ _ _).trans ((lex_row r s t).trans ?_)
      simp [lexI]
    · refine (lex_diff (O := itemOrd) (fun z => h (by cases z; rfl))).trans ?_
      show decide (a < b) = _
      simp [lexI, h]
theorem alike_int : ∀ xs ys : List Int, alikeAll (xs.map PyData.int) (ys.map PyData.int) = true
  | [], _ => by simp [alikeAll]
  | _ :: _, [] => by simp [alikeAll]
  | a :: r, b :: s => by simp only [List.map_cons, alikeAll, alike, alike_int r s, Bool.and_self]
/-- a number and a row -/
@[simp] abbrev kT (n : Int) (xs : List Int) : D := .tup [.int n, iT xs]
abbrev kP (n : Int) (xs : List Int) : PyData := .tuple [.int n, .tuple (xs.map PyData.int)]
theorem toPy_k (n : Int) (xs : List Int) : toPy (kT n xs) = some (kP n xs) := by
  show (toPys [.int n, iT xs]).map _ = _
  have h : toPy (iT xs) = some (.tuple (xs.map PyData.int)) := by show (toPys _).map _ = _; rw [toPys_int]; rfl
  show Option.map _ ((toPy (.int n)).bind fun p => ((toPy (iT xs)).bind fun p => (toPys []).map (p :: ·)).map (p :: ·)) = _
  rw [h]
  rfl
def lexK (n : Int) (xs : List Int) (m : Int) (ys : List Int) : Bool := decide (n < m) || (decide (n = m) && lexI xs ys)
theorem lt_k (n m : Int) (xs ys : List Int) : dataLt (kP n xs) (kP m ys) = lexK n xs m ys := by
  unfold dataLt
  simp only [keyToks, keyToksAll, List.cons_append, List.nil_append, List.append_assoc]
  refine (lex_self (O := itemOrd) _ _ _).trans ?_
  by_cases h : n = m
  · subst h
    refine (lex_self (O := itemOrd) _ _ _).trans ((lex_self (O := itemOrd) _ _ _).trans ((lex_row xs ys _).trans ?_))
    simp [lexK]
  · refine (lex_diff (O := itemOrd) (fun z => h (by cases z; rfl))).trans ?_
    show decide (n < m) = _
    simp [lexK, h]
theorem alike_k (n m : Int) (xs ys : List Int) : alike (kP n xs) (kP m ys) = true := by simp only [alike, alikeAll, alike_int, Bool.and_self]
theorem depth_k (n : Int) (xs : List Int) : (kP n xs).depth ≤ 64 := by
  simp only [PyData.depth, PyData.depthAll, depth_int]
  decide
theorem ord_k (op : CmpOp) (g : Int → Int → Bool) (n m : Int) (xs ys : List Int) : dOrdU op g (kT n xs) (kT m ys) = some (.bl (ordF op (kP n xs) (kP m ys))) := by
  show ordB (ordF op) (kT n xs) (kT m ys) = _
  unfold ordB
  rw [toPy_k, toPy_k]
  show (if _ then _ else _) = _
  rw [if_pos ⟨alike_k n m xs ys, depth_k n xs, rfl⟩]
@[simp] theorem lt_kT (n m : Int) (xs ys : List Int) : dLtU (kT n xs) (kT m ys) = some (.bl (lexK n xs m ys)) := by rw [dLtU, ord_k]; simp only [ordF, lt_k]
@[simp] theorem gt_kT (n m : Int) (xs ys : List Int) : dGtU (kT n xs) (kT m ys) = some (.bl (lexK m ys n xs)) := by rw [dGtU, ord_k]; simp only [ordF, lt_k]
@[simp] theorem le_kT (n m : Int) (xs ys : List Int) : dLeU (kT n xs) (kT m ys) = some (.bl (!lexK m ys n xs)) := by rw [dLeU, ord_k]; simp only [ordF, lt_k]
@[simp] theorem ge_kT (n m : Int) (xs ys : List Int) : dGeU (kT n xs) (kT m ys) = some (.bl (!lexK n xs m ys)) := by rw [dGeU, ord_k]; simp only [ordF, lt_k]
theorem shaped_k (n : Int) (xs : List Int) : SeqAt.shaped (kP n xs) = true := by
  unfold SeqAt.shaped
  simp only [PyData.canLay0, PyData.canLayAll0, PyData.depth, PyData.depthAll, canLay_int, depth_int]
  decide
@[simp] theorem eq_kT (f : Bool → Bool) (n m : Int) (xs ys : List Int) : dEqU f (kT n xs) (kT m ys) = some (.bl (f (decide (n = m ∧ xs = ys)))) := by
  show dEqB f (kT n xs) (kT m ys) = _
  unfold dEqB
  rw [toPy_k, toPy_k]
  show (if _ then _ else _) = _
  rw [if_pos ⟨shaped_k n xs, shaped_k m ys⟩]
  simp only [PyData.eqv, PyData.eqvAll, eqvAll_int, Bool.and_true]
  congr 3
  by_cases h : n = m <;> by_cases h2 : xs = ys <;> simp [h, h2]
/-! numbers, lengths, places -/
@[simp] theorem s_add (i j : Int) : dAdd (.int i) (.int j) = some (.int (i + j)) := rfl
@[simp] theorem s_sub (i j : Int) : dSub (.int i) (.int j) = some (.int (i - j)) := rfl
@[simp] theorem s_neg (i : Int) : dNeg (.int i) = some (.int (-i)) := rfl
@[simp] theorem s_lt (i j : Int) : dLtU (.int i) (.int j) = some (.bl (decide (i < j))) := rfl
@[simp] theorem s_le (i j : Int) : dLeU (.int i) (.int j) = some (.bl (decide (i ≤ j))) := rfl
@[simp] theorem s_gt (i j : Int) : dGtU (.int i) (.int j) = some (.bl (decide (j < i))) := rfl
@[simp] theorem s_ge (i j : Int) : dGeU (.int i) (.int j) = some (.bl (decide (j ≤ i))) := rfl
@[simp] theorem s_eqI (f : Bool → Bool) (i j : Int) : dEqU f (.int i) (.int j) = some (.bl (f (decide (i = j)))) := by
  show (if SeqAt.shaped (.int i) = true ∧ SeqAt.shaped (.int j) = true then some (D.bl (f (PyData.eqv (.int i) (.int j)))) else none) = _
  rw [if_pos ⟨rfl, rfl⟩]
  simp only [PyData.eqv]
  congr 3
@[simp] theorem s_eqS (f : Bool → Bool) (i j : Str) : dEqU f (.str i) (.str j) = some (.bl (f (decide (i = j)))) := rfl
@[simp] theorem s_lenL (ds : List D) : dLen [.lst ds] = some (.int ds.length) := rfl
@[simp] theorem s_lenT (ds : List D) : dLen [.tup ds] = some (.int ds.length) := rfl
@[simp] theorem s_listL (ds : List D) : dListU [.lst ds] = some (.lst ds) := rfl
@[simp] theorem s_listT (ds : List D) : dListU [.tup ds] = some (.lst ds) := rfl
@[simp] theorem s_tupL (ds : List D) : dTupOf [.lst ds] = some (.tup ds) := rfl
@[simp] theorem s_tupT (ds : List D) : dTupOf [.tup ds] = some (.tup ds) := rfl
@[simp] theorem s_ixL0 (d : D) (ds : List D) : dIx (.lst (d :: ds)) (.int 0) = some d := by
  show atI _ _ = _
  unfold atI ixN
  rw [if_pos (by decide), if_pos (by rw [List.length_cons]; omega)]
  rfl
@[simp] theorem s_ixT0 (d : D) (ds : List D) : dIx (.tup (d :: ds)) (.int 0) = some d := by
  show atI _ _ = _
  unfold atI ixN
  rw [if_pos (by decide), if_pos (by rw [List.length_cons]; omega)]
  rfl
@[simp] theorem s_isN (f : Bool → Bool) (d : D) : dIsN f d .non = some (.bl (f (isNonD d))) := rfl
@[simp] theorem s_itL (ds : List D) : items (.lst ds) = some ds := rfl
@[simp] theorem s_itT (ds : List D) : items (.tup ds) = some ds := rfl
@[simp] theorem s_tail (d : D) (ds : List D) : dSl (some 1) none (.lst (d :: ds)) = some (.lst ds) := by
  show some (D.lst (cutD _ _ _)) = _
  unfold cutD
  rw [show HT.sIx (d :: ds).length 0 (some 1) = 1 from HT.sIx_nat _ 0 1 |>.trans (by simp), HT.sIx_none]
  simp
theorem s_ixL {xs : List Int} {i : Int} (h0 : 0 ≤ i) (h1 : i < xs.length) : dIx (iL xs) (.int i) = some (.int (xs.getD i.toNat 0)) := by
  show atI _ _ = _
  unfold atI ixN
  rw [if_pos h0, List.length_map, if_pos h1]
  show (xs.map D.int)[i.toNat]? = _
  have h : i.toNat < xs.length := by omega
  rw [List.getElem?_map, List.getD_eq_getElem?_getD, List.getElem?_eq_getElem h]
  rfl
/-! loops over rows -/
theorem lc_map {α : Type} {tc : GC} {fe : EC} {Γ : Gm} {x : Bx} (f g : α → D) : ∀ (xs : List α), (∀ a ∈ xs, ∃ Γ1, tc (f a) Γ = some Γ1 ∧ fe Γ1 x = .ok (g a) x) → lcGo tc tYesC fe Γ (xs.map f) x = .ok (xs.map g) x
  | [], _ => rfl
  | a :: r, h => by
    obtain ⟨Γ1, h1, h2⟩ := h a List.mem_cons_self
    rw [List.map_cons, q_lccons h1, h2]
    simp [lc_map f g r fun b hb => h b (List.mem_cons_of_mem _ hb)]
theorem lc_filter {α : Type} {tc : GC} {tst : TC} {fe : EC} {Γ : Gm} {x : Bx} (f g : α → D) (p : α → Bool) : ∀ (xs : List α), (∀ a ∈ xs, ∃ Γ1, tc (f a) Γ = some Γ1 ∧ tst Γ1 x = .ok (p a) x ∧ (p a = true → fe Γ1 x = .ok (g a) x)) → lcGo tc tst fe Γ (xs.map f) x = .ok ((xs.filter p).map g) x
  | [], _ => rfl
  | a :: r, h => by
    obtain ⟨Γ1, h1, h2, h3⟩ := h a List.mem_cons_self
    have ih := lc_filter f g p r fun b hb => h b (List.mem_cons_of_mem _ hb)
    rw [List.map_cons]
    show (match tc (f a) Γ with | none => R.no | some Γ1 => bnd (noEr (tst Γ1)) (fun k => if k = true then bnd (noEr (fe Γ1)) fun y => bnd (lcGo tc tst fe Γ (r.map f)) fun ys => M.pure (y :: ys) else lcGo tc tst fe Γ (r.map f)) x) = _
    rw [h1]
    dsimp only
    rw [bnd_ok (a := p a) (y := x) (by rw [q_nr, h2]; rfl)]
    cases hp : p a with
    | true =>
      rw [if_pos rfl, bnd_ok (a := g a) (y := x) (by rw [q_nr, h3 hp]; rfl), bnd_ok ih]
      simp [hp, M.pure]
    | false =>
      rw [if_neg Bool.false_ne_true, ih]
      simp [hp]
theorem for_inv {t : GC} {g : SC} {P : Nat → Gm → Bx → Prop} (step : ∀ (d : D) (n : Nat) (Γ : Gm) (x : Bx), P (n + 1) Γ x → ∃ Γ1 Γ2 x2, t d Γ = some Γ1 ∧ g Γ1 x = .nx Γ2 x2 ∧ P n Γ2 x2) : ∀ (ds : List D) (Γ : Gm) (x : Bx), P ds.length Γ x → ∃ Γ' x', forGo t g ds Γ x = .nx Γ' x' ∧ P 0 Γ' x'
  | [], Γ, x, h => ⟨Γ, x, rfl, h⟩
  | d :: ds, Γ, x, h => by
    obtain ⟨Γ1, Γ2, x2, h1, h2, h3⟩ := step d ds.length Γ x h
    obtain ⟨Γ', x', h4, h5⟩ := for_inv step ds Γ2 x2 h3
    exact ⟨Γ', x', by rw [q_for1 h1, h2]; exact h4, h5⟩
end DL

namespace DL
open PySem PySem.Spec PyProof.Rows L2
/-! ### dicts with keys that are ints and texts -/
def keyD : D → Option Key
  | .int i => some (.inl i)
  | .str z => some (.inr z)
  | _ => none
def valD (kvs : List (Key × D)) (k : Key) : Option D := (kvs.find? fun kv => decide (kv.1 = k)).map (·.2)
def putKD (kvs : List (Key × D)) (k : Key) (d : D) : List (Key × D) :=
  if (kvs.any fun kv => decide (kv.1 = k)) = true then kvs.map (fun kv => if kv.1 = k then (kv.1, d) else kv) else kvs ++ [(k, d)]
section
variable {T : Tb} {b : Option Addr} {H : Hp} {P : Addr → Prop} {v : V} {k : Key}
theorem keyD_rep {d : D} (h : RepQ T b H P v d) (e : keyD d = some k) : v = kV k := by
  cases d <;> try cases e
  · rw [h.int]; rfl
  · rw [h.str]; rfl
theorem valD_nil : valD [] k = none := rfl
theorem valD_pos {p : Key × D} {r : List (Key × D)} (e : p.1 = k) : valD (p :: r) k = some p.2 := by simp [valD, List.find?_cons, e]
theorem valD_neg {p : Key × D} {r : List (Key × D)} (e : ¬ p.1 = k) : valD (p :: r) k = valD r k := by simp [valD, List.find?_cons, e]
theorem RepK.val {kvs : List (Key × V)} {ds : List (Key × D)} (h : RepK T b H P kvs ds) (k : Key) : (valD ds k = none → valV kvs k = none) ∧ ∀ d, valD ds k = some d → ∃ v, valV kvs k = some v ∧ Rep T b H P v d := by
  induction ds generalizing kvs with
  | nil => cases h; exact ⟨fun _ => rfl, fun d e => nomatch e⟩
  | cons p ds ih => cases h with
    | @cons k' v d vs _ h1 h2 =>
      by_cases e : k' = k
      · rw [valD_pos (p := (k', d)) e, valV_pos (p := (k', v)) e]
        exact ⟨fun z => (nomatch z), fun d' z => by cases z; exact ⟨v, rfl, h1⟩⟩
      · rw [valD_neg (p := (k', d)) e, valV_neg (p := (k', v)) e]
        exact ih h2
theorem RepK.any {kvs : List (Key × V)} {ds : List (Key × D)} (h : RepK T b H P kvs ds) (k : Key) : (kvs.any fun kv => decide (kv.1 = k)) = ds.any fun kv => decide (kv.1 = k) := by
  induction ds generalizing kvs with
  | nil => cases h; rfl
  | cons p ds ih => cases h with
    | @cons k' v d vs _ h1 h2 => rw [List.any_cons, List.any_cons, ih h2]
theorem RepK.append {kvs us : List (Key × V)} {ds es : List (Key × D)} (h : RepK T b H P kvs ds) (h' : RepK T b H P us es) : RepK T b H P (kvs ++ us) (ds ++ es) := by
  induction ds generalizing kvs with
  | nil => cases h; exact h'
  | cons p ds ih => cases h with
    | @cons k' v d vs _ h1 h2 => exact .cons h1 (ih h2)
theorem RepK.repl {kvs : List (Key × V)} {ds : List (Key × D)} (h : RepK T b H P kvs ds) (k : Key) {v : V} {d : D} (r : Rep T b H P v d) :
    RepK T b H P (kvs.map fun kv => if kv.1 = k then (kv.1, v) else kv) (ds.map fun kv => if kv.1 = k then (kv.1, d) else kv) := by
  induction ds generalizing kvs with
  | nil => cases h; exact .nil
  | cons p ds ih => cases h with
    | @cons k' v' d' vs _ h1 h2 =>
      rw [List.map_cons, List.map_cons]
      by_cases e : k' = k
      · rw [if_pos e, if_pos e]; exact .cons r (ih h2)
      · rw [if_neg e, if_neg e]; exact .cons h1 (ih h2)
theorem RepK.put {kvs : List (Key × V)} {ds : List (Key × D)} (h : RepK T b H P kvs ds) (k : Key) {v : V} {d : D} (r : Rep T b H P v d) : RepK T b H P (putK kvs k v) (putKD ds k d) := by
  unfold putK putKD
  rw [h.any k]
  by_cases e : (ds.any fun kv => decide (kv.1 = k)) = true
  · rw [if_pos e, if_pos e]; exact h.repl k r
  · rw [if_neg e, if_neg e]; exact h.append (.cons r .nil)
theorem RepQ.dic {ds : List (Key × D)} (h : RepQ T b H P v (.dic ds)) : ∃ p kvs, v = .ref p ∧ Rd H p (.dK kvs) ∧ RepK T b H P kvs ds := by
  rcases h with h | ⟨p, rfl, n, vs, h1, h2⟩
  · cases h with
    | dic h1 h2 h3 => exact ⟨_, _, rfl, .inr ⟨_, h2⟩, h3⟩
  · exact ⟨p, vs, rfl, .inl h1, h2⟩
/-- what a dict says of a key -/
theorem RepK.dget {kvs : List (Key × V)} {ds : List (Key × D)} {p : Addr} (e : Rd H p (.dK kvs)) (k : Key) : DGet H p (kV k) (valV kvs k) := .inl ⟨kvs, k, e, rfl, rfl⟩
end
section
variable {X : Cx} {T : Tb} {W : WX} {m : Md} {a b e o : Expr} {f fa fb : EC} {pos p apos : Pos} {c : Cf} {own : Ow} {Γ : Gm} {x x' : Bx} {σ : L2.St} {H H' : Hp} {Q : VK} {y : Str}
/-! d[k] -/
def rIxDic : R2 := fun x y H Q => ∃ p v, x = .ref p ∧ DGet H p y (some v) ∧ Q v H
theorem ix_dic (hu : X.A.units + 1 < cLine) : IxR X rIxDic := by
  intro value slice pins s σ H x y v u Q I rx ry h hs
  obtain ⟨p, r, rfl, g, q⟩ := h
  obtain rfl : v = Value.ref p := rx
  exact tail_any (dict_typeIs I g) PySem.F.slot_dict_getitem.lookup (d_getItem hu I g ry fun w' s3 I3 rw' => ⟨r, H, I3, rw', q⟩) hs
def dIxD : D → D → Option D
  | .dic kvs, y => (keyD y).bind fun k => valD kvs k
  | x, y => dIx x y
theorem opd_ixD : OpD T (fun x y H Q => rIx T.K x y H Q ∨ rIxDic x y H Q) dIxD := fun b H P x y dx dy dz Q hP hx hy hz k => by
  cases dx with
  | dic kvs =>
    obtain ⟨ky, e1, e2⟩ := Option.bind_eq_some_iff.mp (show (keyD dy).bind _ = some dz from hz)
    obtain ⟨p, vs, rfl, h1, h2⟩ := hx.dic
    obtain ⟨v, e3, r⟩ := (h2.val ky).2 dz e2
    cases keyD_rep hy e1
    exact .inr ⟨p, v, rfl, by rw [← e3]; exact RepK.dget (ds := kvs) h1 ky, k v H (Same.refl H) r⟩
  | _ => exact .inl (opd_ix b H P x y _ dy dz Q hP hx hy hz k)
theorem pd_dixD (hK : X.K = T.K) (hu : X.A.units + 1 < cLine) (ha : PE X a (E T W .tr fa)) (hb : PE X b (E T W .tr fb)) (hs : PlainIx b := by exact fun _ _ => rfl) : PE X (.Subscript a b pos) (E T W .fz (e2 dIxD fa fb)) := by
  have h := (ix_seq (X := X)).or (ix_dic hu)
  rw [hK] at h
  exact pd_ix h opd_ixD ha hb hs
/-! k in d -/
def rInDic (neg : Bool) : R2 := fun x y H Q => ∃ p o, y = .ref p ∧ DGet H p x o ∧ Q (.bl (if neg then !o.isSome else o.isSome)) H
theorem op_inDic (hu : X.A.units + 1 < cLine) : OpR X (compareOp .In) (rInDic false) := by
  intro pins s σ H x y v u Q I rx ry h
  obtain ⟨p, o, rfl, g, q⟩ := h
  obtain rfl : u = Value.ref p := ry
  exact d_in hu I g rx fun s3 I3 => ⟨.bl o.isSome, H, I3, rfl, q⟩
theorem op_ninDic (hu : X.A.units + 1 < cLine) : OpR X (compareOp .NotIn) (rInDic true) := by
  intro pins s σ H x y v u Q I rx ry h
  obtain ⟨p, o, rfl, g, q⟩ := h
  obtain rfl : u = Value.ref p := ry
  exact d_notIn hu I g rx fun s3 I3 => ⟨.bl (!o.isSome), H, I3, rfl, q⟩
def rInV (K : PySem.W.Frag) (neg : Bool) : R2 := fun x y H Q => rInU K neg x y H Q ∨ rInDic neg x y H Q
theorem op_inV (hu : X.A.units + 1 < cLine) : OpR X (compareOp .In) (rInV X.K false) := op_inU.or (op_inDic hu)
theorem op_ninV (hu : X.A.units + 1 < cLine) : OpR X (compareOp .NotIn) (rInV X.K true) := op_ninU.or (op_ninDic hu)
def dInD (f : Bool → Bool) : D → D → Option D
  | x, .dic kvs => (keyD x).map fun k => .bl (f (valD kvs k).isSome)
  | x, y => dIn f x y
theorem opd_inD {neg : Bool} : OpD T (rInV T.K neg) (dInD (negF neg)) := fun b H P x y dx dy dz Q hP hx hy hz k => by
  cases dy with
  | dic kvs =>
    obtain ⟨ky, e1, rfl⟩ := map_some (show (keyD dx).map _ = some dz from hz)
    obtain ⟨p, vs, rfl, h1, h2⟩ := hy.dic
    cases keyD_rep hx e1
    have hs : (valV vs ky).isSome = (valD kvs ky).isSome := by
      cases hd : valD kvs ky with
      | none => rw [(h2.val ky).1 hd]; rfl
      | some d => obtain ⟨v, e3, _⟩ := (h2.val ky).2 d hd; rw [e3]; rfl
    refine .inr ⟨p, _, rfl, RepK.dget (ds := kvs) h1 ky, ?_⟩
    rw [hs]
    exact k _ H (Same.refl H) (.bl _)
  | _ => exact .inl (opd_in b H P x y dx _ dz Q hP hx hy (by cases dx <;> exact hz) k)
/-! len(d) -/
def rLenV (K : PySem.W.Frag) : RC := fun xs H Q => rLenU K xs H Q ∨ ∃ p kvs, xs = [.ref p] ∧ Rd H p (.dK kvs) ∧ Q (.int kvs.length) H
theorem call_lenDic : CallR X (.builtin "len") (fun xs H Q => ∃ p kvs, xs = [.ref p] ∧ Rd H p (.dK kvs) ∧ Q (.int kvs.length) H) := by
  intro pins s σ H xs us Q I r h
  obtain ⟨p, kvs, rfl, e, q⟩ := h
  cases r with
  | cons r1 r2 =>
    cases r2
    obtain rfl : _ = Value.ref p := r1
    exact d_len I e fun t s' I' => ⟨.int kvs.length, H, I', ⟨t, rfl⟩, q⟩
theorem call_lenV : CallR X (.builtin "len") (rLenV X.K) := CallR.or call_lenU call_lenDic
def dLenD : List D → Option D
  | [.dic kvs] => some (.int (kvs.length : Nat))
  | xs => dLen xs
theorem cd_lenD : CallD T (rLenV T.K) dLenD := fun b H P vs ds dz Q hP hv hz k => by
  unfold dLenD at hz
  split at hz
  · obtain ⟨v, rfl, h⟩ := paired1 hv
    cases hz
    obtain ⟨p, us, rfl, h1, h2⟩ := h.dic
    refine .inr ⟨p, us, rfl, h1, ?_⟩
    rw [h2.length]
    exact k _ H (Same.refl H) (.int _)
  · exact .inl (cd_len b H P vs _ dz Q hP hv hz k)
end
end DL

namespace DL
open PySem PySem.Spec PyProof.Rows L2
section
variable {X : Cx} {T : Tb} {W : WX} {m : Md} {a b e o f0 l tg : Expr} {es : List Expr} {f fa fb fo fk fx fe fv : EC} {fi : AC} {pos p apos cpos : Pos} {c : Cf} {own own' : Ow} {Γ : Gm} {x x' : Bx} {σ : L2.St} {H H' : Hp} {Q : VK} {y : Str} {ds : List D} {tf : TC}
/-! ### d.get(k), d.get(k, x) -/
def isDi : D → Option D
  | .dic kvs => some (.dic kvs)
  | _ => none
def dGet (d k x : D) : Option D := match d with
  | .dic kvs => (keyD k).map fun k => (valD kvs k).getD x
  | _ => none
def eGet2 (fo fk fx : EC) : EC := fun Γ => bnd (fo Γ) fun d => bnd (opt (isDi d)) fun d => bnd (fk Γ) fun k => bnd (fx Γ) fun x => opt (dGet d k x)
def eGet1 (fo fk : EC) : EC := fun Γ => bnd (fo Γ) fun d => bnd (opt (isDi d)) fun d => bnd (fk Γ) fun k => opt (dGet d k .non)
theorem get_ok {b : Option Addr} {P : Addr → Prop} {kvs : List (Key × D)} {dk dx dz : D} {pa : Addr} {k z : V} (q : RepQ T b H P (.ref pa) (.dic kvs)) (qk : RepQ T b H P k dk) (qx : Rep T b H P z dx) (hz : dGet (.dic kvs) dk dx = some dz) :
    ∃ o, DGet H pa k o ∧ Rep T b H P (o.getD z) dz := by
  obtain ⟨ky, e1, rfl⟩ := map_some (show (keyD dk).map _ = some dz from hz)
  obtain ⟨p, vs, e, h1, h2⟩ := q.dic
  cases e
  cases keyD_rep qk e1
  refine ⟨_, RepK.dget (ds := kvs) h1 ky, ?_⟩
  cases hd : valD kvs ky with
  | none => rw [(h2.val ky).1 hd]; exact qx
  | some d => obtain ⟨v, e3, r⟩ := (h2.val ky).2 d hd; rw [e3]; exact r
theorem pd_get2 (hu : X.A.units + 1 < cLine) (ho : PE X o (E T W .tr fo)) (hk : PE X e (E T W .tr fk)) (hx : PE X f0 (E T W .fz fx)) (m : M2 X o "get" apos e f0 cpos := by exact ⟨rfl, rfl, rfl, rfl⟩) :
    PE X (.Call (.Attribute o "get" apos) [e, f0] [] cpos) (E T W .fz (eGet2 fo fk fx)) := (pe_dget2 hu ho hk hx m).mono fun σ H Q ⟨c, own, Γ, x, s, r⟩ =>
  ⟨c, own, Γ, x, s, (res_bind (m' := .tr) s r).imp fun v H1 ⟨d, x1, s1, g, q, r1⟩ => by
    cases d with
    | dic kvs =>
      have r2 : ERes T W .fz c own σ H1 Q (bnd (fk Γ) (fun k => bnd (fx Γ) fun x => opt (dGet (.dic kvs) k x)) x1) := r1
      obtain ⟨p, vs, rfl, h1, h2⟩ := RepQ.dic q
      refine ⟨p, rfl, .inl ⟨vs, h1⟩, c, own, Γ, x1, s1, (res_bind (m' := .tr) s1 r2).imp fun k H2 ⟨dk, x2, s2, g2, q2, r3⟩ => ⟨c, own, Γ, x2, s2, (res_bind (m' := .fz) s2 r3).imp fun z H3 ⟨dx, x3, s3, g3, q3, r4⟩ => ?_⟩⟩
      cases hz : dGet (.dic kvs) dk dx with
      | none => rw [hz] at r4; exact r4.elim
      | some dz =>
        rw [hz] at r4
        obtain ⟨ov, e1, e2⟩ := get_ok (RepQ.grow (g2.trans g3) q) (RepQ.grow g3 q2) q3 hz
        exact ⟨ov, e1, r4 _ H3 Grow.refl s3.bx e2⟩
    | _ => exact r1.elim⟩
theorem pd_get1 (hu : X.A.units + 1 < cLine) (ho : PE X o (E T W .tr fo)) (hk : PE X e (E T W .tr fk)) (m : M1 X o "get" apos e cpos := by exact ⟨rfl, rfl, rfl, rfl⟩) :
    PE X (.Call (.Attribute o "get" apos) [e] [] cpos) (E T W .fz (eGet1 fo fk)) := (pe_dget1 hu ho hk m).mono fun σ H Q ⟨c, own, Γ, x, s, r⟩ =>
  ⟨c, own, Γ, x, s, (res_bind (m' := .tr) s r).imp fun v H1 ⟨d, x1, s1, g, q, r1⟩ => by
    cases d with
    | dic kvs =>
      have r2 : ERes T W .fz c own σ H1 Q (bnd (fk Γ) (fun k => opt (dGet (.dic kvs) k .non)) x1) := r1
      obtain ⟨p, vs, rfl, h1, h2⟩ := RepQ.dic q
      refine ⟨p, rfl, .inl ⟨vs, h1⟩, c, own, Γ, x1, s1, (res_bind (m' := .tr) s1 r2).imp fun k H2 ⟨dk, x2, s2, g2, q2, r3⟩ => ?_⟩
      cases hz : dGet (.dic kvs) dk .non with
      | none => rw [hz] at r3; exact r3.elim
      | some dz =>
        rw [hz] at r3
        obtain ⟨ov, e1, e2⟩ := get_ok (RepQ.grow g2 q) q2 .non hz
        exact ⟨ov, e1, r3 _ H2 Grow.refl s2.bx e2⟩
    | _ => exact r1.elim⟩
/-! ### {} -/
theorem pf_dnew : PE X (.Dict [] [] pos) (EF T W (eC (.dic []))) := pe_dnewK.mono fun σ H Q ⟨c, own, Γ, x, s, r⟩ p np => r p _ np (Grow.same (Same.upd' np)) (s.bx.same (Same.upd' np)) ⟨[], upd_same, .nil⟩ rfl
/-! ### d[k] = v -/
def ownD (Γ : Gm) (i : Nat) : Option (List (Key × D)) := match Γ[i]? with
  | some (.ow (.dic kvs)) => some kvs
  | _ => none
theorem ownD_some {i : Nat} {kvs : List (Key × D)} (h : ownD Γ i = some kvs) : Γ[i]? = some (.ow (.dic kvs)) := by
  unfold ownD at h
  split at h
  · rename_i k e; cases h; exact e
  · cases h
def sPutD (i : Nat) (fk fe : EC) : SC := fun Γ x => match ownD Γ i with
  | none => .no
  | some kvs => sE fe (fun d Γ x => sE fk (fun k Γ x => match keyD k with
    | some ky => if kvs.length < 100000 then .nx (Γ.set i (.ow (.dic (putKD kvs ky d)))) x else .no
    | none => .no) Γ x) Γ x
theorem Sat.chD (s : Sat T c own Γ x σ H) {i : Nat} {p : Addr} {kvs kvs' : List (Key × D)} {vs : List (Key × V)} (h : Γ[i]? = some (.ow (.dic kvs))) (e1 : σ[i]? = some (some (.ref p))) (e2 : own[i]? = some (some p)) (r : RepK T c.b H (Pp c own) vs kvs') :
    Sat T c own (Γ.set i (.ow (.dic kvs'))) x σ (upd H p (.dK vs)) ∧ Fz c.b own H own (upd H p (.dK vs)) := by
  have hmem : some p ∈ own := List.mem_of_getElem? e2
  exact s.change h e1 e2 ⟨vs, upd_same, r.mono (fun a u pa e => by rw [upd_ne (fun z => pa.2.2 (by rw [z]; exact hmem))]; exact e) fun _ _ p _ => p⟩ fun _ _ z => nomatch z
theorem ps_dputD {i : Nat} {z : Str} {p1 : Pos} {k : Expr} (hu : X.A.units + 1 < cLine) (ho : PE X (.Name z p1) (tVar i)) (hk : PE X k (E T W .tr fk)) (he : PE X e (E T W .fz fe)) (hs : swapsWith e (some (.Subscript (.Name z p1) k p)) pos.line X.env = pure false := by rfl) :
    PS X (.Assign [.Subscript (.Name z p1) k p] e pos) (SS T W (sPutD i fk fe)) := (ps_dput hu ho hk he hs).mono fun D σ H ⟨c, own, Γ, x, s, r⟩ => by
  unfold sPutD at r
  split at r
  · exact r.elim
  · rename_i kvs hd
    have hg := ownD_some hd
    exact ⟨c, own, Γ, x, s, (SRes.bindD (m := .fz) s r).imp fun v H1 ⟨d, x1, s1, g, q, r1⟩ => by
      obtain ⟨qa, e1, e2, vs, h1, h2⟩ := s1.slot i _ hg
      refine ⟨.ref qa, e1, c, own, Γ, x1, s1, (SRes.keepD (m := .tr) s1 q r1).imp fun kv H2 ⟨kd, x2, s2, g2, q2, qk, r2⟩ => ?_⟩
      split at r2
      · rename_i ky hky
        obtain ⟨q', e1', e2', vs', h1', h2'⟩ := s2.slot i _ hg
        rw [e1] at e1'
        cases e1'
        by_cases hl : kvs.length < 100000
        · rw [if_pos hl] at r2
          cases keyD_rep qk hky
          obtain ⟨s3, fz3⟩ := s2.chD hg e1 e2' (h2'.put ky q2)
          exact ⟨_, _, rfl, .k h1' (by rw [h2'.length]; exact Nat.lt_of_lt_of_le hl (by decide)), r2 own _ _ fz3 s3⟩
        · rw [if_neg hl] at r2
          exact r2.elim
      · exact r2.elim⟩
end
end DL

namespace DL
open PySem PySem.Spec PyProof.Rows L2
/-! ### dict comprehensions -/
def pairE (fk fv : EC) : EC := fun Γ => bnd (fk Γ) fun y => bnd (fv Γ) fun z => M.pure (.tup [y, z])
def pairK : D → Option (Key × D)
  | .tup [y, z] => (keyD y).map fun k => (k, z)
  | _ => none
def pairsK : List D → Option (List (Key × D))
  | [] => some []
  | d :: r => (pairK d).bind fun p => (pairsK r).map fun ps => p :: ps
def mergeD (kvs more : List (Key × D)) : List (Key × D) := more.foldl (fun acc kv => putKD acc kv.1 kv.2) kvs
def eDc (fi : AC) (t : GC) (tst : TC) (fk fv : EC) (vs : List Nat) : EC := fun Γ => bnd (fi Γ) fun ds => if ds.length ≤ 100000 then bnd (lcGo t tst (pairE fk fv) (wipeG Γ vs) ds) fun ys => opt ((pairsK ys).map fun ps => .dic (mergeD [] ps)) else M.no
section
variable {X : Cx} {T : Tb} {W : WX} {m : Md} {a b e o f0 l tg : Expr} {es : List Expr} {f fa fb fo fk fx fe fv : EC} {fi : AC} {pos p apos cpos : Pos} {c : Cf} {own own' : Ow} {Γ : Gm} {x x' : Bx} {σ : L2.St} {H H' : Hp} {Q : VK} {y : Str} {ds : List D} {tf : TC} {P' : Addr → Prop}
theorem Sat.blockO (o' : HO) (s : Sat T c own Γ x σ H) {Dl : Addr} (hD : H Dl = none) : ∀ vs : List Nat, Sat T (cIn c own H Dl) (noO Γ.length) (wipeG Γ vs) x (wipe σ vs) (upd H Dl o')
  | [] => by
    have sm : Same H (upd H Dl o') := Same.upd' hD
    refine ⟨by unfold wipe wipeG; rw [List.length_map]; exact s.l1, by unfold wipeG; simp, Grow.same sm, s.bx.same sm, fun a h => ?_, fun i p h => (noO_get h).elim, fun a h => ?_, fun i p h => (noO_get h).elim, fun i j p h => (noO_get h).elim, fun p cn fs h => (nomatch h), fun i u h => ?_⟩
    · rcases h with h | h | h
      · have h3 := s.bd a h
        cases e : H a with
        | none => exact absurd e h3
        | some o => rw [sm a o e]; exact fun z => nomatch z
      · obtain ⟨i, hi⟩ := List.getElem?_of_mem h
        have h3 := (s.fresh i a hi).2
        cases e : H a with
        | none => exact absurd e h3
        | some o => rw [sm a o e]; exact fun z => nomatch z
      · rw [h, upd_same]; exact fun z => nomatch z
    · have h' : c.b = some a := h
      show H a ≠ none
      rw [s.bx a h']; exact fun z => nomatch z
    · unfold wipeG at h
      rw [List.getElem?_map] at h
      cases hg : Γ[i]? with
      | none => rw [hg] at h; cases h
      | some u0 =>
        rw [hg] at h
        have h' : lend u0 = u := by simpa using h
        subst h'
        exact SlotOk.any_own (slot_lend (Γ := Γ) (o' := o') hD (s.slot i u0 hg) (fun p h => s.own_ne h))
  | v :: vs => by
    have ih := s.blockO o' hD vs
    refine ⟨by unfold wipe wipeG; rw [List.length_set, List.length_set]; exact ih.l1, by unfold wipeG; rw [List.length_set]; exact ih.l2, ih.gr, ih.bx, ih.bd, ih.ob, ih.bb, ih.fresh, ih.nodup, fun p cn fs h => (nomatch h), fun i u h => ?_⟩
    unfold wipeG at h
    unfold wipe
    by_cases hi : v = i
    · subst hi
      have hlt := (List.getElem?_eq_some_iff.mp h).1
      rw [List.length_set] at hlt
      rw [List.getElem?_set_self hlt] at h
      cases h
      trivial
    · rw [List.getElem?_set_ne hi] at h
      rw [List.getElem?_set_ne hi]
      exact ih.slot i u h
theorem RepK.grow (g : Grow c.b H H') {v : List (Key × V)} {d : List (Key × D)} (h : RepK T c.b H (Pp c own) v d) : RepK T c.b H' (Pp c own) v d := h.mono (Pp.keep g) fun _ _ p _ => p
theorem RepK.same {b : Option Addr} {P : Addr → Prop} (s : Same H H') {vs : List (Key × V)} {ds : List (Key × D)} (h : RepK T b H P vs ds) : RepK T b H' P vs ds := h.mono (fun a o _ e => s a o e) fun _ _ p _ => p
theorem dc_ok {J : It} {t : GC} {is : List Nat} {vs : List Nat} {Dl : Addr} {Fin : List (Key × D) → Bx → Prop} (hD : H Dl = none) (hJ : IRep T c own H J ds) (s0 : Sat T c own Γ x σ H) (hs : ∀ j ∈ is, j ∈ vs) (hl : ds.length ≤ 100000)
    (fin : ∀ H' kvs x', Fin kvs x' → Grow c.b H H' → BoxRel c.b x' H' → OwnAt T c.b H' (PN c own Dl) Dl (.dic kvs) → Q (.ref Dl) H') {ys0 : List D} {ps0 : List (Key × D)} {x20 : Bx} (hgo : lcGo t tf (pairE fk fv) (wipeG Γ vs) ds x = .ok ys0 x20) (hps : pairsK ys0 = some ps0) (hfin : Fin (mergeD [] ps0) x20) :
    ∃ Wv : Nat → Nat → Hp → Prop, (∃ m, Wv 0 m (upd H Dl (.dK []))) ∧ ∀ i m H, Wv i m H →
      (J.stop i H ∧ Q (.ref Dl) H) ∨ (J.go i H ∧ ∃ Nx : Hp → Prop, (∀ H', Nx H' → ∃ m', m' < m ∧ Wv (i + 1) m' H') ∧ ∀ z H', J.yld i H z H' → GT T is t z (wipe σ vs) H' fun σ2 H2 => wipe σ2 vs = wipe σ vs ∧ ET T E0' tf σ2 H2 fun k H3 =>
        if k = true then E T E0' .tr fk σ2 H3 fun y H4 => E T E0' .fz fv σ2 H4 fun z H5 => ∃ kvs k, y = kV k ∧ H5 Dl = some (.dK kvs) ∧ kvs.length < sizeLine ∧ Nx (upd H5 Dl (.dK (putK kvs k z))) else Nx H3) := by
  have sB := s0.blockO (.dK []) hD vs
  let Inv : Nat → Hp → Prop := fun i H' => ∃ x' acc as, Sat T (cIn c own H Dl) (noO Γ.length) (wipeG Γ vs) x' (wipe σ vs) H' ∧ H' Dl = some (.dK acc) ∧ acc.length ≤ i ∧ RepK T c.b H' (Pp (cIn c own H Dl) (noO Γ.length)) acc as ∧
    ∃ ys x2 ps, lcGo t tf (pairE fk fv) (wipeG Γ vs) (ds.drop i) x' = .ok ys x2 ∧ pairsK ys = some ps ∧ Fin (mergeD as ps) x2
  have h0 : Inv 0 (upd H Dl (.dK [])) := ⟨x, [], [], sB, upd_same, Nat.le_refl _, .nil, ys0, x20, ps0, hgo, hps, hfin⟩
  have keep : ∀ {H'} {x'}, Sat T (cIn c own H Dl) (noO Γ.length) (wipeG Γ vs) x' (wipe σ vs) H' → Keep c.b own (Pp c own) H (Pp (cIn c own H Dl) (noO Γ.length)) H' := fun s => by
    have g : Grow c.b H _ := s.gr
    exact ⟨fun a o pa e => g a o pa.2.1 e, fun a o pa e => (cIn_P a).mpr ⟨pa, ne_of_none e hD⟩, fun a o h1 h2 e => g a o h2 e, fun p n => s.freshP n⟩
  refine ⟨fun i m H' => m = ds.length - i ∧ i ≤ ds.length ∧ Inv i H', ⟨ds.length, rfl, Nat.zero_le _, h0⟩, ?_⟩
  rintro i m H' ⟨rfl, hi, x', acc, as, s, eD, la, ra, ys, x2, ps, e1, e2, e3⟩
  obtain ⟨k1, k2⟩ := hJ _ _ (keep s)
  by_cases hlt : i < ds.length
  · rw [List.drop_eq_getElem_cons hlt] at e1
    obtain ⟨g1, g2⟩ := k1 i ds[i] (List.getElem?_eq_getElem hlt)
    have e1' : (match t ds[i] (wipeG Γ vs) with
      | none => R.no
      | some Γ1 => bnd (noEr (tf Γ1)) (fun k => if k = true then bnd (noEr (pairE fk fv Γ1)) fun y => bnd (lcGo t tf (pairE fk fv) (wipeG Γ vs) (ds.drop (i + 1))) fun ys => M.pure (y :: ys) else lcGo t tf (pairE fk fv) (wipeG Γ vs) (ds.drop (i + 1))) x') = .ok ys x2 := e1
    cases ht : t ds[i] (wipeG Γ vs) with
    | none => rw [ht] at e1'; cases e1'
    | some Γ1 =>
      rw [ht] at e1'
      dsimp only at e1'
      refine .inr ⟨g1, Inv (i + 1), fun H2 h => ⟨ds.length - (i + 1), by omega, rfl, hlt, h⟩, fun z H2 hy => ?_⟩
      obtain ⟨sm, rv⟩ := g2 z H2 hy
      have s2 := s.grow (Grow.same sm) (s.bx.same sm)
      refine ⟨cIn c own H Dl, noO Γ.length, wipeG Γ vs, x', ds[i], Γ1, s2, rv, ht, fun σ3 l3 j3 s3 => ⟨wipe_eq (by rw [l3, wipe_length]) fun j hj => j3 j fun z => hj (hs j z), cIn c own H Dl, noO Γ.length, Γ1, x', s3, ?_⟩⟩
      cases hk : tf Γ1 x' with
      | er e x3 => rw [bnd_no (by unfold noEr; rw [hk])] at e1'; cases e1'
      | no => rw [bnd_no (by unfold noEr; rw [hk])] at e1'; cases e1'
      | ok k x3 =>
        rw [bnd_ok (a := k) (y := x3) (by unfold noEr; rw [hk])] at e1'
        refine fun H3 g3 bx3 => ?_
        have s4 := s2.grow g3 bx3
        have nbD : (cIn c own H Dl).b ≠ some Dl := fun z => by
          have h5 := s0.bx Dl z
          rw [hD] at h5
          cases h5
        have eD3 : H3 Dl = some (.dK acc) := g3 Dl _ nbD (sm Dl _ eD)
        have ra3 : RepK T c.b H3 (Pp (cIn c own H Dl) (noO Γ.length)) acc as := RepK.grow (c := cIn c own H Dl) g3 (ra.same sm)
        cases k with
        | false =>
          rw [if_neg (by decide)] at e1'
          show Inv (i + 1) H3
          exact ⟨x3, acc, as, s4, eD3, by omega, ra3, ys, x2, ps, e1', e2, e3⟩
        | true =>
          rw [if_pos rfl] at e1'
          show E T E0' .tr fk σ3 H3 _
          refine ⟨cIn c own H Dl, noO Γ.length, Γ1, x3, s3.grow g3 bx3, ?_⟩
          cases hy2 : fk Γ1 x3 with
          | er e x4 => rw [bnd_no (by unfold noEr pairE; rw [bnd_er hy2])] at e1'; cases e1'
          | no => rw [bnd_no (by unfold noEr pairE; rw [bnd_no hy2])] at e1'; cases e1'
          | ok yd x4 =>
            refine fun yv H4 g4 bx4 ry => ⟨cIn c own H Dl, noO Γ.length, Γ1, x4, (s3.grow g3 bx3).grow g4 bx4, ?_⟩
            cases hz2 : fv Γ1 x4 with
            | er e x5 => rw [bnd_no (by unfold noEr pairE; rw [bnd_ok hy2, bnd_er hz2])] at e1'; cases e1'
            | no => rw [bnd_no (by unfold noEr pairE; rw [bnd_ok hy2, bnd_no hz2])] at e1'; cases e1'
            | ok zd x5 =>
              rw [bnd_ok (a := D.tup [yd, zd]) (y := x5) (by unfold noEr pairE; rw [bnd_ok hy2, bnd_ok hz2]; rfl)] at e1'
              refine fun zv H5 g5 bx5 rz => ?_
              have eD5 : H5 Dl = some (.dK acc) := g5 Dl _ nbD (g4 Dl _ nbD eD3)
              have s5 := (s4.grow g4 bx4).grow g5 bx5
              have ra5 : RepK T c.b H5 (Pp (cIn c own H Dl) (noO Γ.length)) acc as := RepK.grow (c := cIn c own H Dl) (g4.trans g5) ra3
              cases hr : lcGo t tf (pairE fk fv) (wipeG Γ vs) (ds.drop (i + 1)) x5 with
              | er e x6 => rw [bnd_er hr] at e1'; cases e1'
              | no => rw [bnd_no hr] at e1'; cases e1'
              | ok zs x6 =>
                rw [bnd_ok hr] at e1'
                cases e1'
                obtain ⟨pk, e4, e5⟩ := Option.bind_eq_some_iff.mp (show (pairK _).bind _ = some ps from e2)
                obtain ⟨ky, e6, rfl⟩ := map_some (show (keyD yd).map _ = some pk from e4)
                obtain ⟨qs, e7, rfl⟩ := map_some e5
                refine ⟨acc, ky, keyD_rep ry e6, eD5, Nat.lt_of_le_of_lt (Nat.le_trans la hi) (Nat.lt_of_le_of_lt hl (by decide)), ?_⟩
                have kp : ∀ a o, Pp (cIn c own H Dl) (noO Γ.length) a → H5 a = some o → upd H5 Dl (.dK (putK acc ky zv)) a = some o := fun a o pa e => by
                  rw [upd_ne ((cIn_P a).mp pa).2]
                  exact e
                refine ⟨x5, putK acc ky zv, putKD as ky zd, ?_, upd_same, by have := length_putK acc ky zv; omega, (ra5.put ky rz).mono kp fun _ _ p _ => p, zs, x2, qs, hr, e7, e3⟩
                refine ⟨s5.l1, s5.l2, fun a o h1 h2 => ?_, fun a h => ?_, fun a h => ?_, s5.ob, s5.bb, fun i p h => (noO_get h).elim, s5.nodup, s5.me, fun j u h => ?_⟩
                · have hne : a ≠ Dl := ne_of_none h2 hD
                  rw [upd_ne hne]
                  exact s5.gr a o h1 h2
                · have hne : a ≠ Dl := fun z => nbD (by rw [← z]; exact h)
                  rw [upd_ne hne]
                  exact s5.bx a h
                · by_cases hne : a = Dl
                  · rw [hne, upd_same]; exact fun z => nomatch z
                  · rw [upd_ne hne]; exact s5.bd a h
                · have q := s5.slot j u h
                  cases u with
                  | no => trivial
                  | sh d => obtain ⟨v, e, r⟩ := q; exact ⟨v, e, r.mono kp fun _ _ p _ => p⟩
                  | bo d =>
                    obtain ⟨v, e, r⟩ := q
                    refine ⟨v, e, ?_⟩
                    rcases r with r | ⟨q, e1, e2, e3, e4⟩
                    · exact .inl (r.mono kp fun _ _ p _ => p)
                    · by_cases hq : q = Dl
                      · exact absurd hD (by rw [← hq]; exact e3)
                      · exact .inr ⟨q, e1, e2, e3, e4.mono kp (fun _ _ p _ => p) fun o e => by rw [upd_ne hq]; exact e⟩
                  | ow d => obtain ⟨p, e1, e2, e3⟩ := q; exact (noO_get e2).elim
  · have e : i = ds.length := by omega
    subst e
    rw [List.drop_length] at e1
    have e1' : R.ok [] x' = R.ok ys x2 := e1
    cases e1'
    cases e2
    refine .inl ⟨k2, fin H' as x' e3 s.gr s.bx ⟨acc, eD, ra.mono (fun _ _ _ e => e) fun a o pa _ => (cIn_P a).mp pa⟩⟩
theorem dc_read {t : GC} {is vs : List Nat} (his : ∀ j ∈ is, j ∈ vs) (h : EF T W (eDc fi t tf fk fv vs) σ H Q) : tDc (IT T W fi) (GT T is t) (ET T E0' tf) (E T E0' .tr fk) (E T E0' .fz fv) vs σ H Q := by
  obtain ⟨c, own, Γ, x, s, r⟩ := h
  refine ⟨c, own, Γ, x, s, ?_⟩
  cases hf : fi Γ x with
  | no => rw [show eDc fi t tf fk fv vs Γ x = _ from bnd_no hf] at r; exact r
  | er e x1 => rw [show eDc fi t tf fk fv vs Γ x = _ from bnd_er hf] at r; exact r
  | ok ds x1 =>
    rw [show eDc fi t tf fk fv vs Γ x = _ from bnd_ok hf] at r
    refine fun J H1 g bx hJ Dl hD => ?_
    by_cases hl : ds.length ≤ 100000
    · rw [if_pos hl] at r
      have s1 := s.grow g bx
      cases hz : lcGo t tf (pairE fk fv) (wipeG Γ vs) ds x1 with
      | no => rw [bnd_no hz] at r; exact r.elim
      | er e x2 => exact absurd hz (lcGo_noEr t tf (pairE fk fv) _ ds x1 e x2)
      | ok ys x2 =>
        rw [bnd_ok hz] at r
        cases hp : pairsK ys with
        | none => rw [hp] at r; exact r.elim
        | some ps =>
          rw [hp] at r
          exact dc_ok (Fin := fun kvs x' => kvs = mergeD [] ps ∧ x' = x2) hD hJ s1 his hl (fun H' kvs x' e g' bx' q => by
            obtain ⟨rfl, rfl⟩ := e
            exact r Dl H' (s1.none_back' s g hD) (g.trans g') bx' q rfl) hz hp ⟨rfl, rfl⟩
    · rw [if_neg hl] at r
      exact r.elim
theorem pf_dc {kx vx iter : Expr} {ifs : List Expr} {scope : Scope} {own : List (Str × Nat)} {t : GC} {is : List Nat} (hc : X.calm = true) (hN : X.N.Nodup) (hi : PI X tg iter (IT T W fi)) (ok : BlkOk X.N X.env.scope scope own)
    (hg : ∀ (s : Shared) (H : Hp) (C : Addr) (cl : List (Str × Addr)) (fp : List Addr), PG (X.blk s H scope (compEnvC scope cl C X.env) fp) tg (GT T is t)) (ht : ∀ (s : Shared) (H : Hp) (C : Addr) (cl : List (Str × Addr)) (fp : List Addr), PTs (X.blk s H scope (compEnvC scope cl C X.env) fp) ifs (ET T E0' tf))
    (hk : ∀ (s : Shared) (H : Hp) (C : Addr) (cl : List (Str × Addr)) (fp : List Addr), PE (X.blk s H scope (compEnvC scope cl C X.env) fp) kx (E T E0' .tr fk)) (hv : ∀ (s : Shared) (H : Hp) (C : Addr) (cl : List (Str × Addr)) (fp : List Addr), PE (X.blk s H scope (compEnvC scope cl C X.env) fp) vx (E T E0' .fz fv))
    (his : ∀ j ∈ is, j ∈ own.map (·.2) := by decide) (hs : ∀ x, foldedSetIterable iter X.env x = pure x := by intro _; rfl) :
    PE X (.DictComp kx vx [⟨tg, iter, ifs, 0⟩] scope pos) (EF T W (eDc fi t tf fk fv (own.map (·.2)))) := (pe_dc hc hN hi ok hg ht hk hv hs).mono fun σ H Q h => dc_read his h
end
end DL

namespace DL
open PySem PySem.Spec PyProof.Rows L2
/-! ### sorting -/
def ins {α : Type} (lt : α → α → Bool) (x : α) : List α → List α
  | [] => [x]
  | y :: r => if lt y x = true then y :: ins lt x r else x :: y :: r
def isort {α : Type} (lt : α → α → Bool) : List α → List α
  | [] => []
  | x :: r => ins lt x (isort lt r)
theorem ins_perm {α : Type} (lt : α → α → Bool) (x : α) : ∀ l : List α, (ins lt x l).Perm (x :: l)
  | [] => .refl _
  | y :: r => by
    unfold ins
    by_cases h : lt y x = true
    · rw [if_pos h]
      exact ((ins_perm lt x r).cons y).trans (.swap x y r)
    · rw [if_neg h]
theorem isort_perm {α : Type} (lt : α → α → Bool) : ∀ l : List α, (isort lt l).Perm l
  | [] => .refl _
  | x :: r => (ins_perm lt x _).trans ((isort_perm lt r).cons x)
/-- a strict order in which two are alike only if they are the same -/
structure Tot {α : Type} (lt : α → α → Bool) : Prop where
  asym : ∀ a b, lt a b = true → lt b a = false
  anti : ∀ a b, lt a b = false → lt b a = false → a = b
  trans : ∀ a b c, lt b a = false → lt c b = false → lt c a = false
theorem ins_sorted {α : Type} {lt : α → α → Bool} (T : Tot lt) (x : α) : ∀ {l : List α}, l.Pairwise (fun a b => lt b a = false) → (ins lt x l).Pairwise (fun a b => lt b a = false)
  | [], _ => by unfold ins; exact List.pairwise_cons.mpr ⟨fun _ h => (nomatch h), List.Pairwise.nil⟩
  | y :: r, h => by
    obtain ⟨h1, h2⟩ := List.pairwise_cons.mp h
    unfold ins
    by_cases e : lt y x = true
    · rw [if_pos e]
      refine List.pairwise_cons.mpr ⟨fun z hz => ?_, ins_sorted T x h2⟩
      rcases List.mem_cons.mp ((ins_perm lt x r).mem_iff.mp hz) with rfl | hz
      · exact T.asym _ _ e
      · exact h1 z hz
    · rw [if_neg e]
      have e' : lt y x = false := by simpa using e
      refine List.pairwise_cons.mpr ⟨fun z hz => ?_, h⟩
      rcases List.mem_cons.mp hz with rfl | hz
      · exact e'
      · exact T.trans x y z e' (h1 z hz)
theorem isort_sorted {α : Type} {lt : α → α → Bool} (T : Tot lt) : ∀ l : List α, (isort lt l).Pairwise (fun a b => lt b a = false)
  | [] => .nil
  | x :: r => ins_sorted T x (isort_sorted T r)
theorem isort_eq {α : Type} {lt : α → α → Bool} (T : Tot lt) {l l' : List α} (h : l'.Perm l) (hs : l'.Pairwise (fun a b => lt b a = false)) : l' = isort lt l :=
  List.Perm.eq_of_pairwise (le := fun a b => lt b a = false) (fun a b _ _ h1 h2 => T.anti a b h2 h1) hs (isort_sorted T l) (h.trans (isort_perm lt l).symm)
def ltS (a b : Str) : Bool := ltCps a.cps.toList b.cps.toList
theorem str_ext {a b : Str} (h : a.cps.toList = b.cps.toList) : a = b := by
  obtain ⟨⟨l⟩⟩ := a
  obtain ⟨⟨l'⟩⟩ := b
  cases h
  rfl
theorem tot_S : Tot ltS := by
  unfold ltS
  refine ⟨fun a b h => ?_, fun a b h h' => ?_, fun a b c h h' => ?_⟩
  · rw [ltCps_eq] at h ⊢
    exact decide_eq_false (fun z => List.lt_asymm (of_decide_eq_true h) z)
  · rw [ltCps_eq] at h h'
    have h1 : ¬ a.cps.toList < b.cps.toList := of_decide_eq_false h
    have h2 : ¬ b.cps.toList < a.cps.toList := of_decide_eq_false h'
    exact str_ext (List.le_antisymm (List.not_lt.mp h2) (List.not_lt.mp h1))
  · rw [ltCps_eq] at h h' ⊢
    have h1 : ¬ b.cps.toList < a.cps.toList := of_decide_eq_false h
    have h2 : ¬ c.cps.toList < b.cps.toList := of_decide_eq_false h'
    exact decide_eq_false (fun z => List.not_lt.mpr (List.le_trans (List.not_lt.mp h1) (List.not_lt.mp h2)) z)
theorem risingS_pw : ∀ {p : Str} {l : List Str}, risingS p l = true → (p :: l).Pairwise (fun a b => ltS b a = false)
  | p, [], _ => List.pairwise_cons.mpr ⟨fun _ h => (nomatch h), List.Pairwise.nil⟩
  | p, x :: r, h => by
    have h' : (!ltCps x.cps.toList p.cps.toList && risingS x r) = true := h
    obtain ⟨h1, h2⟩ := Bool.and_eq_true_iff.mp h'
    have h3 : ltS x p = false := by unfold ltS; simpa using h1
    have ih := risingS_pw h2
    refine List.pairwise_cons.mpr ⟨fun z hz => ?_, ih⟩
    rcases List.mem_cons.mp hz with rfl | hz
    · exact h3
    · exact tot_S.trans p x z h3 ((List.pairwise_cons.mp ih).1 z hz)
theorem sortedS_eq {l l' : List Str} (h : l'.Perm l) (hs : sortedS l' = true) : l' = isort ltS l := by
  refine isort_eq tot_S h ?_
  cases l' with
  | nil => exact .nil
  | cons x r => exact risingS_pw hs
def ltI (a b : Int) : Bool := decide (a < b)
theorem tot_I : Tot ltI := by
  unfold ltI
  refine ⟨fun a b h => ?_, fun a b h h' => ?_, fun a b c h h' => ?_⟩ <;> simp at * <;> omega
theorem sortedI_eq {l l' : List Int} (h : l'.Perm l) (hs : l'.Pairwise (· ≤ ·)) : l' = isort ltI l := by
  refine isort_eq tot_I h (hs.imp fun {a b} h => ?_)
  unfold ltI
  simp; omega
def keysD : List (Key × D) → Option (List Str)
  | [] => some []
  | (.inr z, _) :: r => (keysD r).map fun l => z :: l
  | _ :: _ => none
section
variable {X : Cx} {T : Tb} {W : WX} {m : Md} {a b e o : Expr} {f fa fb : EC} {pos p apos : Pos} {c : Cf} {own : Ow} {Γ : Gm} {x x' : Bx} {σ : L2.St} {H H' : Hp} {Q : VK} {y : Str}
theorem strs_rep {b : Option Addr} {P : Addr → Prop} : ∀ {ds : List D} {vs : List V} {ss : List Str}, RepL T b H P vs ds → strsD ds = some ss → vs = ss.map V.str
  | [], _, _, h, e => by cases h; cases e; rfl
  | d :: ds, _, _, h, e => by
    cases h with
    | cons h1 h2 =>
      cases d <;> try cases e
      obtain ⟨l, e1, rfl⟩ := map_some (show (strsD ds).map _ = some _ from e)
      cases h1
      rw [strs_rep h2 e1]
      rfl
theorem ints_rep {b : Option Addr} {P : Addr → Prop} : ∀ {ds : List D} {vs : List V} {ss : List Int}, RepL T b H P vs ds → intsD ds = some ss → vs = ss.map V.int
  | [], _, _, h, e => by cases h; cases e; rfl
  | d :: ds, _, _, h, e => by
    cases h with
    | cons h1 h2 =>
      cases d <;> try cases e
      obtain ⟨l, e1, rfl⟩ := map_some (show (intsD ds).map _ = some _ from e)
      cases h1
      rw [ints_rep h2 e1]
      rfl
theorem keys_rep : ∀ {ds : List (Key × D)} {ks : List Str}, keysD ds = some ks → ds.map (·.1) = ks.map Sum.inr
  | [], _, e => by cases e; rfl
  | (.inl i, d) :: ds, _, e => by cases e
  | (.inr z, d) :: ds, _, e => by
    obtain ⟨l, e1, rfl⟩ := map_some (show (keysD ds).map _ = some _ from e)
    rw [List.map_cons, List.map_cons, keys_rep e1]
theorem repL_strs {b : Option Addr} {P : Addr → Prop} : ∀ l : List Str, RepL T b H P (l.map V.str) (l.map D.str)
  | [] => .nil
  | x :: r => .cons (.str x) (repL_strs r)
theorem repL_nums {b : Option Addr} {P : Addr → Prop} : ∀ l : List Int, RepL T b H P (l.map V.int) (l.map D.int)
  | [] => .nil
  | x :: r => .cons (.int x) (repL_nums r)
/-- sorted(x): texts of a list, keys of a dict, ints of a list -/
def dSorted : List D → Option D
  | [.lst ds] => if ds.length < 64 then match strsD ds with
    | some ss => some (.lst ((isort ltS ss).map D.str))
    | none => (intsD ds).map fun ns => .lst ((isort ltI ns).map D.int)
    else none
  | [.dic kvs] => if kvs.length < 64 then (keysD kvs).map fun ss => .lst ((isort ltS ss).map D.str) else none
  | _ => none
def rSortedU (K : PySem.W.Frag) : RC := fun xs H Q => rSortedS K xs H Q ∨ rSorted K xs H Q ∨ (∃ (a : Addr) (kvs : List (Key × V)) (ks : List Str), xs = [.ref a] ∧ Rd H a (.dK kvs) ∧ kvs.map (·.1) = ks.map Sum.inr ∧ ks.length < 64 ∧
    ∀ ys p, ys.Perm ks → sortedS ys = true → H p = none → Q (.ref p) (upd H p (.lst (ys.map V.str))))
theorem call_sortedU (hc : X.calm = true) : CallR X (.builtin "sorted") (rSortedU X.K) := CallR.or cr_sortedS (CallR.or cr_sorted (call_sortedD hc))
theorem strsD_len : ∀ {ds : List D} {ss : List Str}, strsD ds = some ss → ss.length = ds.length
  | [], _, e => by cases e; rfl
  | d :: ds, _, e => by
    cases d <;> try cases e
    obtain ⟨l, e1, rfl⟩ := map_some (show (strsD ds).map _ = some _ from e)
    rw [List.length_cons, List.length_cons, strsD_len e1]
theorem intsD_len : ∀ {ds : List D} {ss : List Int}, intsD ds = some ss → ss.length = ds.length
  | [], _, e => by cases e; rfl
  | d :: ds, _, e => by
    cases d <;> try cases e
    obtain ⟨l, e1, rfl⟩ := map_some (show (intsD ds).map _ = some _ from e)
    rw [List.length_cons, List.length_cons, intsD_len e1]
theorem keysD_len {ds : List (Key × D)} {ks : List Str} (h : keysD ds = some ks) : ks.length = ds.length := by
  have := congrArg List.length (keys_rep h)
  simpa using this.symm
theorem cf_sorted : CallF T (rSortedU T.K) dSorted := fun b H P vs ds dz Q hP hv hz k => by
  unfold dSorted at hz
  split at hz
  · rename_i ds
    by_cases hl : ds.length < 64
    · rw [if_pos hl] at hz
      obtain ⟨v, rfl, h⟩ := paired1 hv
      obtain ⟨p, us, rfl, h1, h2⟩ := h.lst
      cases hs : strsD ds with
      | some ss =>
        rw [hs] at hz
        cases hz
        cases strs_rep h2 hs
        refine .inl ⟨p, ss, rfl, .inl (.inl h1), by rw [strsD_len hs]; exact hl, fun ys q hp hq n => ?_⟩
        rw [sortedS_eq hp hq]
        exact k q _ n ⟨_, upd_same, repL_strs _⟩ rfl
      | none =>
        rw [hs] at hz
        obtain ⟨ns, e1, rfl⟩ := map_some hz
        cases ints_rep h2 e1
        refine .inr (.inl ⟨p, ns, rfl, .inl (.inl h1), by rw [intsD_len e1]; exact hl, fun ys q hp hq n => ?_⟩)
        rw [sortedI_eq hp hq]
        exact k q _ n ⟨_, upd_same, repL_nums _⟩ rfl
    · rw [if_neg hl] at hz
      cases hz
  · rename_i kvs
    by_cases hl : kvs.length < 64
    · rw [if_pos hl] at hz
      obtain ⟨v, rfl, h⟩ := paired1 hv
      obtain ⟨p, us, rfl, h1, h2⟩ := h.dic
      obtain ⟨ss, e1, rfl⟩ := map_some hz
      refine .inr (.inr ⟨p, us, ss, rfl, h1, by rw [h2.keys, keys_rep e1], by rw [keysD_len e1]; exact hl, fun ys q hp hq n => ?_⟩)
      rw [sortedS_eq hp hq]
      exact k q _ n ⟨_, upd_same, repL_strs _⟩ rfl
    · rw [if_neg hl] at hz
      cases hz
  · cases hz
theorem pf_callB {es : List Expr} {fs : AC} {id : String} {rc : RC} {g : List D → Option D} (hc : CallR X (.builtin id) rc) (hgd : CallF T rc g) (hg : Gl X y) (hm : X.mg y = none) (hv : bootBuiltins y = some (.builtin id)) (ha : PA X (e :: es) (EQ T W fs)) (hn : y ≠ "__name__" := by decide) (hdb : (y == ("__debug__" : Str)) = false := by decide)
    (he : starEach (e :: es) X.env = (false, eval e X.env) :: starEach es X.env := by rfl) (hpl : (backTo pos (starEach es X.env)).any (·.1) = false := by rfl) : PE X (.Call (.Name y p) (e :: es) [] pos) (EF T W (eB g fs)) :=
  (pe_callB hc hg hm hv ha hn hdb he hpl).mono fun σ H Q ⟨c, own, Γ, x, s, r⟩ => ⟨c, own, Γ, x, s, bresF s r hgd⟩
/-! ### dict(d), dict([(k, v), ..]) -/
def dDictOf : List D → Option D
  | [.dic kvs] => some (.dic kvs)
  | [.lst ds] => (pairsK ds).map fun ps => .dic (mergeD [] ps)
  | _ => none
def rDictU (K : PySem.W.Frag) : RC := fun xs H Q => (∃ (a : Addr) (kvs : List (Key × V)), xs = [.ref a] ∧ Rd H a (.dK kvs) ∧ ∀ p, H p = none → Q (.ref p) (upd H p (.dK kvs))) ∨
  (∃ (a : Addr) (ps : List Addr) (kvs : List (Key × V)), xs = [.ref a] ∧ SqL K H a (ps.map V.ref) ∧ Paired (fun p kv => SqT K H p [kV kv.1, kv.2]) ps kvs ∧ ∀ p, H p = none → Q (.ref p) (upd H p (.dK (mergeK [] kvs))))
theorem call_dictU (hc : X.calm = true) : CallR X (.type "dict") (rDictU X.K) := CallR.or call_dictD (call_dictP hc)
theorem pairs_rep {b : Option Addr} {P : Addr → Prop} : ∀ {ds : List D} {vs : List V} {ps : List (Key × D)}, RepL T b H P vs ds → pairsK ds = some ps → ∃ as kvs, vs = as.map V.ref ∧ Paired (fun p kv => SqT T.K H p [kV kv.1, kv.2]) as kvs ∧ RepK T b H P kvs ps
  | [], _, _, h, e => by cases h; cases e; exact ⟨[], [], rfl, .nil, .nil⟩
  | d :: ds, _, _, h, e => by
    cases h with
    | @cons v _ vs _ h1 h2 =>
      obtain ⟨pk, e4, e5⟩ := Option.bind_eq_some_iff.mp (show (pairK _).bind _ = some _ from e)
      obtain ⟨qs, e7, rfl⟩ := map_some e5
      obtain ⟨as, kvs, rfl, h3, h4⟩ := pairs_rep h2 e7
      unfold pairK at e4
      split at e4
      · rename_i yd zd
        obtain ⟨ky, e6, rfl⟩ := map_some e4
        obtain ⟨q, us, rfl, hq, hr⟩ := RepQ.tup (.inl h1)
        cases hr with
        | cons r1 r2 =>
          cases r2 with
          | cons r2 r3 =>
            cases r3
            cases keyD_rep (.inl r1) e6
            exact ⟨q :: as, (ky, _) :: kvs, rfl, .cons hq h3, .cons r2 h4⟩
      · cases e4
theorem RepK.merge {b : Option Addr} {P : Addr → Prop} : ∀ {ps : List (Key × D)} {kvs acc : List (Key × V)} {as : List (Key × D)}, RepK T b H P acc as → RepK T b H P kvs ps → RepK T b H P (mergeK acc kvs) (mergeD as ps)
  | [], _, _, _, h, h2 => by cases h2; exact h
  | p :: ps, _, _, _, h, h2 => by
    cases h2 with
    | @cons ky _ _ _ _ r1 r2 =>
      have h3 := RepK.merge (h.put ky r1) r2
      exact h3
theorem cf_dict : CallF T (rDictU T.K) dDictOf := fun b H P vs ds dz Q hP hv hz k => by
  unfold dDictOf at hz
  have sm : ∀ {p : Addr} {o : HO}, H p = none → ∀ a u, P a → H a = some u → upd H p o a = some u := fun n a u _ e => Same.upd' n a u e
  split at hz
  · cases hz
    obtain ⟨v, rfl, h⟩ := paired1 hv
    obtain ⟨p, us, rfl, h1, h2⟩ := h.dic
    exact .inl ⟨p, us, rfl, h1, fun q n => k q _ n ⟨_, upd_same, h2.mono (sm n) fun a o pa e => ⟨pa, ne_of_none e n⟩⟩ rfl⟩
  · obtain ⟨v, rfl, h⟩ := paired1 hv
    obtain ⟨ps, e1, rfl⟩ := map_some hz
    obtain ⟨p, us, rfl, h1, h2⟩ := h.lst
    obtain ⟨as, kvs, rfl, h3, h4⟩ := pairs_rep h2 e1
    exact .inr ⟨p, as, kvs, rfl, .inl (.inl h1), h3, fun q n => k q _ n ⟨_, upd_same, (RepK.merge .nil h4).mono (sm n) fun a o pa e => ⟨pa, ne_of_none e n⟩⟩ rfl⟩
  · cases hz
end
end DL

namespace DL
open PySem PySem.Spec PyProof.Rows L2
theorem _root_.L2.FunD.fnIn {K : PySem.W.Frag} {x qual : Str} {params : Arguments} {body : List Stmt} {scope : Scope} {dvs : List V} {kws : List (Str × V)} {f : Addr} {fd : FuncData} (F : FunD K x qual params body scope dvs kws f fd) : PySem.W.fnIn K f = true := by
  obtain ⟨⟨oc, od, dV, kV, doc, pm, an, cdv, ct, osl, _, l, _⟩, _⟩ := F
  unfold PySem.W.fnIn
  rw [l]
/-- what the text says of a method of n places, called within a built-in -/
structure MOk (X : Cx) (T : Tb) (nm : Str) (n : Nat) (cn : Str) (mf : List Ar → M D) : Prop where
  ex : ∃ (C fA : Addr) (fd : FuncData) (ps : List Str) (k : Nat), T.cls cn = some C ∧ FnOk X.prog X.w X.K X.mg X.base (L2.CX X.prog X.w) k fA fd ps (spD T n mf) ∧ Room (k + 1) X.A ∧ Meth X.K C nm fA ∧ Binds X.K fd ps [] ∧ PySem.W.fnIn X.K fA = true
theorem mOk_mk {X : Cx} {T : Tb} {nm cn : Str} {n k : Nat} {mf : List Ar → M D} {C fA : Addr} {fd : FuncData} {ps : List Str} (hC : T.cls cn = some C) (me : Meth X.K C nm fA) (F : FnOk X.prog X.w X.K X.mg X.base (L2.CX X.prog X.w) k fA fd ps (spD T n mf)) (hr : Room (k + 1) X.A) (hb : Binds X.K fd ps []) (hf : PySem.W.fnIn X.K fA = true) : MOk X T nm n cn mf := ⟨C, fA, fd, ps, k, hC, F, hr, me, hb, hf⟩
def own1 (cs : List (Str × (List Ar → M D))) : D → Option (List Ar → M D)
  | .obj c _ => cs.lookup c
  | _ => none
theorem own1_some {cs : List (Str × (List Ar → M D))} {x : D} {mf : List Ar → M D} (h : own1 cs x = some mf) : ∃ c ds, x = .obj c ds ∧ cs.lookup c = some mf := by
  cases x with
  | obj c ds => exact ⟨c, ds, rfl, h⟩
  | _ => cases h
def eIxO (cs : List (Str × (List Ar → M D))) (g : D → D → Option D) (fa fb : EC) : EC := fun Γ => bnd (fa Γ) fun x => bnd (fb Γ) fun y => match own1 cs x with
  | some mf => mf [.bo x, .sh y]
  | none => opt (g x y)
def asBl (f : Bool → Bool) : D → M D
  | .bl k => M.pure (.bl (f k))
  | _ => M.no
def eInO (cs : List (Str × (List Ar → M D))) (f : Bool → Bool) (g : D → D → Option D) (fa fb : EC) : EC := fun Γ => bnd (fa Γ) fun x => bnd (fb Γ) fun y => match own1 cs y with
  | some mf => bnd (mf [.bo y, .sh x]) (asBl f)
  | none => opt (g x y)
def asLen : D → M D
  | .int n => if 0 ≤ n ∧ n < 100000000 then M.pure (.int n) else M.no
  | _ => M.no
def eLenO (cs : List (Str × (List Ar → M D))) (fa : EC) : EC := fun Γ => bnd (fa Γ) fun x => match own1 cs x with
  | some mf => bnd (mf [.bo x]) asLen
  | none => opt (dLenD [x])
section
variable {X : Cx} {T : Tb} {W : WX} {m : Md} {a b e o : Expr} {f fa fb fc : EC} {pos p apos : Pos} {c : Cf} {own : Ow} {Γ : Gm} {x x' : Bx} {σ : L2.St} {H H' : Hp} {Q : VK} {y : Str} {cs : List (Str × (List Ar → M D))}
/-- the call of such a method within a built-in -/
theorem own_in1 {nm cn : Str} {n : Nat} {mf : List Ar → M D} {ds : List (Str × D)} {pins : List (Addr × Obj)} {s : Shared} {v : V} {vs : List V} {vv : Value} {us : List Value} {as : List Ar} (O : MOk X T nm n cn mf) (tk : Takes X W) (st : Sat T c own Γ x σ H) (I : Inv X pins σ H s) (rx : RelV v vv) (ry : Vals vs us)
    (qv : RepQ T c.b H (Pp c own) v (.obj cn ds)) (qu : Paired (RepA T c.b H (Pp c own)) vs as) (hn : (Ar.bo (.obj cn ds) :: as).length = n) (r : ERes T W .fz c own σ H Q (mf (.bo (.obj cn ds) :: as) x)) :
    ∃ (a C dx fA : Addr) (fs : List (Str × V)), vv = .ref a ∧ H a = some (.ins C dx fs) ∧ Meth X.K C nm fA ∧ PySem.W.fnIn X.K fA = true ∧
      wpAny (model X.prog X.w) X.A.in1 (call (.ref fA) (vv :: us)) (EP X pins σ Q) X.xe s ∧ wpAny (model X.prog X.w) X.A (call (.ref fA) (vv :: us)) (EP X pins σ Q) X.xe s := by
  obtain ⟨C, fA, fd, ps, k, hC, F, hr, me, hb, hf⟩ := O.ex
  obtain ⟨a, C1, dx, fs, rfl, h1, h2, _⟩ := qv.obj
  rw [hC] at h1
  cases h1
  cases rx
  have ar : Paired (RepA T c.b H (Pp c own)) (.ref a :: vs) (.bo (.obj cn ds) :: as) := .cons qv qu
  refine ⟨a, C, dx, fA, fs, rfl, h2, me, hf, ?_, ?_⟩
  · exact run_fnA (A' := X.A.in1) (us := .ref a :: us) (vs := .ref a :: vs) F hr.in1 hb (passAt tk σ) I I.env0.in1 (.cons rfl ry) (call_at st ar hn r)
  · exact run_fnA (A' := X.A) (us := .ref a :: us) (vs := .ref a :: vs) F (hr.mono (Nat.le_succ _)) hb (passAt tk σ) I I.env0 (.cons rfl ry) (call_at st ar hn r)
theorem pd_ixO {r : R2} {g : D → D → Option D} (ho : IxR X r) (hg : OpD T r g) (tk : Takes X W) (hcs : TabOk (MOk X T "__getitem__" 2) cs) (ha : PE X a (E T W .tr fa)) (hb : PE X b (E T W .fz fb)) (hs : PlainIx b := by exact fun _ _ => rfl)
    (hsl : ∀ o i, subscripted b true o i = runValue (.builtin "lifetime.subscript" ⟨[o, i], []⟩) := by intro _ _; rfl) : PE X (.Subscript a b pos) (E T W .fz (eIxO cs g fa fb)) := by
  refine ⟨fun pins s σ H Q I h => ?_⟩
  refine Subscript_ (binT ha hb I (e_two (m1 := .tr) (m2 := .fz) h) fun v u s2 x y H2 I2 rx ry q => ?_)
  obtain ⟨c, own, Γ, xb, d, e, H1, st, g1, q1, q2, r2⟩ := q
  have qd : RepQ T c.b H2 (Pp c own) x d := RepQ.grow g1 q1
  cases hz : own1 cs d with
  | none =>
    rw [hz] at r2
    exact ho a b pins s2 σ H2 x y v u Q I2 rx ry (hg.fin ⟨c, own, Γ, xb, d, e, H2, st, Grow.refl, qd, .inl q2, r2⟩) (hs _ _)
  | some mf =>
    rw [hz] at r2
    obtain ⟨cn, ds, rfl, hl⟩ := own1_some hz
    obtain ⟨p, C, dx, fA, fs, rfl, h1, me, hf, h5, _⟩ := own_in1 (hcs cn mf hl) tk st I2 rx (.cons ry .nil) qd (as := [.sh e]) (.cons q2 .nil) rfl r2
    obtain ⟨mA, J, _⟩ := ins_get I2.hok h1
    obtain ⟨od, J, _⟩ := J.look
    obtain ⟨mm, hF⟩ := I2.fr
    exact PySem.W.sub_K hF I2.ok.mod.kin J me.at_ hf me.fn h5 (hsl _ _)
theorem res_bl {f : Bool → Bool} {z : M D} (st : Sat T c own Γ x σ H) (r2 : ERes T W .fz c own σ H Q (bnd z (asBl f) x)) : ERes T W .fz c own σ H (fun z H3 => ∃ k, z = .bl k ∧ Q (.bl (f k)) H3) (z x) := by
  refine (res_bind (m' := .fz) st r2).imp fun z H3 ⟨dz, x1, st1, g1, qz, r4⟩ => ?_
  cases dz with
  | bl k =>
    have qz' : Rep T c.b H3 (Pp c own) z (.bl k) := qz
    cases qz'
    exact ⟨k, rfl, r4 _ _ Grow.refl st1.bx (.bl _)⟩
  | _ => exact r4.elim
theorem pd_inO {neg : Bool} {op : CmpOp} {r : R2} {g : D → D → Option D} (hop : op = if neg then .NotIn else .In) (ho : OpR X (compareOp op) r) (hg : OpD T r g) (tk : Takes X W) (hcs : TabOk (MOk X T "__contains__" 2) cs) (ha : PE X a (E T W .fz fa)) (hb : PE X b (E T W .tr fb)) (hm : behindInMarks op b = false) :
    PE X (.Compare a [op] [b] pos) (E T W .fz (eInO cs (negF neg) g fa fb)) := by
  refine ⟨fun pins s σ H Q I h => ?_⟩
  refine wpAny_Compare1 (binT ha hb I (e_two (m1 := .fz) (m2 := .tr) h) fun v u s2 x y H2 I2 rx ry q => ?_) hm
  obtain ⟨c, own, Γ, xb, d, e, H1, st, g1, q1, q2, r2⟩ := q
  have qd : Rep T c.b H2 (Pp c own) x d := Rep.grow g1 q1
  cases hz : own1 cs e with
  | none =>
    rw [hz] at r2
    exact ho pins s2 σ H2 x y v u Q I2 rx ry (hg.fin ⟨c, own, Γ, xb, d, e, H2, st, Grow.refl, .inl qd, q2, r2⟩)
  | some mf =>
    rw [hz] at r2
    obtain ⟨cn, ds, rfl, hl⟩ := own1_some hz
    obtain ⟨p, C, dx, fA, fs, rfl, h1, me, hf, _, h5⟩ := own_in1 (hcs cn mf hl) tk st I2 ry (.cons rx .nil) q2 (as := [.sh d]) (.cons qd .nil) rfl (res_bl st r2)
    obtain ⟨mA, J, _⟩ := ins_get I2.hok h1
    obtain ⟨od, J, _⟩ := J.look
    obtain ⟨mm, hF⟩ := I2.fr
    have h6 : wpAny (model X.prog X.w) X.A (call (.ref fA) [.ref p, v]) (fun r s' => ∃ k : Bool, r = .bool k ∧ EP X pins σ Q (.bool (negF neg k)) s') X.xe s2 := thn h5 fun w s' ⟨z, H3, I3, rz, k, ez, q3⟩ => by
      subst ez
      cases rz
      exact ⟨k, rfl, .bl _, H3, I3, rfl, q3⟩
    cases neg with
    | false =>
      cases hop
      exact PySem.W.in_K hF I2.ok.mod.kin J me.at_ me.fn (thn h6 fun r s' ⟨k, e, q⟩ => by subst e; exact wpAny_truthy_bool q)
    | true =>
      cases hop
      exact PySem.W.notIn_K hF I2.ok.mod.kin J me.at_ me.fn (thn h6 fun r s' ⟨k, e, q⟩ => by subst e; exact wpAny_truthy_bool q)
theorem pd_lenO (hK : X.K = T.K) (tk : Takes X W) (hcs : TabOk (MOk X T "__len__" 1) cs) (hg : Gl X "len") (hm : X.mg "len" = none) (ha : PE X a (E T W .tr fa)) (he : starEach [a] X.env = (false, eval a X.env) :: starEach [] X.env := by rfl) (hpl : (backTo pos (starEach [] X.env)).any (·.1) = false := by rfl) :
    PE X (.Call (.Name "len" p) [a] [] pos) (E T W .fz (eLenO cs fa)) := by
  refine ⟨fun pins s σ H Q I h => ?_⟩
  refine wpAny_Call_Name_kw (ld_blt I hg hm boot_len ?_ (by decide) (by decide))
  refine PyProof.Rows.callWith_builtin1 (thn ((pa_cons ha pa_nil he).run pos pins s σ H (fun vs H1 => ∃ v, vs = [v] ∧ ∃ c own Γ x d, Sat T c own Γ x σ H1 ∧ RepM .tr T c.b H1 (Pp c own) v d ∧ ERes T W .fz c own σ H1 Q ((match own1 cs d with | some mf => bnd (mf [.bo d]) asLen | none => opt (dLenD [d])) x)) I ((e_then (m' := .tr) h).imp fun v H1 q => ⟨v, rfl, q⟩)) fun us s1 ⟨vs, H1, I1, r1, q1⟩ => ?_) he hpl
  obtain ⟨v, rfl, c, own, Γ, x, d, st, q, r⟩ := q1
  cases hz : own1 cs d with
  | none =>
    rw [hz] at r
    cases hd : dLenD [d] with
    | none => rw [hd] at r; exact r.elim
    | some dz =>
      rw [hd] at r
      have hc := call_lenV (X := X)
      rw [hK] at hc
      exact hc pins s1 σ H1 [v] us Q I1 r1 (cd_lenD c.b H1 (Pp c own) [v] [d] dz Q (fun p n => st.freshP n) (.cons q .nil) hd fun w H' sm rp => r w H' (Grow.same sm) (st.bx.same sm) rp)
  | some mf =>
    rw [hz] at r
    obtain ⟨cn, ds, rfl, hl⟩ := own1_some hz
    cases r1 with
    | cons rx r2 =>
      cases r2
      have r3 : ERes T W .fz c own σ H1 (fun z H3 => ∃ n : Int, z = .int n ∧ (0 ≤ n ∧ n < 100000000) ∧ Q (.int n) H3) (mf [.bo (.obj cn ds)] x) := by
        refine (res_bind (m' := .fz) st r).imp fun z H3 ⟨dz, x1, st1, g1, qz, r4⟩ => ?_
        cases dz with
        | int n =>
          have qz' : Rep T c.b H3 (Pp c own) z (.int n) := qz
          cases qz'
          unfold asLen at r4
          dsimp only at r4
          by_cases hn : 0 ≤ n ∧ n < 100000000
          · rw [if_pos hn] at r4
            exact ⟨n, rfl, hn, r4 _ _ Grow.refl st1.bx (.int _)⟩
          · rw [if_neg hn] at r4
            exact r4.elim
        | _ => exact r4.elim
      obtain ⟨p, C, dx, fA, fs, rfl, h1, me, hf, h5, _⟩ := own_in1 (hcs cn mf hl) tk st I1 rx .nil q (as := []) .nil rfl r3
      obtain ⟨mA, J, _⟩ := ins_get I1.hok h1
      obtain ⟨od, J, _⟩ := J.look
      obtain ⟨mm, hF⟩ := I1.fr
      refine PySem.W.len_K hF I1.ok.mod.kin J me.at_ me.fn (thn h5 fun w s' ⟨z, H3, I3, rz, n, ez, hn, q3⟩ => ?_)
      subst ez
      obtain ⟨t, rfl⟩ := rz
      exact ⟨⟨hn.1, by omega⟩, .int n, H3, I3.tok _, ⟨_, rfl⟩, q3⟩
/-! ### a < b < c -/
def eChain (g g' : D → D → Option D) (fa fb fc : EC) : EC := fun Γ => bnd (fa Γ) fun x => bnd (fb Γ) fun y => bnd (opt (g x y)) fun z => bnd (asB z) fun k => if k = true then bnd (fc Γ) fun w => opt (g' y w) else M.pure (.bl false)
theorem chain_read {r r' : R2} {g g' : D → D → Option D} (hg : OpD T r g) (hg' : OpD T r' g') (h : E T W .fz (eChain g g' fa fb fc) σ H Q) : tChain r r' (E T W .tr fa) (E T W .tr fb) (E T W .tr fc) σ H Q := by
  obtain ⟨c, own, Γ, x0, s0, r0⟩ := h
  refine ⟨c, own, Γ, x0, s0, (res_bind (m' := .tr) s0 r0).imp fun v H1 ⟨d, x1, s1, g1, q1, r1⟩ => ⟨c, own, Γ, x1, s1, (res_bind (m' := .tr) s1 r1).imp fun u H2 ⟨e, x, s, g2, q2, r1⟩ => ?_⟩⟩
  have q1' : RepQ T c.b H2 (Pp c own) v d := RepQ.grow g2 q1
  cases hz : g d e with
  | none => rw [bnd_no (by rw [hz]; rfl)] at r1; exact r1.elim
  | some dz =>
    rw [bnd_ok (a := dz) (y := x) (by rw [hz]; rfl)] at r1
    cases dz with
    | bl k =>
      refine hg c.b H2 (Pp c own) v u d e _ _ (fun p n => s.freshP n) q1' q2 hz fun w H3 sm rp => ?_
      cases rp
      have s3 := s.grow (Grow.same sm) (s.bx.same sm)
      have q3 : RepQ T c.b H3 (Pp c own) u e := RepQ.grow (Grow.same sm) q2
      have r2 := r1.at (Grow.same sm)
      refine ⟨k, rfl, ?_⟩
      cases k with
      | false => exact r2 _ H3 Grow.refl s3.bx (.bl false)
      | true =>
        have r3 : ERes T W .fz c own σ H3 Q (bnd (fc Γ) (fun w => opt (g' e w)) x) := r2
        exact ⟨c, own, Γ, x, s3, (res_bind (m' := .tr) s3 r3).imp fun w H4 ⟨d2, x2, s4, g4, q4, r4⟩ => hg'.fin ⟨c, own, Γ, x2, e, d2, H4, s4, Grow.refl, RepQ.grow g4 q3, q4, r4⟩⟩
    | _ => exact r1.elim
theorem pd_chain {op op' : CmpOp} {r r' : R2} {g g' : D → D → Option D} {cc : Expr} (ho : OpR X (compareOp op) r) (hg : OpD T r g) (ho' : OpR X (compareOp op') r') (hg' : OpD T r' g') (ha : PE X a (E T W .tr fa)) (hb : PE X b (E T W .tr fb)) (hc : PE X cc (E T W .tr fc))
    (hm : lastMarks [op, op'] [b, cc] = false := by with_unfolding_all rfl) : PE X (.Compare a [op, op'] [b, cc] pos) (E T W .fz (eChain g g' fa fb fc)) := (pe_chain ho ho' ha hb hc hm).mono fun σ H Q h => chain_read hg hg' h
theorem pt_dchain {op op' : CmpOp} {r r' : R2} {g g' : D → D → Option D} {cc : Expr} (ho : OpR X (compareOp op) r) (hg : OpD T r g) (ho' : OpR X (compareOp op') r') (hg' : OpD T r' g') (ha : PE X a (E T W .tr fa)) (hb : PE X b (E T W .tr fb)) (hc : PE X cc (E T W .tr fc))
    (hm : lastMarks [op, op'] [b, cc] = false := by with_unfolding_all rfl) : PT X (.Compare a [op, op'] [b, cc] pos) (ET T W (tOf (eChain g g' fa fb fc))) := (pt_chain ho ho' ha hb hc hm).mono fun σ H Q h => chain_read hg hg' (et_asBf h)
/-! ### f-strings -/
def fmtD : D → Option Str
  | .str z => if z.length ≤ 100000 then some z else none
  | .int i => if i.natAbs.log2 < 1920 then some (toString i) else none
  | _ => none
def jsGo : List EC → Str → EC
  | [], acc => fun _ => M.pure (.str acc)
  | f :: fs, acc => fun Γ => bnd (f Γ) fun d => bnd (opt (fmtD d)) fun z => if (acc ++ z).length ≤ 100000 then jsGo fs (acc ++ z) Γ else M.no
/-- the parts of a formatted text -/
inductive PJs (X : Cx) (T : Tb) (W : WX) : List Expr → List EC → Prop where
  | nil : PJs X T W [] []
  | txt {z : Str} {j : Nat} {es : List Expr} {fs : List EC} {pos : Pos} (r : PJs X T W es fs) : PJs X T W (.Constant (.str z) j pos :: es) (eC (.str z) :: fs)
  | fmt {e : Expr} {f : EC} {es : List Expr} {fs : List EC} {pos : Pos} (h : PE X e (E T W .tr f)) (r : PJs X T W es fs) : PJs X T W (.FormattedValue e (-1) none pos :: es) (f :: fs)
theorem js_run {es : List Expr} {fs : List EC} (h : PJs X T W es fs) : ∃ ts, PJ X es ts ∧ ∀ (acc : Str) (σ : L2.St) (H : Hp) (Q : VK), E T W .fz (jsGo fs acc) σ H Q → tJs ts acc σ H fun out H1 => Q (.str out) H1 := by
  induction h with
  | nil => exact ⟨[], .nil, fun acc σ H Q ⟨c, own, Γ, x, s, r⟩ => r _ H Grow.refl s.bx (.str _)⟩
  | @txt z j es fs pos r ih =>
    obtain ⟨ts, h1, h2⟩ := ih
    refine ⟨_, .cons pe_str h1, fun acc σ H Q ⟨c, own, Γ, x, s, r⟩ => ?_⟩
    have r' : ERes T W .fz c own σ H Q (bnd (opt (fmtD (.str z))) (fun z => if (acc ++ z).length ≤ 100000 then jsGo fs (acc ++ z) Γ else M.no) x) := r
    cases hz : fmtD (.str z) with
    | none => rw [bnd_no (by rw [hz]; rfl)] at r'; exact r'.elim
    | some y =>
      rw [bnd_ok (a := y) (y := x) (by rw [hz]; rfl)] at r'
      obtain ⟨_, rfl⟩ := ite_some hz
      by_cases hl : (acc ++ z).length ≤ 100000
      · rw [if_pos hl] at r'
        exact ⟨z, rfl, sz_of hl, h2 _ σ H Q ⟨c, own, Γ, x, s, r'⟩⟩
      · rw [if_neg hl] at r'
        exact r'.elim
  | @fmt e f es fs pos h r ih =>
    obtain ⟨ts, h1, h2⟩ := ih
    refine ⟨_, .cons (pe_fmt h) h1, fun acc σ H Q ⟨c, own, Γ, x, s, r⟩ => ⟨c, own, Γ, x, s, (res_bind (m' := .tr) s r).imp fun v H1 ⟨d, x1, s1, g1, q1, r1⟩ => ?_⟩⟩
    cases hz : fmtD d with
    | none => rw [bnd_no (by rw [hz]; rfl)] at r1; exact r1.elim
    | some y =>
      rw [bnd_ok (a := y) (y := x1) (by rw [hz]; rfl)] at r1
      by_cases hl : (acc ++ y).length ≤ 100000
      · rw [if_pos hl] at r1
        have fin := h2 (acc ++ y) σ H1 Q ⟨c, own, Γ, x1, s1, r1⟩
        cases d with
        | str z =>
          obtain ⟨h3, rfl⟩ := ite_some hz
          exact .inl ⟨z, RepQ.str q1, sz_of h3, z, rfl, sz_of hl, fin⟩
        | int i =>
          obtain ⟨h3, rfl⟩ := ite_some hz
          exact .inr ⟨i, RepQ.int q1, h3, _, rfl, sz_of hl, fin⟩
        | _ => cases hz
      · rw [if_neg hl] at r1
        exact r1.elim
theorem pd_js {v1 v2 : Expr} {rest : List Expr} {fs : List EC} (h : PJs X T W (v1 :: v2 :: rest) fs) : PE X (.JoinedStr (v1 :: v2 :: rest) pos) (E T W .fz (jsGo fs Str.empty)) := by
  obtain ⟨ts, h1, h2⟩ := js_run h
  exact (pe_joined h1).mono fun σ H Q q => h2 _ σ H Q q
end
end DL

namespace DL
open PySem PySem.Spec PyProof.Rows L2
/-! ### methods, called in any form -/
structure MG where
  N : Nat
  mf : List Ar → M D
  n : Nat
  sel : List Src
  das : List Ar
def shiftS : Src → Src
  | .p i => .p (i + 1)
  | s => s
theorem srcs_shift {α : Type} (v : α) (us ws ds : List α) (sel : List Src) : srcs (.p 0 :: sel.map shiftS) (v :: us) ws ds = v :: srcs sel us ws ds := srcs_self0 v us ws ds sel
def MethG (X : Cx) (T : Tb) (mn : Str) (ks : List Str) (cn : Str) (k : MG) : Prop := ∃ (C fA : Addr) (fd : FuncData) (ps : List Str) (d : Nat) (dvs : List V), T.cls cn = some C ∧ Cls X.K C ∧ Meth X.K C mn fA ∧ FnOk X.prog X.w X.K X.mg X.base (L2.CX X.prog X.w) d fA fd ps (spD T k.N k.mf) ∧ Room d X.A ∧ KBg X.K fd ps (k.n + 1) ks (.p 0 :: k.sel.map shiftS) dvs ∧ Dfl T dvs k.das
def selG (mn : Str) (tab : List (Str × MG)) : D → Option MG
  | .obj c fs => if fs.lookup mn = none then tab.lookup c else none
  | _ => none
theorem selG_some {mn : Str} {tab : List (Str × MG)} {d : D} {k : MG} (h : selG mn tab d = some k) : ∃ c fs, d = .obj c fs ∧ fs.lookup mn = none ∧ tab.lookup c = some k := by
  cases d with
  | obj c fs =>
    have h' : (if fs.lookup mn = none then tab.lookup c else none) = some k := h
    by_cases e : fs.lookup mn = none
    · rw [if_pos e] at h'; exact ⟨c, fs, rfl, e, h'⟩
    · rw [if_neg e] at h'; cases h'
  | _ => cases h
def eMethG (mn : Str) (tab : List (Str × MG)) (m : Nat) (fo : EC) (fs gs : Gm → M (List Ar)) : EC := fun Γ => bnd (fo Γ) fun d => bnd (opt (selG mn tab d)) fun k => bnd (fs Γ) fun as => bnd (gs Γ) fun bs => if as.length = k.n ∧ bs.length = m then lenOk k.N (fun zs => k.mf zs) (.bo d :: srcs k.sel as bs k.das) else M.no
section
variable {X : Cx} {T : Tb} {W : WX} {m : Md} {a b e o : Expr} {es : List Expr} {f fa fb fc fo fe : EC} {fs gs : Gm → M (List Ar)} {pos p apos : Pos} {c : Cf} {own : Ow} {Γ : Gm} {x x' : Bx} {σ : L2.St} {H H' : Hp} {Q : VK} {y mn cn : Str} {kws : List Keyword} {vs : List V} {as das : List Ar}
theorem methG_fin {n N k : Nat} {mf : List Ar → M D} {fA : Addr} {fd : FuncData} {ps ks : List Str} {sel : List Src} {dvs zs : List V} {gs0 : List (Str × D)} {pins : List (Addr × Obj)} {s : Shared} {us ws : List Value} {bs : List Ar} {pa : Addr} (F : FnOk X.prog X.w X.K X.mg X.base (L2.CX X.prog X.w) k fA fd ps (spD T N mf)) (hr : Room k X.A) (hb : KBg X.K fd ps (n + 1) ks (.p 0 :: sel.map shiftS) dvs) (hda : Dfl T dvs das) (tk : Takes X W)
    (I : Inv X pins σ H s) (r : Vals vs us) (rz : Vals zs ws) (l1 : vs.length = n) (l2 : zs.length = ks.length) (st : Sat T c own Γ x σ H) (q : RepQ T c.b H (Pp c own) (.ref pa) (.obj cn gs0)) (ar : Paired (RepA T c.b H (Pp c own)) vs as) (br : Paired (RepA T c.b H (Pp c own)) zs bs) (r2 : ERes T W .fz c own σ H Q (lenOk N mf (.bo (.obj cn gs0) :: srcs sel as bs das) x)) :
    wpAny (model X.prog X.w) X.A (call (.ref fA) (.ref pa :: us) (ks.zip ws)) (EP X pins σ Q) X.xe s := by
  have ar2 := paired_srcs ar br (hda c.b H (Pp c own)) sel
  have ar3 : Paired (RepA T c.b H (Pp c own)) (.ref pa :: srcs sel vs zs dvs) (.bo (.obj cn gs0) :: srcs sel as bs das) := .cons q ar2
  unfold lenOk at r2
  by_cases hl : (Ar.bo (.obj cn gs0) :: srcs sel as bs das).length = N
  · rw [if_pos hl] at r2
    refine run_fnG (us := .ref pa :: us) (vs := .ref pa :: vs) F hr hb (passAt tk σ) I (.cons rfl r) rz (by rw [List.length_cons, l1]) l2 ?_
    rw [srcs_shift]
    exact call_at st ar3 hl r2
  · rw [if_neg hl] at r2
    exact r2.elim
theorem argsGq {mf : List Ar → M D} {n k : Nat} {sel : List Src} {v0 : V} {d0 : D} (q0 : RepQ T c.b H (Pp c own) v0 d0) (s : Sat T c own Γ x σ H) (r : ERes T W .fz c own σ H Q (bnd (fs Γ) (fun as => bnd (gs Γ) fun bs => if as.length = n ∧ bs.length = k then mf (srcs sel as bs das) else M.no) x)) :
    ARes T W c own σ H (fun vs H1 => EA T W gs σ H1 fun zs H2 => vs.length = n ∧ zs.length = k ∧ ∃ as bs x2, Sat T c own Γ x2 σ H2 ∧ RepQ T c.b H2 (Pp c own) v0 d0 ∧ Paired (RepA T c.b H2 (Pp c own)) vs as ∧ Paired (RepA T c.b H2 (Pp c own)) zs bs ∧ ERes T W .fz c own σ H2 Q (mf (srcs sel as bs das) x2)) (fs Γ x) := by
  cases hf : fs Γ x with
  | no => rw [bnd_no hf] at r; exact r
  | er d x1 => rw [bnd_er hf] at r; exact r
  | ok as x1 =>
    rw [bnd_ok hf] at r
    refine fun vs H1 g bx ar => ⟨c, own, Γ, x1, s.grow g bx, ?_⟩
    replace r := r.at g
    cases hg : gs Γ x1 with
    | no => rw [bnd_no hg] at r; exact r
    | er d x2 => rw [bnd_er hg] at r; exact r
    | ok bs x2 =>
      rw [bnd_ok hg] at r
      refine fun zs H2 g2 bx2 br => ?_
      by_cases hl : as.length = n ∧ bs.length = k
      · rw [if_pos hl] at r
        exact ⟨by rw [ar.length]; exact hl.1, by rw [br.length]; exact hl.2, as, bs, x2, (s.grow g bx).grow g2 bx2, RepQ.grow (g.trans g2) q0, RepAs.grow g2 ar, br, r.at g2⟩
      · rw [if_neg hl] at r
        exact r.elim
theorem pd_methG {tab : List (Str × MG)} {ks : List Str} {pl : Sem Bool} (ht : TabOk (MethG X T mn ks) tab) (tk : Takes X W) (he : PE X o (E T W .tr fo)) (ha : PA X (e :: es) (EA T W fs)) (hkw : PK X kws (EA T W gs))
    (hall : (backToKw pos (keywordEach kws X.env)).all (·.1.isSome) = true := by rfl) (hks : (backToKw pos (keywordEach kws X.env)).filterMap (·.1) = ks := by rfl)
    (hst : starEach (e :: es) X.env = (false, eval e X.env) :: starEach es X.env := by rfl)
    (hpl : ((backTo pos (starEach (e :: es) X.env)).any (·.1) || (backToKw pos (keywordEach kws X.env)).any (·.1.isNone)) = false := by rfl)
    (hev : eval (.Call (.Attribute o mn apos) (e :: es) kws pos) X.env = (do
      let ov ← eval o X.env
      standAt apos.atName
      let (f, first) ← holding [ov] (getMethod ov mn pl)
      callWith pos f first (backTo pos (starEach (e :: es) X.env)) (backToKw pos (keywordEach kws X.env))) := by rfl) :
    PE X (.Call (.Attribute o mn apos) (e :: es) kws pos) (E T W .fz (eMethG mn tab ks.length fo fs gs)) := by
  refine ⟨fun pins s σ H Q I h => ?_⟩
  obtain ⟨c, own, Γ, x0, st0, r0⟩ := h
  refine PySem.W.methodCall_KW (pl := pl) (thn (he.run pins s σ H _ I ⟨c, own, Γ, x0, st0, res_bind (m' := .tr) st0 r0⟩) fun u s1 ⟨v, H1, I1, rx, d, x, st, _, q, r⟩ => ?_) hev
  cases hd : selG mn tab d with
  | none => rw [bnd_no (by rw [hd]; rfl)] at r; exact r.elim
  | some k =>
    rw [bnd_ok (a := k) (y := x) (by rw [hd]; rfl)] at r
    obtain ⟨c', gs0, rfl, hl, hk⟩ := selG_some hd
    obtain ⟨C, fA, fd, ps, dd, dvs, hC, hc, hm, F, hr, hb, hda⟩ := ht c' k hk
    have q' : RepQ T c.b H1 (Pp c own) v (.obj c' gs0) := q
    obtain ⟨p, C', dx, gz, rfl, e2, e3, e4⟩ := RepQ.obj q'
    obtain rfl : u = Value.ref p := rx
    rw [hC] at e2
    cases e2
    refine getmeth_ok I1 e3 hc hm ((e4.look mn).1 hl) ?_
    refine PySem.W.callWith_KW (first := [.ref p]) (h₀ := X.base) I.ok.mod.kin hm.kp hall (thn (ha.run pos pins s1 σ H1 _ I1 ⟨c, own, Γ, x, st, argsGq (mf := fun zs => lenOk k.N (fun zs => k.mf zs) (.bo (.obj c' gs0) :: zs)) (sel := k.sel) (das := k.das) q' st r⟩) fun us s2 ⟨vs, H2, I2, r1, q2⟩ => ?_) hpl hst
    refine thn (hkw.run pos pins s2 σ H2 _ I2 q2) fun ws s3 ⟨zs, H3, I3, rz, l1, l2, as, bs, x2, st2, q3, ar, br, r2⟩ => ⟨I3.kIn, ?_⟩
    rw [hks]
    exact methG_fin F hr hb hda tk I3 r1 rz l1 l2 st2 q3 ar br r2
theorem pd_methG0 {tab : List (Str × MG)} {ks : List Str} {pl : Sem Bool} (ht : TabOk (MethG X T mn ks) tab) (tk : Takes X W) (he : PE X o (E T W .tr fo)) (hkw : PK X kws (EA T W gs))
    (hall : (backToKw pos (keywordEach kws X.env)).all (·.1.isSome) = true := by rfl) (hks : (backToKw pos (keywordEach kws X.env)).filterMap (·.1) = ks := by rfl)
    (hpl : ((backTo pos (starEach [] X.env)).any (·.1) || (backToKw pos (keywordEach kws X.env)).any (·.1.isNone)) = false := by rfl)
    (hev : eval (.Call (.Attribute o mn apos) [] kws pos) X.env = (do
      let ov ← eval o X.env
      standAt apos.atName
      let (f, first) ← holding [ov] (getMethod ov mn pl)
      callWith pos f first (backTo pos (starEach [] X.env)) (backToKw pos (keywordEach kws X.env))) := by rfl) :
    PE X (.Call (.Attribute o mn apos) [] kws pos) (E T W .fz (eMethG mn tab ks.length fo aNil gs)) := by
  refine ⟨fun pins s σ H Q I h => ?_⟩
  obtain ⟨c, own, Γ, x0, st0, r0⟩ := h
  refine PySem.W.methodCall_KW (pl := pl) (thn (he.run pins s σ H _ I ⟨c, own, Γ, x0, st0, res_bind (m' := .tr) st0 r0⟩) fun u s1 ⟨v, H1, I1, rx, d, x, st, _, q, r⟩ => ?_) hev
  cases hd : selG mn tab d with
  | none => rw [bnd_no (by rw [hd]; rfl)] at r; exact r.elim
  | some k =>
    rw [bnd_ok (a := k) (y := x) (by rw [hd]; rfl)] at r
    obtain ⟨c', gs0, rfl, hl, hk⟩ := selG_some hd
    obtain ⟨C, fA, fd, ps, dd, dvs, hC, hc, hm, F, hr, hb, hda⟩ := ht c' k hk
    have q' : RepQ T c.b H1 (Pp c own) v (.obj c' gs0) := q
    obtain ⟨p, C', dx, gz, rfl, e2, e3, e4⟩ := RepQ.obj q'
    obtain rfl : u = Value.ref p := rx
    rw [hC] at e2
    cases e2
    refine getmeth_ok I1 e3 hc hm ((e4.look mn).1 hl) ?_
    have q2 := argsGq (mf := fun zs => lenOk k.N (fun zs => k.mf zs) (.bo (.obj c' gs0) :: zs)) (sel := k.sel) (das := k.das) q' st r [] H1 Grow.refl st.bx .nil
    refine PySem.W.callWith_KW0 (first := [.ref p]) (h₀ := X.base) I.ok.mod.kin hm.kp hall ?_ hpl
    refine thn (hkw.run pos pins s1 σ H1 _ I1 q2) fun ws s3 ⟨zs, H3, I3, rz, l1, l2, as, bs, x2, st2, q3, ar, br, r2⟩ => ⟨I3.kIn, ?_⟩
    rw [hks]
    exact methG_fin (us := []) F hr hb hda tk I3 .nil rz l1 l2 st2 q3 ar br r2
theorem methG_mk {N k n : Nat} {mf : List Ar → M D} {C fA : Addr} {fd : FuncData} {ps ks : List Str} {sel : List Src} {dvs : List V} (hC : T.cls cn = some C) (cl : ClF X.K C) (me : Meth X.K C mn fA) (F : FnOk X.prog X.w X.K X.mg X.base (L2.CX X.prog X.w) k fA fd ps (spD T N mf)) (hr : Room k X.A) (hb : KBg X.K fd ps (n + 1) ks (.p 0 :: sel.map shiftS) dvs) (hda : Dfl T dvs das) : MethG X T mn ks cn ⟨N, mf, n, sel, das⟩ :=
  ⟨C, fA, fd, ps, k, dvs, hC, cl.cls, me, F, hr, hb, hda⟩
/-! ### an expression as a statement -/
def sExpr (f : EC) : SC := sE f fun _ Γ x => .nx Γ x
theorem ps_dexpr (he : PE X e (E T W .tr f)) (hs : swapsWith e none pos.line X.env = pure false := by rfl) : PS X (.Expr e pos) (SS T W (sExpr f)) := (ps_expr he hs).mono fun D σ H ⟨c, own, Γ, x, s, r⟩ =>
  ⟨c, own, Γ, x, s, (SRes.bindD (m := .tr) s r).imp fun v H1 ⟨d, x1, s1, g, q, r1⟩ => r1 own σ H1 Fz.refl s1⟩
/-! ### x.split(y) -/
def dSplit (d k : D) : Option D := match d, k with
  | .str a, .str b => if (b.length == 0) = false ∧ a.length ≤ 10000 then some (.lst ((Txt.split a b).map D.str)) else none
  | _, _ => none
def isTx : D → Option D
  | .str z => some (.str z)
  | _ => none
def eSplit (fo fk : EC) : EC := fun Γ => bnd (fo Γ) fun d => bnd (opt (isTx d)) fun d => bnd (fk Γ) fun k => opt (dSplit d k)
theorem pf_split (ho : PE X o (E T W .tr fo)) (hk : PE X e (E T W .tr fe)) (hs : starEach [e] X.env = [(false, eval e X.env)] := by rfl) (hbase : attributeBase o "split" X.env (eval o X.env) = eval o X.env := by rfl) (hline : (apos.endLine == pos.line) = true := by rfl) :
    PE X (.Call (.Attribute o "split" apos) [e] [] pos) (EF T W (eSplit fo fe)) := (pe_split ho hk hs hbase hline).mono fun σ H Q ⟨c, own, Γ, x, s, r⟩ => ⟨c, own, Γ, x, s, by
  cases hf : fo Γ x with
  | no => rw [show eSplit fo fe Γ x = _ from bnd_no hf] at r; exact r
  | er d x1 => rw [show eSplit fo fe Γ x = _ from bnd_er hf] at r; exact r
  | ok d x1 =>
    rw [show eSplit fo fe Γ x = _ from bnd_ok hf] at r
    refine fun v H1 g bx q => ?_
    have s1 := s.grow g bx
    cases d with
    | str a =>
      have q' : RepQ T c.b H1 (Pp c own) v (.str a) := q
      refine ⟨⟨a, q'.str⟩, c, own, Γ, x1, s1, ?_⟩
      have r' : FRes T W c own σ H Q (bnd (fe Γ) (fun k => opt (dSplit (.str a) k)) x1) := r
      cases hg : fe Γ x1 with
      | no => rw [bnd_no hg] at r'; exact r'
      | er d x2 => rw [bnd_er hg] at r'; exact fun cl dd H2 g2 bx2 q2 => r' cl dd H2 (g.trans g2) bx2 q2
      | ok k x2 =>
        rw [bnd_ok hg] at r'
        refine fun u H2 g2 bx2 q2 => ?_
        have s2 := s1.grow g2 bx2
        cases hz : dSplit (.str a) k with
        | none => rw [hz] at r'; exact r'.elim
        | some dz =>
          rw [hz] at r'
          cases k with
          | str b =>
            obtain ⟨⟨h1, h2⟩, rfl⟩ := ite_some (show (if (b.length == 0) = false ∧ a.length ≤ 10000 then some (D.lst ((Txt.split a b).map D.str)) else none) = some dz from hz)
            have q3 : RepQ T c.b H2 (Pp c own) u (.str b) := q2
            refine ⟨a, b, q'.str, by rw [q3.str], h1, by rw [sizeLine_eq]; omega, fun p np => ?_⟩
            exact r' p _ (s1.none_back' s g (s2.none_back' s1 g2 np)) (g.trans (g2.trans (Grow.same (Same.upd' np)))) (bx2.same (Same.upd' np)) ⟨_, upd_same, repL_strs _⟩ rfl
          | _ => cases hz
    | _ => exact r.elim⟩
end
end DL

namespace PySem.W
open PySem PySem.Calls PyProof.Rows Builtin
theorem obj_noI {i : Str} (h : i = Str.ofString "__iadd__" ∨ i = Str.ofString "__isub__") : typeLookup (.type "object") i = pure none := by
  rcases h with rfl | rfl <;> (rw [typeLookup_type, builtinLookup_eq_fast]; kernel_rfl)
def auB (K : Frag) (C : Addr) (i : Str) : Bool := ((clsIn K C).any fun cd => cd.mro == [.ref C, .type "object"]) && decide (findIn K (.ref C) i = some none)
theorem inpl_no {K : Frag} {C : Addr} {M : Model} {h : Heap} {nm : String} {add : Bool} (X : K.In h) (e : auB K C (dunderI nm) = true) (hi : dunderI nm = Str.ofString "__iadd__" ∨ dunderI nm = Str.ofString "__isub__") : Looks M h (fillsInplaceSlot (.ref C) nm add) false := by
  obtain ⟨h1, h2⟩ := Bool.and_eq_true_iff.mp e
  obtain ⟨cd, hc, hm⟩ := any_some h1
  have hm' : cd.mro = [.ref C, .type "object"] := beq_iff_eq.mp hm
  have hs := of_decide_eq_true h2
  intro A Q E s k q
  unfold fillsInplaceSlot
  refine wpAny_bind ((looks_clsIn X hc).andThen (f := fun cd => pure cd.mro) .now A _ E s k ?_)
  rw [hm', List.anyM_cons]
  refine wpAny_bind (wpAny_bind (looks_findIn X hs A _ E s k ?_))
  refine wpAny_pure ?_
  rw [if_neg (by decide), List.anyM_cons]
  refine wpAny_bind (wpAny_bind (wpAny_of_eq (obj_noI hi) ?_))
  refine wpAny_pure ?_
  rw [if_neg (by decide)]
  exact wpAny_pure q
end PySem.W
namespace DL
open PySem PySem.Spec PyProof.Rows L2
theorem _root_.L2.Room.units1 {k : Nat} {A : Around} (r : Room k A) : A.units + 1 < cLine := by have := r.un; omega
section
variable {X : Cx} {T : Tb}
theorem ix_all (hK : X.K = T.K) (hu : X.A.units + 1 < cLine) : IxR X (fun x y H Q => rIx T.K x y H Q ∨ rIxDic x y H Q) := by
  have h := (ix_seq (X := X)).or (ix_dic hu)
  rw [hK] at h
  exact h
theorem augOk_mk {op : Operator} {cn : Str} {C : Addr} {mf : List Ar → M D} (hK : X.K = T.K) (o : OwnOk X T (PySem.dunder op.info.2) cn mf) (hC : T.cls cn = some C) (h : PySem.W.auB T.K C (PySem.dunderI op.info.2) = true) (hi : PySem.dunderI op.info.2 = Str.ofString "__iadd__" ∨ PySem.dunderI op.info.2 = Str.ofString "__isub__" := by first | exact .inl rfl | exact .inr rfl) : AugOk X T op cn mf :=
  ⟨o, fun C' e M hp K => by
    rw [hC] at e
    cases e
    exact PySem.W.inpl_no (by rw [← hK]; exact K) h hi⟩
abbrev dAugAdd : D → D → Option D := dInt2 fun i j => some (.int (i + j))
abbrev dAugSub : D → D → Option D := dInt2 fun i j => some (.int (i - j))
/-! str(x) -/
def dStrU : List D → Option D
  | [.str z] => some (.str z)
  | xs => dStrOf xs
theorem call_strU : CallR X (.type "str") (fun xs H Q => (∃ i, xs = [.int i] ∧ i.natAbs.log2 < 1920 ∧ Q (.str (toString i)) H) ∨ ∃ a, xs = [.str a] ∧ Q (.str a) H) := CallR.or call_str_int SkE.call_str_str
theorem cd_strU : CallD T (fun xs H Q => (∃ i, xs = [.int i] ∧ i.natAbs.log2 < 1920 ∧ Q (.str (toString i)) H) ∨ ∃ a, xs = [.str a] ∧ Q (.str a) H) dStrU := fun b H P vs ds dz Q hP hv hz k => by
  unfold dStrU at hz
  split at hz
  · cases hz
    obtain ⟨v, rfl, h⟩ := paired1 hv
    exact .inr ⟨_, by rw [h.str], k _ H (Same.refl H) (.str _)⟩
  · exact .inl (cd_str b H P vs _ dz Q hP hv hz k)
end
end DL

namespace DL
open PySem PySem.Spec PyProof.Rows L2
/-! ### the run by simp: dicts, own [] in len, chains, formatted texts -/
section
variable {α β : Type} {x y : Bx} {Γ Γ' : Gm} {f fa fb fc fo fk fx fv fe : EC} {t : TC} {tst : TC} {fi : AC} {tc : GC} {vs : List Nat} {cs : List (Str × (List Ar → M D))} {g g' : D → D → Option D} {i : Nat} {fs gs : Gm → M (List Ar)}
@[simp] theorem q_get2 : eGet2 fo fk fx Γ x = bR (fo Γ x) fun d y => bR (oR (isDi d) y) fun d z => bR (fk Γ z) fun k w => bR (fx Γ w) fun e v => oR (dGet d k e) v := by
  show bnd _ _ x = _
  simp only [bnd_bR, opt_oR, M.pure]
@[simp] theorem q_get1 : eGet1 fo fk Γ x = bR (fo Γ x) fun d y => bR (oR (isDi d) y) fun d z => bR (fk Γ z) fun k w => oR (dGet d k .non) w := by
  show bnd _ _ x = _
  simp only [bnd_bR, opt_oR, M.pure]
@[simp] theorem q_pairE : pairE fk fv Γ x = bR (fk Γ x) fun a y => bR (fv Γ y) fun b z => .ok (.tup [a, b]) z := by
  show bnd _ _ x = _
  simp only [bnd_bR, opt_oR, M.pure]
theorem ite_app {p : Prop} [Decidable p] {m m' : M α} {x : Bx} : (if p then m else m') x = if p then m x else m' x := by split <;> rfl
@[simp] theorem q_edc : eDc fi tc tst fk fv vs Γ x = bR (fi Γ x) fun ds y => if ds.length ≤ 100000 then bR (lcGo tc tst (pairE fk fv) (wipeG Γ vs) ds y) fun ys z => oR ((pairsK ys).map fun ps => .dic (mergeD [] ps)) z else .no := by
  show bnd _ _ x = _
  simp only [bnd_bR, opt_oR, M.pure, ite_app, M.no]
def ixO (cs : List (Str × (List Ar → M D))) (g : D → D → Option D) (a b : D) (z : Bx) : R D := match own1 cs a with
  | some mf => mf [.bo a, .sh b] z
  | none => oR (g a b) z
@[simp] theorem q_ixO : eIxO cs g fa fb Γ x = bR (fa Γ x) fun a y => bR (fb Γ y) fun b z => ixO cs g a b z := by
  show bnd _ _ x = _
  simp only [bnd_bR]
  congr 1
  funext a y
  congr 1
  funext b z
  unfold ixO
  cases own1 cs a with
  | none => exact opt_oR
  | some mf => rfl
def inO (cs : List (Str × (List Ar → M D))) (f : Bool → Bool) (g : D → D → Option D) (a b : D) (z : Bx) : R D := match own1 cs b with
  | some mf => bR (mf [.bo b, .sh a] z) fun d y => asBl f d y
  | none => oR (g a b) z
@[simp] theorem q_inO {fu : Bool → Bool} : eInO cs fu g fa fb Γ x = bR (fa Γ x) fun a y => bR (fb Γ y) fun b z => inO cs fu g a b z := by
  show bnd _ _ x = _
  simp only [bnd_bR]
  congr 1
  funext a y
  congr 1
  funext b z
  unfold inO
  cases own1 cs b with
  | none => exact opt_oR
  | some mf => exact bnd_bR
@[simp] theorem q_asBl {fu : Bool → Bool} {k : Bool} : asBl fu (.bl k) x = .ok (.bl (fu k)) x := rfl
def lenO (cs : List (Str × (List Ar → M D))) (a : D) (z : Bx) : R D := match own1 cs a with
  | some mf => bR (mf [.bo a] z) fun d y => asLen d y
  | none => oR (dLenD [a]) z
@[simp] theorem q_lenO : eLenO cs fa Γ x = bR (fa Γ x) fun a y => lenO cs a y := by
  show bnd _ _ x = _
  simp only [bnd_bR]
  congr 1
  funext a y
  unfold lenO
  cases own1 cs a with
  | none => exact opt_oR
  | some mf => exact bnd_bR
@[simp] theorem q_chain : eChain g g' fa fb fc Γ x = bR (fa Γ x) fun a y => bR (fb Γ y) fun b z => cE (bR (oR (g a b) z) fun c w => asB c w) (fun Γ v => bR (fc Γ v) fun e u => oR (g' b e) u) (eC (.bl false)) Γ := by
  show bnd _ _ x = _
  simp only [bnd_bR]
  congr 1
  funext a y
  congr 1
  funext b z
  rw [opt_oR]
  cases hg : g a b with
  | none => rfl
  | some d =>
    cases d with
    | bl k =>
      cases k with
      | false => rfl
      | true =>
        show bR (fc Γ z) _ = bR (fc Γ z) _
        congr 1
        funext e u
        exact opt_oR
    | _ => rfl
@[simp] theorem q_js0 {acc : Str} : jsGo [] acc Γ x = .ok (.str acc) x := rfl
@[simp] theorem q_js1 {acc : Str} {fz : List EC} : jsGo (f :: fz) acc Γ x = bR (f Γ x) fun d y => bR (oR (fmtD d) y) fun z w => if (acc ++ z).length ≤ 100000 then jsGo fz (acc ++ z) Γ w else .no := by
  show bnd _ _ x = _
  simp only [bnd_bR, opt_oR, ite_app, M.no]
def putR (Γ : Gm) (i : Nat) (kvs : List (Key × D)) (d k : D) (x : Bx) : SR := match keyD k with
  | some ky => if kvs.length < 100000 then .nx (Γ.set i (.ow (.dic (putKD kvs ky d)))) x else .no
  | none => .no
def kR (o : Option (List (Key × D))) (k : List (Key × D) → SR) : SR := match o with
  | some kvs => k kvs
  | none => .no
@[simp] theorem kR_some {kvs : List (Key × D)} {k : List (Key × D) → SR} : kR (some kvs) k = k kvs := rfl
@[simp] theorem q_putD : sPutD i fk fe Γ x = kR (ownD Γ i) fun kvs => rS (fe Γ x) Γ fun d y => rS (fk Γ y) Γ fun k z => putR Γ i kvs d k z := by
  unfold sPutD kR
  cases ownD Γ i with
  | none => rfl
  | some kvs =>
    dsimp only
    rw [sE_rS]
    congr 1
    funext d y
    rw [sE_rS]
    rfl
@[simp] theorem q_sexpr : sExpr f Γ x = rS (f Γ x) Γ fun _ y => .nx Γ y := sE_rS
@[simp] theorem q_methG {mn : Str} {tab : List (Str × MG)} {m : Nat} : eMethG mn tab m fo fs gs Γ x = bR (fo Γ x) fun d y => bR (oR (selG mn tab d) y) fun k z => bR (fs Γ z) fun as u => bR (gs Γ u) fun bs v => if as.length = k.n ∧ bs.length = m then lenOk k.N (fun zs => k.mf zs) (.bo d :: srcs k.sel as bs k.das) v else .no := by
  show bnd _ _ x = _
  simp only [bnd_bR, opt_oR, ite_app, M.no]
@[simp] theorem q_split : eSplit fo fk Γ x = bR (fo Γ x) fun d y => bR (oR (isTx d) y) fun d z => bR (fk Γ z) fun k w => oR (dSplit d k) w := by
  show bnd _ _ x = _
  simp only [bnd_bR, opt_oR, M.pure]
end
/-! data -/
@[simp] theorem s_isDi (kvs : List (Key × D)) : isDi (.dic kvs) = some (.dic kvs) := rfl
@[simp] theorem s_isTx (z : Str) : isTx (.str z) = some (.str z) := rfl
@[simp] theorem s_keyS (z : Str) : keyD (.str z) = some (.inr z) := rfl
@[simp] theorem s_keyI (z : Int) : keyD (.int z) = some (.inl z) := rfl
@[simp] theorem s_ixDL (ds : List D) (d : D) : dIxD (.lst ds) d = dIx (.lst ds) d := rfl
@[simp] theorem s_ixDT (ds : List D) (d : D) : dIxD (.tup ds) d = dIx (.tup ds) d := rfl
@[simp] theorem s_ixDS (z : Str) (d : D) : dIxD (.str z) d = dIx (.str z) d := rfl
@[simp] theorem s_lenDL (ds : List D) : dLenD [.lst ds] = some (.int ds.length) := rfl
@[simp] theorem s_lenDT (ds : List D) : dLenD [.tup ds] = some (.int ds.length) := rfl
@[simp] theorem s_lenDD (kvs : List (Key × D)) : dLenD [.dic kvs] = some (.int kvs.length) := rfl
@[simp] theorem s_strS (z : Str) : dStrU [.str z] = some (.str z) := rfl
@[simp] theorem s_itD (kvs : List (Key × D)) : items (.dic kvs) = some (kvs.map fun kv => kD kv.1) := rfl
@[simp] theorem s_dictD (kvs : List (Key × D)) : dDictOf [.dic kvs] = some (.dic kvs) := rfl
theorem all_blsD (ps : List Bool) : dAll [.lst (ps.map D.bl)] = some (.bl (ps.all id)) := by
  have h : blsD (ps.map D.bl) = some ps := by
    induction ps with
    | nil => rfl
    | cons p r ih => show (blsD (r.map D.bl)).map _ = _; rw [ih]; rfl
  show (blsD _).map _ = _
  rw [h]
  rfl
theorem all_fn {α : Type} (f : α → Bool) (l : List α) : dAll [.lst (l.map fun a => D.bl (f a))] = some (.bl (l.all f)) := by
  have h := all_blsD (l.map f)
  rw [List.map_map] at h
  rw [show (l.map fun a => D.bl (f a)) = l.map (D.bl ∘ f) from rfl, h]
  simp [List.all_map]
def mulO (cs : List (Str × (List Ar → M D) × (List Ar → M D))) (g : D → D → Option D) (a b : D) (z : Bx) : R D := match mulK cs a b with
  | .l mf => mf [.bo a, .bo b] z
  | .r mr => mr [.bo b, .bo a] z
  | .n => oR (g a b) z
@[simp] theorem q_mulO {cs : List (Str × (List Ar → M D) × (List Ar → M D))} {g : D → D → Option D} {fa fb : EC} {Γ : Gm} {x : Bx} : eMulO cs g fa fb Γ x = bR (fa Γ x) fun a y => bR (fb Γ y) fun b z => mulO cs g a b z := by
  show bnd _ _ x = _
  simp only [bnd_bR]
  congr 1
  funext a y
  congr 1
  funext b z
  unfold mulO
  cases mulK cs a b with
  | n => exact opt_oR
  | l mf => rfl
  | r mf => rfl
@[simp] theorem q_methU {mn : Str} {tab : List (Str × MK)} {fo : EC} {fs : Gm → M (List Ar)} {Γ : Gm} {x : Bx} : eMethU mn tab fo fs Γ x = bR (fo Γ x) fun d y => bR (oR (selM mn tab d) y) fun k z => bR (fs Γ z) fun as u => lenOk k.n k.mf (.bo d :: (as ++ k.das)) u := by
  show bnd _ _ x = _
  simp only [bnd_bR, opt_oR]
theorem st_aug {i : Nat} {cs : List (Str × (List Ar → M D))} {g : D → D → Option D} {fe : EC} {Γ : Gm} {x x1 x2 x3 : Bx} {d y z : D} (h1 : eVarT i Γ x = .ok d x3) (h2 : fe Γ x = .ok y x1) (h3 : opO cs g d y x1 = .ok z x2) : sAugO i cs g fe Γ x = .nx (Γ.set i (.sh z)) x2 := by
  unfold sAugO
  rw [h1]
  dsimp only
  rw [sE_rS, h2]
  show (match (match ownM cs d y with | some mf => mf [.bo d, .bo y] | none => opt (g d y)) x1 with | R.ok z x' => SR.nx (Γ.set i (.sh z)) x' | R.er e x' => .er e Γ x' | R.no => .no) = _
  have h4 : (match ownM cs d y with | some mf => mf [.bo d, .bo y] | none => opt (g d y)) x1 = .ok z x2 := h3
  rw [h4]
@[simp] theorem q_exc {cn : Str} {fl : List Str} {fs : AC} {Γ : Gm} {x : Bx} : eExc cn fl fs Γ x = bR (fs Γ x) fun ds y => .ok (.exc cn (fl.zip ds).reverse) y := rfl
@[simp] theorem q_exc0 {cn : Str} {Γ : Gm} {x : Bx} : eExc0 cn Γ x = .ok (.exc cn [(("given" : Str), .tup [])]) x := rfl
theorem eq_self {d : D} {p : PyData} (f : Bool → Bool) (h : toPy d = some p) (hs : SeqAt.shaped p = true) (hc : p.canLay0 = true) : dEqB f d d = some (.bl (f true)) := by
  unfold dEqB
  rw [h]
  show (if _ then _ else _) = _
  rw [if_pos ⟨hs, hs⟩, SeqAt.eqv_refl p hc]
end DL

namespace DL
open PySem PySem.Spec PyProof.Rows L2
/-! ### except (A, B) as e: v = e -/
theorem flying_ext {B h h' : Heap} {l : List Env} {e : Addr} {Z : Obj → Prop} (f : HandSPX.FlyingZ B l e Z h) (k : ∀ b o, h.get? b = some o → h'.get? b = some o) : HandSPX.FlyingZ B l e Z h' := by
  obtain ⟨k1, k2, k3, oe, vs, T, oT, ts, he, hz, hd, h1, h2, h3, h4, h5, h6⟩ := f
  exact ⟨fun b o z => k b o (k1 b o z), k2, k3.of_keeps (fun b o z _ => ⟨o, k b o z, rfl⟩), oe, vs, T, oT, ts, k _ _ he, hz, hd, h1, h2, h3, k _ _ h4, h5, h6⟩
section
variable {X : Cx} {xa xb n v : Str} {ca cb : Value} {i j kk : Nat} {body : List Stmt} {na1 na2 tpos pos pos' p1 p2 p3 : Pos} {tb : WX → TS} {Wout : WX}
theorem ps_try_asT (hs : X.stack = X.env :: X.outer) (hf : X.env.frame = some X.env.locals) (hex : X.ex = []) (hN : X.N.Nodup) (hi : X.N[i]? = some n) (hln : X.env.kindOf n = some .local) (hj : X.N[j]? = some v) (hlv : Loc X.env.scope v) (hfv : X.fn v = true ∨ X.env.scope.names.lookup v = some .local) (hc1 : Names X xa ca) (hc2 : Names X xb cb) (tk : Takes X Wout)
    (hb : ∀ (W : WX) (pn : List (Addr × Obj)) (xe : Value → Shared → Prop), Takes (X.tr pn xe) W → PassesOwn (model X.prog X.w) X.A X.env xe → PSs (X.tr pn xe) body (tb W))
    (hsu : ∀ (a : Addr) (oe : Obj) (pn : List (Addr × Obj)), PSs (X.suite a ((a, oe) :: pn)) [.Assign [.Name v p1] (.Name n p2) p3] (tAsg (tVar i) (gName j))) :
    PS X (.Try body [.ExceptHandler (some (.Tuple [.Name xa na1, .Name xb na2] kk tpos)) (some n) [.Assign [.Name v p1] (.Name n p2) p3] pos'] [] [] pos) (fun De σ H => tb (wAsV X.K (fun cls => PySem.W.exmAny X.K cls [ca, cb]) i j Wout De) De σ H) := by
  refine ⟨fun pins s σ H De I h => ?_⟩
  have ok := I.ok
  have hfr : X.A.frames = some (X.env :: X.outer) := by rw [ok.frames, hs]
  have hloc : Loc X.env.scope n := .inl hln
  refine wpAny_Try_except ?_
  refine wpAny_mono ((hb (wAsV X.K (fun cls => PySem.W.exmAny X.K cls [ca, cb]) i j Wout De) (X.pn ++ pins) (fun e s₁ => wpAny (model X.prog X.w) X.A (noteFrame e X.env) (fun _ s₂ => wpAny (model X.prog X.w) X.A (setFlight e none) (fun _ s₃ =>
    wpAny (model X.prog X.w) X.A (handleBy e X.env [.ExceptHandler (some (.Tuple [.Name xa na1, .Name xb na2] kk tpos)) (some n) [.Assign [.Name v p1] (.Name n p2) p3] pos']) (SP X pins De) X.xe s₃) X.xe s₂) X.xe s₁) (fun u s' xx => ?_) PassesOwn.looking).run [] s σ H De (I.toTry _) h) (fun f s1 hsp => ?_) (fun e s1 he => he)
  · obtain ⟨a, B, sI, pins', σ', H', cls, d, rfl, J', nb, up, sky, na, os, ag, b, hb1, hyes, hno⟩ := xx
    have J : Inv X pins σ' H' sI := J'.ofTry ok
    have sky' : Sky B (X.env :: X.outer) a (Zc cls d) X.env.locals s'.heap := by rw [← hs]; exact sky
    show wpAny (model X.prog X.w) X.A (noteFrame (.ref a) X.env) _ _ _
    refine Sky.land Zc.steady hfr hf sky' fun h3 fl3 up3 => ?_
    have J3 : Inv X pins σ' H' { s' with heap := h3 } := J.landed nb fl3.1 (up.trans up3) os ag
    obtain ⟨oe3, vs3, he3, hz3, hd3⟩ := fl3.there
    have nfr : a ∉ frs (X.env :: X.outer) := fun hm => by
      obtain ⟨_, o', e', hnf⟩ := fl3.2.2.1.mem hm
      rw [he3] at e'
      cases e'
      exact hnf _ hd3
    have nbI : sI.heap.get? a = none := by
      cases e : sI.heap.get? a with
      | none => rfl
      | some o =>
        have q := nb a o e (by show a ∉ frs X.stack; rw [hs]; exact nfr)
        rw [fl3.2.1] at q
        cases q
    have nL : a ≠ X.env.locals := fun z => nfr (List.mem_filterMap.mpr ⟨X.env, List.mem_cons_self, by rw [hf, z]⟩)
    have nF : a ∉ X.fs := fun hm => by
      obtain ⟨e, he, q⟩ := List.mem_filterMap.mp hm
      exact nfr (List.mem_filterMap.mpr ⟨e, List.mem_cons_of_mem _ he, q⟩)
    have h0 : X.s_0.heap.get? a = none := by
      cases e : X.s_0.heap.get? a with
      | none => rfl
      | some o =>
        obtain ⟨o', e'⟩ := J.base.there a o e (by rw [hex]; simp)
        rw [nbI] at e'
        cases e'
    have nP : ∀ p ∈ X.pn ++ pins, p.1 ≠ a := fun p hp z => by
      have e := (J.pin p hp).1
      rw [z, nbI] at e
      cases e
    have S3 := J3.suite he3 hd3 na nL nF
    refine wpAny_handleBy_cons (codeAny_handlers_test ?_) (by intro q; cases q)
    have kp : ∀ q o, h3.get? q = some o → (h3.push { cls := .type "tuple", data := .seq [ca, cb].toArray }).get? q = some o := fun _ _ z => Heap.get?_push_of_some _ z
    have LT : PySem.W.Looks (model X.prog X.w) h3 (typeOf (.ref a)) cls := fun A Q E s k q => wpAny_typeOf_ref (k _ _ he3) (by rw [hz3.1]; exact q)
    have test : ∀ {x : Str} {c : Value} {np : Pos} (hc : Names X x c) {Q : Value → Shared → Prop} {E : Value → Shared → Prop}, Q c { s' with heap := h3 } → wpAny (model X.prog X.w) (X.A.mark (some (.ref a))) (eval (.Name x np) X.env) Q E { s' with heap := h3 } := fun {x c np} hc {Q E} q => by
      obtain ⟨hg, hdbg, hm | ⟨hm, hv, hnn⟩⟩ := hc
      · exact ld_glob (X := X.suite a ((a, oe3) :: (X.pn ++ pins))) S3 hg hm q hdbg
      · exact ld_blt (X := X.suite a ((a, oe3) :: (X.pn ++ pins))) S3 hg hm hv q hnn hdbg
    have LM := PySem.W.exm_tup2 (M := model X.prog X.w) (J3.kIn.keeps kp) (LT.keeps kp) (Heap.get?_push_size h3 rfl) hb1
    replace fl3 := flying_ext fl3 kp
    replace up3 := up3.trans (.of_keeps kp)
    refine wpAny_Tuple (wpAny_items_cons (test hc1 (wpAny_items_cons (test hc2 (wpAny_items_nil ⟨by size_fits, ?_⟩)))))
    refine LM.here ?_
    cases b with
    | true =>
      refine codeAny_handlers_suite_as ?_
      refine HandSPX.lands_againZ fl3 fun h4 fl4 up4 => ?_
      have J4 : Inv X pins σ' H' { s' with heap := h4 } := J.landed nb fl4.1 ((up.trans up3).trans up4) os ag
      obtain ⟨oe4, vs4, he4, hz4, hd4⟩ := fl4.there
      have S4 := J4.suite he4 hd4 na nL nF
      refine store_ok (X := X.suite a ((a, oe4) :: (X.pn ++ pins))) (v := .ref a) S4 hN hi hloc rfl (fun s5 S5 => ?_) (.inr hln)
      have hlt : i < σ'.length := by
        have l := J4.len
        rw [l]
        exact (List.getElem?_eq_some_iff.mp hi).1
      refine wpAny_mono ((hsu a oe4 (X.pn ++ pins)).run [] s5 _ H' { nx := fun σ6 H6 => σ6 = (σ'.set i (some (.ref a))).set j (some (.ref a)) ∧ H6 = H', rt := fun _ _ => False, bk := fun _ _ => False, ct := fun _ _ => False } S5 ⟨.ref a, by rw [List.getElem?_set_self hlt], rfl, rfl⟩) (fun f s6 hsp => ?_) (fun _ _ z => False.elim z)
      cases f with
      | next =>
        obtain ⟨σ6, H6, S6, e6, e6'⟩ := hsp
        subst e6 e6'
        have ha6 : s6.heap.get? a = some oe4 := (S6.pin (a, oe4) (List.mem_append_left _ List.mem_cons_self)).1
        have I6 : Inv X pins _ H6 s6 := S6.unsuite ok
        have nC : ∀ x c, X.env.cells.lookup x = some c → c ≠ a := fun x c e z => by
          obtain ⟨w, hw⟩ := I6.cell x c e
          obtain ⟨o, eo, dq⟩ := hw
          rw [z, ha6] at eo
          cases eo
          first
            | (rw [hd4] at dq; cases dq)
            | (obtain ⟨_, dq⟩ := dq; rw [hd4] at dq; cases dq)
        have hob : ObjOk X.prog X.w (upd H6 a (exV cls d a)) s6.heap a (exV cls d a) := ⟨⟨oe4, vs4, ha6, hz4, hd4⟩, ⟨oe4, ha6⟩, fun h1 h2 ⟨o, w, e, r⟩ kk => ⟨o, w, kk o e, r⟩⟩
        have I7 := Inv.track I6 na h0 nL nC nP hob
        exact gone_ok I7 hN hi hln fun s7 J7 => ⟨_, _, J7, hyes rfl a na⟩
      | brk =>
        obtain ⟨_, _, _, z⟩ := hsp
        exact z.elim
      | cont =>
        obtain ⟨_, _, _, z⟩ := hsp
        exact z.elim
      | ret u =>
        obtain ⟨_, _, _, _, _, z⟩ := hsp
        exact z.elim
    | false =>
      show wpAny _ X.A (handleBy (.ref a) X.env []) _ _ _
      refine wpAny_handleBy_nil ?_
      obtain ⟨k1, k2, k3, oe, vs, T, oT, ts', he, hz, hd, h1, hr⟩ := id fl3
      unfold PySem.passOn
      refine wpAny_bind (wpAny_field he hd h1 ?_)
      rw [if_neg (show ¬ ((Value.ref T == Value.none) = true) from by simp)]
      have fin : wpAny (model X.prog X.w) X.A (setFlight (.ref a) X.env.frame) (fun _ s4 => wpAny (model X.prog X.w) X.A (throw (.ref a) : Sem Flow) (SP X pins De) X.xe s4) X.xe { s' with heap := h3.push { cls := .type "tuple", data := .seq [ca, cb].toArray } } := by
        rw [hf]
        refine HandSPX.setFlight_upZ fl3 fun h4 hh4 up4 => wpAny_throw (tk _ _ ?_)
        exact ⟨a, B, sI, pins, σ', H', cls, d, rfl, J, nb, (up.trans up3).trans up4, .inr (.inr (by rw [hs]; exact hh4)), na, os, ag, hno rfl⟩
      first
        | exact wpAny_bind (wpAny_pure (wpAny_bind fin))
        | exact wpAny_bind fin
  · cases f with
    | next =>
      obtain ⟨σ', H', J', q⟩ := hsp
      exact wpAny_execs_nil ⟨σ', H', J'.ofTry ok, q⟩
    | brk =>
      obtain ⟨σ', H', J', q⟩ := hsp
      exact ⟨σ', H', J'.ofTry ok, q⟩
    | cont =>
      obtain ⟨σ', H', J', q⟩ := hsp
      exact ⟨σ', H', J'.ofTry ok, q⟩
    | ret u =>
      obtain ⟨v, σ', H', J', r, q⟩ := hsp
      exact ⟨v, σ', H', J'.ofTry ok, r, q⟩
end
def XtOk2 (T : Tb) (ca cb : Value) (L : List (Str × Bool)) : Prop := ∀ c k C, L.lookup c = some k → T.cls c = some C → PySem.W.exmAny T.K (.ref C) [ca, cb] = some k
section
variable {X : Cx} {T : Tb} {W : WX} {c : Cf} {own : Ow} {Γ : Gm} {x : Bx} {σ : L2.St} {H : Hp} {g : SC}
theorem ps_dtryT {xa xb n v : Str} {ca cb : Value} {i j : Nat} {L : List (Str × Bool)} {body : List Stmt} {na1 na2 tpos pos pos' p1 p2 p3 : Pos} {kk : Nat} (hK : X.K = T.K) (hs : X.stack = X.env :: X.outer) (hf : X.env.frame = some X.env.locals) (hex : X.ex = []) (hN : X.N.Nodup) (hi : X.N[i]? = some n) (hln : X.env.kindOf n = some .local) (hj : X.N[j]? = some v) (hlv : Loc X.env.scope v) (hfv : X.fn v = true ∨ X.env.scope.names.lookup v = some .local) (hc1 : Names X xa ca) (hc2 : Names X xb cb) (hL : XtOk2 T ca cb L) (tk : Takes X W)
    (hb : ∀ (W' : WX) (pn : List (Addr × Obj)) (xe : Value → Shared → Prop), Takes (X.tr pn xe) W' → PassesOwn (model X.prog X.w) X.A X.env xe → PSs (X.tr pn xe) body (SS T W' g))
    (hsu : ∀ (a : Addr) (oe : Obj) (pn : List (Addr × Obj)), PSs (X.suite a ((a, oe) :: pn)) [.Assign [.Name v p1] (.Name n p2) p3] (tAsg (tVar i) (gName j))) :
    PS X (.Try body [.ExceptHandler (some (.Tuple [.Name xa na1, .Name xb na2] kk tpos)) (some n) [.Assign [.Name v p1] (.Name n p2) p3] pos'] [] [] pos) (SS T W (sTry i j L g)) :=
  (ps_try_asT hs hf hex hN hi hln hj hlv hfv hc1 hc2 tk (tb := fun W' => SS T W' g) hb hsu).mono fun De σ H ⟨c, own, Γ, x, s, r⟩ => ⟨c, own, Γ, x, s, by
    unfold sTry at r
    cases hg : g Γ x with
    | nx Γ' x' => rw [hg] at r; exact r
    | rt d x' => rw [hg] at r; exact r
    | bk Γ' x' => rw [hg] at r; exact r
    | ct Γ' x' => rw [hg] at r; exact r
    | no => rw [hg] at r; exact r
    | er d Γ' x' =>
      rw [hg] at r
      intro cls dd own' σ' H' fz s' q
      obtain ⟨cn, C, dx, fs, ds, rfl, hC, rfl, rfl, h5, h6, h7⟩ := q
      dsimp only at r
      cases hl : L.lookup cn with
      | none => rw [hl] at r; exact r.elim
      | some b =>
        rw [hl] at r
        refine ⟨b, by rw [hK]; exact hL cn b C hl hC, fun hb a na => ?_, fun hb => ?_⟩
        · subst hb
          have sm : Same H' (upd H' a (exV (.ref C) (some dx) a)) := Same.upd' na
          have s1 := s'.grow (Grow.same sm) (s'.bx.same sm)
          have rp : Rep T c.b (upd H' a (exV (.ref C) (some dx) a)) (Pp c own') (.ref a) (.exc cn ds) := .exc (s'.freshP na) h5 hC upd_same (sm _ _ h6) (h7.same sm)
          exact r own' _ _ (fun b o h1 h2 e => ⟨sm _ _ (fz b o h1 h2 e).1, (fz b o h1 h2 e).2⟩) (((s1.set i rp).set j rp).clear i)
        · subst hb
          exact r _ _ own' σ' H' fz s' ⟨cn, C, dx, fs, ds, rfl, hC, rfl, rfl, h5, h6, h7⟩⟩
end
def xtB2 (T : Tb) (ca cb : Value) (L : List (Str × Bool)) : Bool := L.all fun p => match T.cls p.1 with
  | some C => decide (PySem.W.exmAny T.K (.ref C) [ca, cb] = some p.2)
  | none => true
theorem xtB2_ok {T : Tb} {ca cb : Value} {L : List (Str × Bool)} (h : xtB2 T ca cb L = true) : XtOk2 T ca cb L := fun c k C e eC => by
  have h1 := List.all_eq_true.mp h (c, k) (lookup_mem e)
  dsimp only at h1
  rw [eC] at h1
  exact of_decide_eq_true h1
end DL

namespace DL
open PySem PySem.Spec PyProof.Rows L2
/-! ### xs[a::c] of a list: a left out or written, c written -/
def pickL {α : Type} (xs : List α) (lo st : Option Int) : List α := (sliceRange (sliceBounds lo none st xs.length).1 (sliceBounds lo none st xs.length).2.1 (sliceBounds lo none st xs.length).2.2).filterMap (xs[·]?)
theorem paired_pick {α β : Type} {F : α → β → Prop} {xs : List α} {ys : List β} (h : Paired F xs ys) : ∀ is : List Nat, Paired F (is.filterMap (xs[·]?)) (is.filterMap (ys[·]?))
  | [] => .nil
  | i :: is => by
    have ih := paired_pick h is
    rcases paired_opt h i with ⟨h1, h2⟩ | ⟨a, b, h1, h2, h3⟩
    · rw [List.filterMap_cons_none h1, List.filterMap_cons_none h2]
      exact ih
    · rw [List.filterMap_cons_some h1, List.filterMap_cons_some h2]
      exact .cons h3 ih
theorem slicePick_list (its : List Value) (lo st : Option Int) : (slicePick its.toArray lo none st).toList = pickL its lo st := by
  unfold slicePick pickL
  simp
/-- a part that is left out, or a written number -/
inductive CPart : Option Expr → Option Int → Prop where
  | no : CPart none none
  | int {i : Int} {j : Nat} {p : Pos} : CPart (some (.Constant (.int i) j p)) (some i)
section
variable {X : Cx} {T : Tb} {W : WX} {e : Expr} {f : EC} {lo : Option Expr} {li : Option Int} {p1 p3 pos : Pos}
theorem CPart.run (h : CPart lo li) {pins : List (Addr × Obj)} {s : Shared} {σ : L2.St} {H : Hp} (I : Inv X pins σ H s) : wpAny (model X.prog X.w) X.A (evalPart lo X.env) (fun u s' => ∃ o H', Inv X pins σ H' s' ∧ IsPart u o ∧ o = li ∧ H' = H) X.xe s := by
  cases h with
  | no => exact po_none.run pins s σ H (fun o H' => o = none ∧ H' = H) I ⟨rfl, rfl⟩
  | int => exact (po_some pe_int).run pins s σ H (fun o H' => o = some _ ∧ H' = H) I ⟨_, rfl, rfl, rfl⟩
def tStepL (K : PySem.W.Frag) (te : TE) (li : Option Int) (c : Int) : TE := fun σ H Q => te σ H fun x H1 => ∃ a xs, x = .ref a ∧ SqL K H1 a xs ∧ ∀ p, H1 p = none → Q (.ref p) (upd H1 p (.lst (pickL xs li (some c))))
theorem pe_stepL {te : TE} {c : Int} {k : Nat} (hc : c ≠ 0) (hlo : CPart lo li) (he : PE X e te) : PE X (.Subscript e (.Slice lo none (some (.Constant (.int c) k p1)) p3) pos) (tStepL X.K te li c) := by
  refine ⟨fun pins s σ H Q I h => ?_⟩
  refine Subscript_ (thn (he.run pins s σ H _ I h) fun v s1 ⟨x, H1, I1, r1, q1⟩ => ?_)
  obtain ⟨a, xs, ex, hx, q⟩ := q1
  subst ex
  cases r1
  refine wpAny_Slice (thn (hlo.run I1) fun vl s2 ⟨l, H2, I2, pl, el, e2⟩ => ?_)
  subst el e2
  refine thn (CPart.no.run I2) fun vu s3 ⟨u, H3, I3, pu, eu, e3⟩ => ?_
  subst eu e3
  refine thn ((CPart.int (i := c) (j := k) (p := p1)).run I3) fun vs s4 ⟨o, H4, I4, ps, eo, e4⟩ => ?_
  subst eo e4
  have I5 : Inv X pins σ H4 { s4 with heap := s4.heap.push { cls := .type "slice", data := .fields #[vl, vu, vs] } } := I4.kept (t' := s4.toks) fun b ob q => Heap.get?_push_of_some _ q
  obtain ⟨its, r, ht, hz⟩ := I5.list hx
  have hlen := r.length
  refine tail_any (ops := [.ref a, .ref s4.heap.objs.size]) ht.isList.typeIs (PySem.slot_list_getitem.lookup) ?_ (by with_unfolding_all rfl)
  refine wpAny_getItem_list_slice ht.isList (Heap.IsSliceOf.new _ vl vu vs) pl pu ps (fun z => hc (Option.some.inj z)) ?_ (by rw [List.size_toArray]; omega)
  have rp : Vals (pickL xs l (some c)) (slicePick its.toArray l none (some c)).toList := by
    rw [slicePick_list]
    unfold pickL
    rw [hlen]
    exact paired_pick r _
  have hle : (pickL xs l (some c)).length ≤ sizeLine := by
    rw [rp.length, Array.length_toList]
    refine Nat.le_trans (slicePick_size_le _ _ _ _) ?_
    rw [List.size_toArray]
    omega
  refine ⟨.ref _, _, I5.laid (t' := s4.toks) (o := .lst (pickL xs l (some c))) (fun b ob q => Heap.get?_push_of_some _ q) (Nat.le_refl _) ?_, rfl, q _ (I5.hok.fresh (Nat.le_refl _))⟩
  refine ⟨hle, _, 0, rp, ?_⟩
  rw [Array.toArray_toList]
  exact Heap.get?_push_size _ rfl
theorem RepL.pick {b : Option Addr} {H : Hp} {P : Addr → Prop} {vs : List V} {ds : List D} (h : RepL T b H P vs ds) : ∀ is : List Nat, RepL T b H P (is.filterMap (vs[·]?)) (is.filterMap (ds[·]?))
  | [] => .nil
  | i :: is => by
    have ih := h.pick is
    cases e : ds[i]? with
    | none =>
      have e' : vs[i]? = none := by
        rw [List.getElem?_eq_none_iff] at e ⊢
        rw [h.length]
        exact e
      rw [List.filterMap_cons_none e, List.filterMap_cons_none e']
      exact ih
    | some d =>
      obtain ⟨v, e', r⟩ := h.get e
      rw [List.filterMap_cons_some e, List.filterMap_cons_some e']
      exact .cons r ih
def dStep (li : Option Int) (c : Int) : D → Option D
  | .lst ds => some (.lst (pickL ds li (some c)))
  | _ => none
def eStep (li : Option Int) (c : Int) (f : EC) : EC := fun Γ => bnd (f Γ) fun d => opt (dStep li c d)
theorem pf_step {c : Int} {k : Nat} (hK : X.K = T.K) (hc : c ≠ 0) (hlo : CPart lo li) (he : PE X e (E T W .tr f)) : PE X (.Subscript e (.Slice lo none (some (.Constant (.int c) k p1)) p3) pos) (EF T W (eStep li c f)) := (pe_stepL hc hlo he).mono fun σ H Q ⟨cf, own, Γ, x, s, r⟩ => ⟨cf, own, Γ, x, s, by
  cases hf : f Γ x with
  | no => rw [show eStep li c f Γ x = _ from bnd_no hf] at r; exact r
  | er d x1 => rw [show eStep li c f Γ x = _ from bnd_er hf] at r; exact r
  | ok d x1 =>
    rw [show eStep li c f Γ x = _ from bnd_ok hf] at r
    refine fun v H1 g bx q => ?_
    have s1 := s.grow g bx
    cases d with
    | lst ds =>
      obtain ⟨p, vs, rfl, h1, h2⟩ := RepQ.lst q
      refine ⟨p, vs, rfl, .inl (.inl h1), fun p np => ?_⟩
      have hp : RepL T cf.b H1 (Pp cf own) (pickL vs li (some c)) (pickL ds li (some c)) := by
        unfold pickL
        rw [h2.length]
        exact h2.pick _
      exact r p _ (s1.none_back' s g np) (g.trans (Grow.same (Same.upd' np))) (bx.same (Same.upd' np)) ⟨_, upd_same, hp.mono (fun a o _ e => Same.upd' np a o e) fun a o pa e => ⟨pa, ne_of_none e np⟩⟩ rfl
    | _ => exact r.elim⟩
@[simp] theorem q_step {Γ : Gm} {x : Bx} {c : Int} : eStep li c f Γ x = bR (f Γ x) fun d y => oR (dStep li c d) y := by
  show bnd _ _ x = _
  simp only [bnd_bR, opt_oR]
end
end DL

namespace DL
open PySem PySem.Spec PyProof.Rows L2
/-! ### xs.extend(ys), ys a list -/
section
variable {X : Cx} {T : Tb} {W : WX} {e : Expr} {fe : EC} {pos apos : Pos}
def sExt (i : Nat) (fe : EC) : SC := fun Γ x => match ownL Γ i with
  | some ds => sE fe (fun d Γ x => match d with
    | .lst es => if ds.length + es.length ≤ 100000 then .nx (Γ.set i (.ow (.lst (ds ++ es)))) x else .no
    | _ => .no) Γ x
  | none => .no
theorem ps_dext {i : Nat} {z : Str} {p1 : Pos} (hK : X.K = T.K) (ho : PE X (.Name z p1) (tVar i)) (he : PE X e (E T W .fz fe)) (hbase : attributeBase (.Name z p1) "extend" X.env (eval (.Name z p1) X.env) = eval (.Name z p1) X.env := by rfl)
    (hfew : ((backTo pos (starEach [e] X.env)).all (fun x => !x.1) && (backToKw pos (keywordEach [] X.env)).all (fun x => x.1.isSome) && decide (([e] : List Expr).length + ([] : List Keyword).length + (if ([] : List Keyword).isEmpty then 0 else 1) < 30)) = true := by rfl)
    (hline : (apos.endLine == pos.line) = true := by rfl) (hs : starEach [e] X.env = (false, eval e X.env) :: starEach [] X.env := by rfl) (hplain : (backTo pos (starEach [] X.env)).any (·.1) = false := by rfl) {p2 : Pos} (hsw : swapsWith (.Call (.Attribute (.Name z p1) "extend" apos) [e] [] pos) none p2.line X.env = pure false := by rfl) :
    PS X (.Expr (.Call (.Attribute (.Name z p1) "extend" apos) [e] [] pos) p2) (SS T W (sExt i fe)) :=
  (ps_expr (pe_bm PySem.F.plainAttrs_list PySem.F.slot_list_extend PySem.F.type_list_extend mt_extend ho (pa_cons he pa_nil hs) hbase hfew hline hs hplain) hsw).mono fun D σ H ⟨c, own, Γ, x, s, r⟩ => by
    unfold sExt at r
    cases ho : ownL Γ i with
    | none => rw [ho] at r; exact r.elim
    | some ds =>
      rw [ho] at r
      have hg := ownL_some ho
      obtain ⟨q, e1, e2, vs, h1, h2⟩ := s.slot i _ hg
      refine ⟨_, e1, .inl ⟨rfl, vs, .inl (.inl h1)⟩, c, own, Γ, x, s, (SRes.bindD (m := .fz) s r).imp fun v H1 ⟨d, x1, s1, g, qd, r1⟩ => ?_⟩
      obtain ⟨q', e1', e2', vs', h1', h2'⟩ := s1.slot i _ hg
      rw [e2] at e2'
      cases e2'
      cases d with
      | lst es =>
        have qd' : Rep T c.b H1 (Pp c own) v (.lst es) := qd
        cases qd' with
        | lst k1 k2 k3 =>
          dsimp only at r1
          by_cases hl : ds.length + es.length ≤ 100000
          · rw [if_pos hl] at r1
            obtain ⟨s2, fz⟩ := s1.chL hg e1 e2 (h2'.append k3)
            exact ⟨q, _, vs', _, rfl, rfl, h1', k2, by rw [h2'.length, k3.length]; exact sz_of hl, r1 own _ _ fz s2⟩
          · rw [if_neg hl] at r1
            exact r1.elim
      | _ => exact r1.elim
@[simp] theorem q_ext {i : Nat} {Γ : Gm} {x : Bx} : sExt i fe Γ x = aR (ownL Γ i) fun ds => rS (fe Γ x) Γ fun d y => (match d with | .lst es => if ds.length + es.length ≤ 100000 then .nx (Γ.set i (.ow (.lst (ds ++ es)))) y else .no | _ => .no) := by
  unfold sExt
  cases ownL Γ i with
  | none => rfl
  | some ds => exact sE_rS
/-! ### y = xs.pop() -/
def sPop (i j : Nat) : SC := fun Γ x => match ownL Γ j with
  | some ds => match ds[ds.length - 1]? with
    | some d => .nx ((Γ.set j (.ow (.lst ds.dropLast))).set i (.sh d)) x
    | none => .no
  | none => .no
theorem RepL.dropLast {b : Option Addr} {H : Hp} {P : Addr → Prop} {vs : List V} {ds : List D} (h : RepL T b H P vs ds) : RepL T b H P vs.dropLast ds.dropLast := by
  rw [List.dropLast_eq_take, List.dropLast_eq_take, h.length]
  exact h.take _
theorem ps_dpop {i j : Nat} {y z : Str} {p1 pos' p2 : Pos} (hN : X.N.Nodup) (hi : X.N[i]? = some y) (hx : Loc X.env.scope y) (ho : PE X (.Name z p1) (tVar j)) (hbase : attributeBase (.Name z p1) "pop" X.env (eval (.Name z p1) X.env) = eval (.Name z p1) X.env := by rfl) (hline : (apos.endLine == pos.line) = true := by rfl)
    (hs : swapsWith (.Call (.Attribute (.Name z p1) "pop" apos) [] [] pos) (some (.Name y pos')) p2.line X.env = pure false := by rfl) (hf : X.fn y = true ∨ X.env.scope.names.lookup y = some .local := by first | exact .inl rfl | exact .inr rfl | assumption) :
    PS X (.Assign [.Name y pos'] (.Call (.Attribute (.Name z p1) "pop" apos) [] [] pos) p2) (SS T W (sPop i j)) :=
  (ps_set hN hi hx (pe_bm0 PySem.F.plainAttrs_list PySem.F.slot_list_pop PySem.F.type_list_pop mt_pop ho hbase hline) hs hf).mono fun D σ H ⟨c, own, Γ, x, s, r⟩ => by
    unfold sPop at r
    cases ho : ownL Γ j with
    | none => rw [ho] at r; exact r.elim
    | some ds =>
      rw [ho] at r
      dsimp only at r
      have hg := ownL_some ho
      obtain ⟨q, e1, e2, vs, h1, h2⟩ := s.slot j _ hg
      cases hd : ds[ds.length - 1]? with
      | none => rw [hd] at r; exact r.elim
      | some d =>
        rw [hd] at r
        obtain ⟨v, hv, rv⟩ := h2.get hd
        obtain ⟨s2, fz⟩ := s.chL hg e1 e2 h2.dropLast
        have hmem : some q ∈ own := List.mem_of_getElem? e2
        have rv2 : Rep T c.b (upd H q (.lst vs.dropLast)) (Pp c own) v d := rv.mono (fun a o pa e => by rw [upd_ne (fun z => pa.2.2 (by rw [z]; exact hmem))]; exact e) fun _ _ p _ => p
        exact ⟨_, e1, .inl ⟨rfl, vs, .inl (.inl h1)⟩, q, vs, v, rfl, rfl, h1, by rw [h2.length]; exact hv, r own _ _ fz (s2.set i rv2)⟩
end
end DL

namespace DL
open PySem PySem.Spec PyProof.Rows L2
/-! ### sets of texts: made of a list, sorted -/
theorem paired_perm {α β : Type} {F : α → β → Prop} {xs xs' : List α} (h : xs'.Perm xs) : ∀ {ys : List β}, Paired F xs ys → ∃ ys', Paired F xs' ys' ∧ ys'.Perm ys := by
  induction h with
  | nil => intro ys p; exact ⟨ys, p, .refl _⟩
  | cons x _ ih =>
    intro ys p
    cases p with
    | cons h1 h2 =>
      obtain ⟨zs, h3, h4⟩ := ih h2
      exact ⟨_ :: zs, .cons h1 h3, h4.cons _⟩
  | swap x y l =>
    intro ys p
    cases p with
    | cons h1 h2 => cases h2 with
      | cons h3 h4 => exact ⟨_, .cons h3 (.cons h1 h4), .swap ..⟩
  | trans _ _ ih1 ih2 =>
    intro ys p
    obtain ⟨zs, h1, h2⟩ := ih2 p
    obtain ⟨us, h3, h4⟩ := ih1 h1
    exact ⟨us, h3, h4.trans h2⟩
/-- an entry of such a set -/
def gS (P : Program) (w : World) (e : Int × Value) (k : Str) : Prop := ∃ tk, e.2 = .str k tk ∧ e.1 = (PySem.strKind P w).hash k
def SetS (P : Program) (w : World) (h : Heap) (a : Addr) (L : List Str) : Prop :=
  ∃ o es ep t, h.get? a = some o ∧ o.ExactSet ∧ o.data = .set es ep t ∧ Paired (gS P w) es.toList L ∧ L.Nodup ∧ es.size < scanBound ∧ t.fits es.size = true ∧ Ris t.place.toList ∧ (w.params.followText "set-order" = true ∨ t.led = true)
section
variable {P : Program} {w : World} {A : Around} {E : Value → Shared → Prop} {s : Shared} {a : Addr} {L : List Str}
theorem gS_is {e : Int × Value} {k j : Str} (g : gS P w e k) : (PySem.strKind P w).is j e.2 = true ↔ k = j := by
  obtain ⟨tk, h1, _⟩ := g
  rw [h1]
  show (Value.isStrOf j (.str k tk) = true) ↔ k = j
  unfold Value.isStrOf
  simp
theorem gS_elems {es : List (Int × Value)} (h : Paired (gS P w) es L) : ElemsOf (PySem.strKind P w) es := by
  intro e he
  obtain ⟨i, hi⟩ := List.getElem?_of_mem he
  obtain ⟨k, _, tk, h1, h2⟩ := L2.paired_get h hi
  exact ⟨⟨k, by rw [h1]; exact strKind_is P w k tk, h2⟩, by rw [h1]; rfl⟩
theorem setS_mem {es : List (Int × Value)} (h : Paired (gS P w) es L) (k : Str) : (es.findIdx? fun e => (PySem.strKind P w).is k e.2) = none ↔ k ∉ L := by
  induction h with
  | nil => simp
  | @cons e j es L g t ih =>
    rw [List.findIdx?_cons]
    by_cases hk : j = k
    · rw [(gS_is g).mpr hk]
      simp [hk]
    · have : (PySem.strKind P w).is k e.2 = false := by
        cases h : (PySem.strKind P w).is k e.2 with
        | false => rfl
        | true => exact absurd ((gS_is g).mp h) hk
      rw [this]
      have hk' : ¬ k = j := fun z => hk z.symm
      simp [hk'] at ih ⊢
      exact ih
/-- the end of an addition: the new entries are stored, perhaps laid anew -/
theorem setS_tail {g : Bool → Sem Unit} (hg : ∀ (b : Bool) (s₁ : Shared) (Q' : Unit → Shared → Prop), Q' () s₁ → wpAny (model P w) A (g b) Q' E s₁)
    {o : Obj} {es es1 : Array (Int × Value)} {ep : Nat} {t t2 : SetTable} {L1 : List Str} (ho : s.heap.get? a = some o) (hex : o.ExactSet) (hd : o.data = .set es ep t)
    (p1 : Paired (gS P w) es1.toList L1) (nd : L1.Nodup) (hb1 : es1.size < scanBound) (hf2 : t2.fits es1.size = true) (hr : Ris t2.place.toList) (hl : w.params.followText "set-order" = true ∨ t2.led = true) {wasDummy : Bool} {R : Option Bool → Shared → Prop}
    (hR : ∀ h' L2, Heap.SameBut a s.heap h' → SetS P w h' a L2 → L2.Perm L1 → R (some true) { s with heap := h' }) :
    wpAny (model P w) A (do
        storeSet a es1 t2
        if (!wasDummy && t2.tooFull) = true then do
            g (relayAll t2 es1 (SetTable.grown es1.size)).2.2
            storeSet a (relayAll t2 es1 (SetTable.grown es1.size)).1 (relayAll t2 es1 (SetTable.grown es1.size)).2.1
            pure (some true)
          else pure (some true)) R E s := by
  refine wpAny_bind (wpAny_storeSet_of ho hd ?_ (fits_of_scanBound hb1))
  have ho1 := store_at (es' := es1) (t' := t2) ho hd
  have sb1 := Heap.SameBut.update s.heap a (Obj.putSet es1 t2)
  by_cases hc : (!wasDummy && t2.tooFull) = true
  · rw [if_pos hc]
    have pm := relayAll_perm t2 es1 (SetTable.grown es1.size)
    have hf3 := relayAll_fits t2 es1 (SetTable.grown es1.size)
    have hr3 := relayAll_ris t2 es1 (SetTable.grown es1.size)
    have hl3 := relayAll_led t2 es1 (SetTable.grown es1.size)
    obtain ⟨L2, p2, q2⟩ := paired_perm pm p1
    have hsz : (relayAll t2 es1 (SetTable.grown es1.size)).1.size = es1.size := by rw [← Array.length_toList, pm.length_eq, Array.length_toList]
    have hb2 : (relayAll t2 es1 (SetTable.grown es1.size)).1.size < scanBound := by rw [hsz]; exact hb1
    refine wpAny_bind (hg _ _ _ ?_)
    refine wpAny_bind (wpAny_storeSet_of ho1 rfl ?_ (fits_of_scanBound hb2))
    have ho2 := store_at (es' := (relayAll t2 es1 (SetTable.grown es1.size)).1) (t' := (relayAll t2 es1 (SetTable.grown es1.size)).2.1) ho1 rfl
    exact wpAny_pure (hR _ L2 (sb1.trans (Heap.SameBut.update _ a _)) ⟨_, _, _, _, ho2, hex, rfl, p2, q2.nodup_iff.mpr nd, hb2, hf3, hr3, hl.imp id fun z => by rw [hl3]; exact z⟩ q2)
  · rw [if_neg hc]
    exact wpAny_pure (hR _ L1 sb1 ⟨_, es1, _, t2, ho1, hex, rfl, p1, nd, hb1, hf2, hr, hl⟩ (.refl _))
theorem setS_add {k : Str} {tk : Tok} {Q : Bool → Shared → Prop} (R : SetS P w s.heap a L) (room : L.length + 1 < scanBound)
    (hQ : ∀ b h' L', Heap.SameBut a s.heap h' → SetS P w h' a L' → (k ∈ L → L' = L) → (k ∉ L → L'.Perm (k :: L)) → Q b { s with heap := h' }) :
    wpAny (model P w) A (setAddHashed a (.str k tk) ((PySem.strKind P w).hash k)) Q E s := by
  obtain ⟨o, es, ep, t, ho, hex, hd, g, nd, hb, hf, hr, hl⟩ := R
  have hkey : (PySem.strKind P w).is k (.str k tk) = true := strKind_is P w k tk
  have hsc : (Value.str k tk).scannable = true := rfl
  have hel : ElemsOf (PySem.strKind P w) es.toList := gS_elems g
  have hlen : es.size = L.length := by rw [← Array.length_toList]; exact g.length
  unfold setAddHashed setAddHashedIn
  refine wpAny_holding (wpAny_bind (wpAny_setState_of ho hd hf ?_))
  dsimp only
  rw [byScan_of hsc hb hel]
  simp only [↓reduceIte]
  unfold setAddByScan
  refine wpAny_bind ?_
  refine wpAny_bind (wpAny_rule ?_)
  refine wpAny_bind (wpAny_setScan_of hkey ho hd hf hel ?_)
  cases hfi : List.findIdx? (fun e => (PySem.strKind P w).is k e.2) es.toList with
  | some j =>
    dsimp only
    have hk : k ∈ L := Classical.byContradiction fun z => by
      have := (setS_mem g k).mpr z
      rw [hfi] at this
      cases this
    exact wpAny_pure (wpAny_pure (hQ false s.heap L (Heap.SameBut.refl a s.heap) ⟨o, es, ep, t, ho, hex, hd, g, nd, hb, hf, hr, hl⟩ (fun _ => rfl) fun z => absurd hk z))
  | none =>
    dsimp only
    have hk : k ∉ L := (setS_mem g k).mp hfi
    have pm := layNew_perm t es ((PySem.strKind P w).hash k) (.str k tk)
    have hf1 := layNew_fits t es ((PySem.strKind P w).hash k) (.str k tk)
    have hr1 := layNew_ris t es ((PySem.strKind P w).hash k) (.str k tk) hr
    have hl1 := layNew_led t es ((PySem.strKind P w).hash k) (.str k tk)
    generalize layNew t es ((PySem.strKind P w).hash k) (.str k tk) = Z at pm hf1 hr1 hl1 ⊢
    obtain ⟨es1, t1, wasDummy, gave⟩ := Z
    dsimp only at pm hf1 hr1 hl1 ⊢
    rw [Array.toList_push] at pm
    have pc : es1.toList.Perm (((PySem.strKind P w).hash k, Value.str k tk) :: es.toList) := pm.trans (List.perm_append_singleton _ _)
    obtain ⟨L1, p1, q1⟩ := paired_perm pc (ys := k :: L) (.cons ⟨tk, rfl, rfl⟩ g)
    have nd1 : L1.Nodup := q1.nodup_iff.mpr (List.nodup_cons.mpr ⟨hk, nd⟩)
    have hb1 : es1.size < scanBound := by
      rw [← Array.length_toList, pc.length_eq, List.length_cons, Array.length_toList, hlen]
      exact room
    have hled : w.params.followText "set-order" = true ∨ t1.led = true := hl.imp id fun z => by rw [hl1]; exact z
    have hgw : ∀ (b : Bool) (s₁ : Shared) (Q' : Unit → Shared → Prop), Q' () s₁ → wpAny (model P w) A (match b with | true => rule "set.scan.the-table-gave-way" | false => pure ()) Q' E s₁ :=
      fun b s₁ Q' q => by cases b <;> first | exact wpAny_pure q | exact wpAny_rule q
    have fin : ∀ h' L2, Heap.SameBut a s.heap h' → SetS P w h' a L2 → L2.Perm L1 → Q true { s with heap := h' } := fun h' L2 sb r q2 => hQ true h' L2 sb r (fun z => absurd z hk) fun _ => q2.trans q1
    refine wpAny_bind (hgw _ _ _ ?_)
    split
    · refine wpAny_bind ?_
      rw [hashByValue_scannable 8 hsc]
      refine wpAny_pure ?_
      refine setS_tail ?_ ho hex hd p1 nd1 hb1 ?_ ?_ ?_ ?_
      · intro b s₁ Q' q; cases b <;> first | exact wpAny_pure q | exact wpAny_rule q
      · first | (split <;> first | exact hf1 | exact SetTable.fits_plain_off hf1) | exact hf1
      · first | (split <;> exact hr1) | exact hr1
      · first | (split <;> exact hled) | exact hled
      · intro h' L2 sb r q2; dsimp only; exact wpAny_pure (fin h' L2 sb r q2)
    · refine wpAny_bind (wpAny_pure ?_)
      simp only [↓reduceIte]
      refine setS_tail ?_ ho hex hd p1 nd1 hb1 hf1 hr1 hled ?_
      · intro b s₁ Q' q; cases b <;> first | exact wpAny_pure q | exact wpAny_rule q
      · intro h' L2 sb r q2; dsimp only; exact wpAny_pure (fin h' L2 sb r q2)
end
end DL

namespace DL
open PySem PySem.Spec PyProof.Rows L2
section
variable {P : Program} {w : World} {A : Around} {E : Value → Shared → Prop} {s : Shared} {a : Addr} {L : List Str}
theorem SetS.keep {h h' : Heap} (R : SetS P w h a L) (k : ∀ o, h.get? a = some o → h'.get? a = some o) : SetS P w h' a L := by
  obtain ⟨o, es, ep, t, ho, r⟩ := R
  exact ⟨o, es, ep, t, k o ho, r⟩
theorem setS_fresh {h : Heap} (ho : h.get? a = some { cls := .type "set", dict := none, data := .set #[] 0 (.fresh 0 0 (!w.params.followText "set-order")) }) : SetS P w h a [] := by
  refine ⟨_, #[], 0, _, ho, ⟨rfl, rfl, rfl⟩, rfl, .nil, List.nodup_nil, by decide, rfl, List.Pairwise.nil, ?_⟩
  show _ ∨ (!w.params.followText "set-order") = true
  cases w.params.followText "set-order"
  · exact .inr rfl
  · exact .inl rfl
/-- the loop of set.update over texts -/
theorem set_update_strs {I : Addr} {fp wr : List Addr} {G : Array GenState → Array GenState → Prop} {n : Nat} {Pv : Nat → Value → Prop} {St : Nat → Shared → Prop} {R : Result → Shared → Prop}
    (W : WalksS P w A.in1 I fp wr G n Pv St) (S : Addr) (hSf : S ∉ fp) (xs : List Str) (hn : n = xs.length) (hfew : xs.length < 64) (hval : ∀ i v, Pv i v → ∃ k tk, xs[i]? = some k ∧ v = .str k tk) :
    ∀ (k i : Nat) (s : Shared), n - i = k → i ≤ n → St i s → (∃ L, SetS P w s.heap S L ∧ (∀ z, z ∈ L ↔ z ∈ xs.take i) ∧ L.length ≤ i) →
      (∀ s' L, Moved (S :: wr) G s s' → SetS P w s'.heap S L → (∀ z, z ∈ L ↔ z ∈ xs.take n) → L.length ≤ n → R (.ok (.ret .none)) s') →
      codeAny (model P w) A (.builtin "set.update.loop" ⟨[.ref S, .ref I], []⟩) R s := by
  have hSw : S ∉ wr := fun h => hSf (W.sub _ h)
  have hsub : ∀ b ∈ wr, b ∈ S :: wr := fun b hb => List.mem_cons_of_mem _ hb
  intro k
  induction k with
  | zero =>
    intro i s hk' hi hst ⟨L, hS, g, gl⟩ hR
    have hin : i = n := by omega
    subst hin
    refine codeAny_builtin F.entry_set_update_loop ?_
    rw [Around.under_plainId F.plain_set_update_loop _]
    show wpAny _ A.in1 (pyNext (.ref I) >>= _) _ _ s
    refine wpAny_bind (W.done s _ _ hst fun s' hm => ?_)
    show wpAny _ A.in1 (ret Value.none) _ _ s'
    exact wpAny_pure (hR s' L (hm.mono hsub) (hS.keep (fun o e => hm.heap S o hSw e)) g gl)
  | succ k ih =>
    intro i s hk' hi hst ⟨L, hS, g, gl⟩ hR
    have hlt : i < n := by omega
    refine codeAny_builtin F.entry_set_update_loop ?_
    rw [Around.under_plainId F.plain_set_update_loop _]
    show wpAny _ A.in1 (pyNext (.ref I) >>= _) _ _ s
    refine wpAny_bind (W.item i s _ _ hlt hst fun v s' hP hst' hm => ?_)
    obtain ⟨z, tk, hp, rfl⟩ := hval i v hP
    have hS' : SetS P w s'.heap S L := hS.keep (fun o e => hm.heap S o hSw e)
    show wpAny _ A.in1 (holding [Value.str z tk] (setAdd S (.str z tk)) >>= _) _ _ s'
    refine wpAny_bind (wpAny_holding ?_)
    unfold setAdd
    refine wpAny_holding ?_
    refine wpAny_bind ((PySem.strKind P w).pyHash (strKind_is P w z tk) ?_)
    refine setS_add (s := { s' with toks := s'.toks + 1 }) hS' (by unfold scanBound; omega) fun b h' L' hsb hS2 c1 c2 => ?_
    have ht : xs.take (i + 1) = xs.take i ++ [z] := by rw [List.take_add_one, hp]; rfl
    have g' : (∀ y, y ∈ L' ↔ y ∈ xs.take (i + 1)) ∧ L'.length ≤ i + 1 := by
      rw [ht]
      by_cases c : z ∈ L
      · rw [c1 c]
        refine ⟨fun y => ?_, by omega⟩
        rw [List.mem_append, ← g y]
        constructor
        · exact .inl
        · rintro (h | h)
          · exact h
          · have : y = z := by simpa using h
            rw [this]; exact c
      · have pm := c2 c
        refine ⟨fun y => ?_, by rw [pm.length_eq, List.length_cons]; omega⟩
        rw [pm.mem_iff, List.mem_cons, List.mem_append, ← g y]
        simp
        exact Or.comm
    refine wpAny_pure ⟨plainId_quiet F.plain_set_update_loop _, ih (i + 1) _ (by omega) hlt (W.frame _ s' _ _ hst' (Nat.le_add_right _ _) fun b hb o e => ?_) ⟨L', hS2, g'⟩ fun s'' L2 hm'' hS'' g'' gl'' => ?_⟩
    · rw [hsb.2 b (fun h : b = S => hSf (by rw [← h]; exact hb))]; exact e
    · refine hR s'' L2 (Moved.trans W.gtrans ((hm.mono hsub).then_heap (Nat.le_add_right _ _) fun b o hb e => ?_) hm'') hS'' g'' gl''
      rw [hsb.2 b (fun h : b = S => hb (by rw [h]; exact List.mem_cons_self))]; exact e
end
end DL

namespace DL
open PySem PySem.Spec PyProof.Rows L2
section
variable {P : Program} {w : World} {A : Around} {E : Value → Shared → Prop} {s : Shared}
theorem strs_get : ∀ {us : List Value} {xs : List Str}, StrsAre us xs → ∀ (i : Nat) (v : Value), us[i]? = some v → ∃ k tk, xs[i]? = some k ∧ v = .str k tk
  | _, _, .nil, i, v, h => by simp at h
  | _, _, .cons x t r, 0, v, h => ⟨x, t, rfl, (Option.some.inj h).symm⟩
  | _, _, .cons x t r, i + 1, v, h => strs_get r i v h
abbrev newSet (w : World) : Obj := { cls := .type "set", dict := none, data := .set #[] 0 (.fresh 0 0 (!w.params.followText "set-order")) }
/-- set(xs), xs a list of texts -/
theorem call_set_strs {l : Addr} {items : Array Value} (xs : List Str) {Q : Value → Shared → Prop} (hh : A.handled = none) (hl : s.heap.IsList l items) (hit : StrsAre items.toList xs) (hfew : xs.length < 64)
    (h : ∀ (h' : Heap) (tk : Nat) L, SetS P w h' s.heap.objs.size L → (∀ z, z ∈ L ↔ z ∈ xs) → L.length ≤ xs.length → (∀ b o, b < s.heap.objs.size → s.heap.get? b = some o → h'.get? b = some o) → Q (.ref s.heap.objs.size) { s with heap := h', toks := tk }) :
    wpAny (model P w) A (call (.type "set") [.ref l]) Q E s := by
  have hisz : items.size = xs.length := by rw [← Array.length_toList, hit.length]
  obtain ⟨c, tl, hmro⟩ := F.called_set.mro
  have hmade := F.called_set.made
  have hsub := F.called_set.sub
  refine wpAny_call (codeAny_of_tree ?_)
  show wpAny _ _ (callAny (.type "set") _) _ _ _
  refine wpAny_pure ⟨Code.quiet_builtin _ (by decide +kernel), codeAny_builtin F.entry_type_call ?_⟩
  rw [Around.under_plain (weight_type_call_type "set" [.ref l] []) rfl]
  have h1 := F.called_set.notType
  have h2 := F.called_set.canCreate
  have hct := F.typeCall_set_1 (.ref l)
  repeat (any_goals (first | assumption | wp_step))
  refine codeAny_mono (code_set_led1 (.ref l) (E := E) (Q₁ := fun obj s₁ => obj = .ref s.heap.objs.size ∧ s₁ = { s with heap := s.heap.push (newSet w) }) ⟨rfl, rfl⟩) fun r s₁ hr => ?_
  cases r with
  | error e => exact hr
  | ok fl =>
    cases fl with
    | ret obj =>
      obtain ⟨rfl, rfl⟩ := hr
      have hS : (s.heap.push (newSet w)).get? s.heap.objs.size = some (newSet w) := Heap.get?_push_size _ rfl
      have hT : Shared.TypeIs { s with heap := s.heap.push (newSet w) } (.ref s.heap.objs.size) "set" := ⟨_, hS, rfl⟩
      have hli := F.called_set.init.lookup
      have hbi := F.called_set.init.bind (.ref s.heap.objs.size)
      repeat (any_goals (first | assumption | wp_step))
      refine codeAny_mono (codeAny_call_builtin (R := wants (fun r s₂ => r = .none ∧ ∃ h' tk L, s₂ = { s with heap := h', toks := tk } ∧ SetS P w h' s.heap.objs.size L ∧ (∀ z, z ∈ L ↔ z ∈ xs) ∧ L.length ≤ xs.length ∧
          (∀ b o, b < s.heap.objs.size → s.heap.get? b = some o → h'.get? b = some o)) E) F.called_set.init.plain F.entry_set_init (check_set_init_1 hT ?_)) fun r₂ s₂ hr₂ => ?_
      · obtain ⟨ol, hol, hcl, nl, hdl⟩ := hl
        obtain ⟨ocls, odict, odata, oslots⟩ := ol
        simp only at hcl hdl
        subst hcl; subst hdl
        have hol' : (s.heap.push (newSet w)).get? l = some { cls := .type "list", dict := odict, data := .seq items nl, slots := oslots } := Heap.get?_push_of_some _ hol
        have hsls := F.sub_list_set
        have hslf := F.sub_list_frozenset
        have hne : (Value.type "list" == Value.type "dict") = false := by decide
        have hl1 : (s.heap.push (newSet w)).IsList l items := ⟨_, hol', rfl, nl, rfl⟩
        unfold Builtin.«set.__init__» noKeywords Builtin.Frozenset.updateFrom
        generalize hPI : pyIter = PI
        wp_walk
        subst hPI
        refine wpAny_pyIter_list hl1 ?_
        refine wpAny_bind (wpAny_runValue ?_)
        have hlS : l < s.heap.objs.size := Heap.lt_size hol
        have hh3 : A.in1.in1.in1.handled = none := by simp [hh]
        have hneI : l ≠ (s.heap.push (newSet w)).objs.size := by
          rw [Heap.size_push]; exact Nat.ne_of_lt (Nat.lt_succ_of_lt hlS)
        have hSf : s.heap.objs.size ∉ [(s.heap.push (newSet w)).objs.size, l] := by
          rw [Heap.size_push]; simp only [List.mem_cons, List.mem_singleton, List.not_mem_nil, or_false, not_or]
          exact ⟨Nat.ne_of_lt (Nat.lt_succ_self _), Nat.ne_of_gt hlS⟩
        have hval : ∀ (i : Nat) (v : Value), items[i]? = some v → ∃ k tk, xs[i]? = some k ∧ v = .str k tk := fun i v hv => by
          have q : items.toList[i]? = some v := by rw [Array.getElem?_toList]; exact hv
          exact strs_get hit i v q
        refine set_update_strs ((Walks.list hh3 _ l hneI items).toS) s.heap.objs.size hSf xs hisz hfew hval (items.size - 0) 0 _ (by omega) (Nat.zero_le _)
          ⟨⟨_, Heap.get?_push_size _ rfl, rfl, rfl⟩, (hl1.push _)⟩ ?hS0 ?hR
        case hS0 =>
          exact ⟨[], setS_fresh (Heap.get?_push_of_some _ hS), fun z => by simp, Nat.zero_le _⟩
        case hR =>
          intro s' L hm hS' g' gl
          obtain ⟨h', g2, d', tk', os'⟩ := s'
          have eg : g2 = s.gens := hm.gens
          have ed : d' = s.drawn := hm.drawn
          have eo : os' = s.os := hm.os
          subst eg; subst ed; subst eo
          show wpAny _ _ _ _ _ _
          refine wpAny_pure ?_
          show wpAny _ _ (ret Value.none) _ _ _
          rw [hisz] at g' gl
          rw [List.take_length] at g'
          refine wpAny_pure ⟨rfl, h', tk', L, rfl, hS', g', gl, fun b o hb e => ?_⟩
          refine hm.heap b o (fun hb2 => ?_) (Heap.get?_push_of_some _ (Heap.get?_push_of_some _ e))
          rcases List.mem_cons.mp hb2 with z | z
          · exact absurd z (Nat.ne_of_lt hb)
          · have e2 : b = (s.heap.push (newSet w)).objs.size := by simpa using z
            rw [Heap.size_push] at e2
            exact absurd e2 (Nat.ne_of_lt (Nat.lt_succ_of_lt hb))
      · cases r₂ with
        | error e => exact hr₂
        | ok fl₂ =>
          cases fl₂ with
          | ret r =>
            obtain ⟨rfl, h', tk, L, rfl, hS', g', gl, hk'⟩ := hr₂
            repeat (any_goals (first | assumption | wp_step))
            exact h _ _ _ hS' g' gl hk'
          | _ => exact hr₂.elim
    | _ => exact hr.elim
end
end DL

namespace DL
open PySem PySem.Spec PyProof.Rows L2
section
variable {P : Program} {w : World} {A : Around} {E : Value → Shared → Prop} {s : Shared} {a : Addr} {L : List Str}
theorem paired_strs {es : List (Int × Value)} (h : Paired (gS P w) es L) : StrsAre (es.map (·.2)) L := by
  induction h with
  | nil => exact .nil
  | cons g _ ih =>
    obtain ⟨tk, h1, _⟩ := g
    rw [List.map_cons, h1]
    exact .cons _ tk ih
theorem strs_perm {us us' : List Value} (p : us'.Perm us) : ∀ {xs : List Str}, StrsAre us xs → ∃ xs', StrsAre us' xs' ∧ xs'.Perm xs := by
  induction p with
  | nil => intro xs h; exact ⟨xs, h, .refl _⟩
  | cons x _ ih =>
    intro xs h
    cases h with
    | cons z t r =>
      obtain ⟨ys, h1, h2⟩ := ih r
      exact ⟨z :: ys, .cons z t h1, h2.cons z⟩
  | swap x y l =>
    intro xs h
    cases h with
    | cons z t r => cases r with
      | cons z2 t2 r2 => exact ⟨z2 :: z :: _, .cons z2 t2 (.cons z t r2), .swap ..⟩
  | trans _ _ ih1 ih2 =>
    intro xs h
    obtain ⟨ys, h1, h2⟩ := ih2 h
    obtain ⟨zs, h3, h4⟩ := ih1 h1
    exact ⟨zs, h3, h4.trans h2⟩
theorem sorted_setS {Q : Value → Shared → Prop} (R : SetS P w s.heap a L) (hh : A.handled = none) (h64 : L.length < 64)
    (hQ : ∀ s' p (out : Array Value) (c : Nat) (ns : List Str), (∀ b o, s.heap.get? b = some o → s'.heap.get? b = some o) → s'.gens = s.gens → s'.os = s.os → s.heap.objs.size ≤ p →
      s'.heap.get? p = some (seqObj "list" out c) → StrsAre out.toList ns → sortedS ns = true → ns.Perm L → Q (.ref p) s') :
    wpAny (model P w) A (call (.builtin "sorted") [.ref a]) Q E s := by
  obtain ⟨o, es, ep, t, ho, hex, hd, g, nd, hb, hf, hr, hl⟩ := R
  have hlen : es.size = L.length := by rw [← Array.length_toList]; exact g.length
  refine Calls.call_function_entry kind_sorted plain_sorted entry_sorted (args_sorted1 _) ?_
  unfold Builtin.«sorted»
  refine wpAny_bind (m := checkCount "sorted" 1 1 _) (wpAny_pure ?_)
  refine wpAny_bind (collect_set (A := A.in1) hh ⟨o, ho, hex.1, hd⟩ hf hb hr hl fun s1 vs k1 hz g1 o1 pm => ?_)
  have hvl : vs.length = L.length := by rw [pm.length_eq, List.length_map, Array.length_toList]; exact hlen
  obtain ⟨xs, hI, pk⟩ := strs_perm pm (paired_strs g)
  refine wpAny_bind (wpAny_newList ?_ (by rw [hvl, sizeLine_eq]; omega))
  have hoL : (s1.heap.push (seqObj "list" vs.toArray 0)).get? s1.heap.objs.size = some (seqObj "list" vs.toArray 0) := Heap.get?_push_size _ rfl
  refine wpAny_bind (wpAny_holding (wpAny_call_entry slot_list_sort ⟨_, hoL, rfl⟩ entry_list_sort (list_sort_treeK PyProof.Rows.strKind_oneLt hoL hI.keysOf (fun v₁ v₂ rest e => keyKind_strs (by rw [← e]; exact hI)) (by rw [hvl]; exact h64) fun st' a1 a2 => ⟨_, rfl, ?_⟩) (args_list_sort _)))
  obtain ⟨ns', b1, b2, b3⟩ := sorted_out_str hI a1 a2
  obtain ⟨c, hc⟩ := sortedHeap_at (vs := vs) (out := (arrOf st').map (·.2)) hoL
  refine wpAny_pure ⟨_, rfl, hQ _ s1.heap.objs.size _ c ns' (fun b u e => ?_) g1 o1 hz hc b1 b3 (b2.trans pk)⟩
  have q := k1 b u e
  have hlt := Heap.lt_size q
  show (sortedHeap (s1.heap.push (seqObj "list" vs.toArray 0)) s1.heap.objs.size vs ((arrOf st').map (·.2))).get? b = some u
  rw [sortedHeap_old (Nat.ne_of_lt hlt) (by rw [size_push']; exact Nat.lt_succ_of_lt hlt)]
  exact Heap.get?_push_of_some _ q
end
end DL

namespace DL
open PySem PySem.Spec PyProof.Rows L2
def SetSO (P : Program) (w : World) (a : Addr) (L : List Str) : HO := .ext fun h => SetS P w h a L
theorem setSO_new {P : Program} {w : World} {H : Hp} {h : Heap} {a : Addr} {L : List Str} (R : SetS P w h a L) : ObjOk P w H h a (SetSO P w a L) := by
  have ⟨o, es, ep, t, ho, r⟩ := R
  exact ⟨R, ⟨o, ho⟩, fun h1 h2 p k => SetS.keep p k⟩
section
variable {X : Cx}
theorem strs_of_vals : ∀ {ss : List Str} {us : List Value}, Vals (ss.map V.str) us → StrsAre us ss
  | [], _, r => by rw [List.map_nil] at r; cases r; exact .nil
  | x :: ss, _, r => by
    rw [List.map_cons] at r
    cases r with
    | cons h t =>
      obtain ⟨tk, rfl⟩ := h
      exact .cons x tk (strs_of_vals t)
theorem vals_of_strs : ∀ {ss : List Str} {us : List Value}, StrsAre us ss → Vals (ss.map V.str) us
  | _, _, .nil => .nil
  | _, _, .cons x t r => .cons ⟨t, rfl⟩ (vals_of_strs r)
def rSetStr (K : PySem.W.Frag) (P : Program) (w : World) : RC := fun xs H Q => ∃ (l : Addr) (ss : List Str), xs = [V.ref l] ∧ SqL K H l (ss.map V.str) ∧ ss.length < 64 ∧
  ∀ a L, H a = none → (∀ z, z ∈ L ↔ z ∈ ss) → L.Nodup → L.length ≤ ss.length → Q (.ref a) (upd H a (SetSO P w a L))
theorem cr_setStr (hc : X.calm = true) : CallR X (.type "set") (rSetStr X.K X.prog X.w) := by
  intro pins s σ H xs us Q I r h
  obtain ⟨l, ss, rfl, hl, hf, q⟩ := h
  rw [Vals.ref1 r]
  obtain ⟨its, rv, pl, hz⟩ := I.list hl
  have hn : H s.heap.objs.size = none := I.hok.fresh (Nat.le_refl _)
  refine call_set_strs (P := X.prog) (w := X.w) ss (I.ok.hd hc) pl.isList (by simpa using strs_of_vals rv) hf fun h' tk L R g gl k => ?_
  refine ⟨.ref s.heap.objs.size, upd H s.heap.objs.size (SetSO X.prog X.w s.heap.objs.size L), I.laid (t' := tk) (fun b o e => k b o (Heap.lt_size e) e) (Nat.le_refl _) (setSO_new R), rfl, q _ L hn g ?_ gl⟩
  obtain ⟨_, _, _, _, _, _, _, _, nd, _⟩ := R
  exact nd
def rSortedSt (P : Program) (w : World) : RC := fun vs H Q => ∃ (a : Addr) (L : List Str), vs = [V.ref a] ∧ H a = some (SetSO P w a L) ∧ L.length < 64 ∧
  ∀ (ns : List Str) (p : Addr), ns.Perm L → sortedS ns = true → H p = none → Q (.ref p) (upd H p (.lst (ns.map V.str)))
theorem cr_sortedSt (hc : X.calm = true) : CallR X (.builtin "sorted") (rSortedSt X.prog X.w) := by
  intro pins s σ H vs us Q I r h
  obtain ⟨a, L, rfl, ha, hf, q⟩ := h
  have R : SetS X.prog X.w s.heap a L := (I.hok a _ ha).1
  rw [Vals.ref1 r]
  refine sorted_setS R (I.ok.hd hc) hf fun s' p out c ns k g o hp hg hout hs pm => ?_
  have hlen : (ns.map V.str).length ≤ sizeLine := by rw [List.length_map, sizeLine_eq, pm.length_eq]; omega
  have hn : H p = none := I.hok.fresh hp
  have J : Inv X pins σ (upd H p (.lst (ns.map V.str))) { s with heap := s'.heap, gens := s'.gens, drawn := s'.drawn, toks := s'.toks } :=
    I.call (ch := []) (Un.laid k hp hn) (I.hok.laid k hp ⟨hlen, out.toList, c, vals_of_strs hout, hg⟩) (by rw [g]; exact I.bare) (fun _ z => nomatch z)
  have e : s' = { s with heap := s'.heap, gens := s'.gens, drawn := s'.drawn, toks := s'.toks } := by
    cases s'
    cases s
    cases o
    rfl
  rw [e]
  exact ⟨.ref p, _, J, rfl, q ns p pm hs hn⟩
end
end DL

namespace DL
open PySem PySem.Spec PyProof.Rows L2
/-! ### sorted(set(xs)), xs a list of texts -/
def nub : List Str → List Str
  | [] => []
  | x :: r => if x ∈ nub r then nub r else x :: nub r
theorem mem_nub {z : Str} : ∀ {l : List Str}, z ∈ nub l ↔ z ∈ l
  | [] => Iff.rfl
  | x :: r => by
    unfold nub
    by_cases h : x ∈ nub r
    · rw [if_pos h, mem_nub, List.mem_cons]
      exact ⟨.inr, fun k => k.elim (fun e => e ▸ mem_nub.mp h) id⟩
    · rw [if_neg h, List.mem_cons, List.mem_cons, mem_nub]
theorem nub_nd : ∀ l : List Str, (nub l).Nodup
  | [] => List.nodup_nil
  | x :: r => by
    unfold nub
    by_cases h : x ∈ nub r
    · rw [if_pos h]; exact nub_nd r
    · rw [if_neg h]; exact List.nodup_cons.mpr ⟨h, nub_nd r⟩
theorem sset_eq {ns L ss : List Str} (p : ns.Perm L) (hs : sortedS ns = true) (g : ∀ z, z ∈ L ↔ z ∈ ss) (nd : L.Nodup) : ns = isort ltS (nub ss) := by
  have h1 := sortedS_eq p hs
  rw [h1]
  refine isort_eq tot_S ?_ (isort_sorted tot_S L)
  refine (isort_perm ltS L).trans ?_
  exact (List.perm_ext_iff_of_nodup nd (nub_nd ss)).mpr fun z => (g z).trans mem_nub.symm
def dSSet : D → Option D
  | .lst ds => if ds.length < 64 then (strsD ds).map fun ss => .lst ((isort ltS (nub ss)).map D.str) else none
  | _ => none
def eSSet (f : EC) : EC := fun Γ => bnd (f Γ) fun d => opt (dSSet d)
section
variable {X : Cx} {T : Tb} {W : WX} {e : Expr} {f : EC} {p q pos pos2 : Pos}
theorem pf_sset (hK : X.K = T.K) (hc : X.calm = true) (hg : Gl X "sorted") (hm : X.mg "sorted" = none) (hg2 : Gl X "set") (hm2 : X.mg "set" = none) (he : PE X e (E T W .tr f))
    (h1 : starEach [e] X.env = (false, eval e X.env) :: starEach [] X.env := by rfl) (h2 : (backTo pos2 (starEach [] X.env)).any (·.1) = false := by rfl)
    (h3 : starEach [.Call (.Name "set" q) [e] [] pos2] X.env = (false, eval (.Call (.Name "set" q) [e] [] pos2) X.env) :: starEach [] X.env := by rfl) (h4 : (backTo pos (starEach [] X.env)).any (·.1) = false := by rfl) :
    PE X (.Call (.Name "sorted" p) [.Call (.Name "set" q) [e] [] pos2] [] pos) (EF T W (eSSet f)) :=
  (pe_callB (cr_sortedSt hc) hg hm (by decide +kernel) (pa_cons (pe_callTy (cr_setStr hc) hg2 hm2 (by decide +kernel) (pa_cons he pa_nil h1) (by decide) (by decide) h1 h2) pa_nil h3) (by decide) (by decide) h3 h4).mono fun σ H Q ⟨c, own, Γ, x, s, r⟩ => ⟨c, own, Γ, x, s, by
    cases hf : f Γ x with
    | no => rw [show eSSet f Γ x = _ from bnd_no hf] at r; exact r
    | er d x1 => rw [show eSSet f Γ x = _ from bnd_er hf] at r; exact r
    | ok d x1 =>
      rw [show eSSet f Γ x = _ from bnd_ok hf] at r
      refine fun v H1 g bx qd => ?_
      have s1 := s.grow g bx
      cases d with
      | lst ds =>
        obtain ⟨l, vs, rfl, k1, k2⟩ := RepQ.lst qd
        cases hz : dSSet (.lst ds) with
        | none => rw [hz] at r; exact r.elim
        | some dz =>
          rw [hz] at r
          have hz' : (if ds.length < 64 then (strsD ds).map fun ss => D.lst ((isort ltS (nub ss)).map D.str) else none) = some dz := hz
          by_cases hl : ds.length < 64
          · rw [if_pos hl] at hz'
            obtain ⟨ss, e1, rfl⟩ := map_some hz'
            cases strs_rep k2 e1
            refine ⟨l, ss, rfl, .inl (.inl k1), by rw [strsD_len e1]; exact hl, fun a L na gm nd ll => ?_⟩
            refine ⟨a, L, rfl, upd_same, by rw [strsD_len e1] at ll; omega, fun ns p pm hs np => ?_⟩
            have npH : H1 p = none := by
              by_cases hpa : p = a
              · rw [hpa]; exact na
              · rw [upd_ne hpa] at np; exact np
            have sm : Same H1 (upd (upd H1 a (SetSO X.prog X.w a L)) p (.lst (ns.map V.str))) := fun b o eb => by
              rw [upd_ne (ne_of_none eb npH), upd_ne (ne_of_none eb na)]
              exact eb
            rw [sset_eq pm hs gm nd]
            rw [sset_eq pm hs gm nd] at sm
            exact r p _ (s1.none_back' s g npH) (g.trans (Grow.same sm)) (bx.same sm) ⟨_, upd_same, repL_strs _⟩ rfl
          · rw [if_neg hl] at hz'
            cases hz'
      | _ => exact r.elim⟩
@[simp] theorem q_sset {Γ : Gm} {x : Bx} : eSSet f Γ x = bR (f Γ x) fun d y => oR (dSSet d) y := by
  show bnd _ _ x = _
  simp only [bnd_bR, opt_oR]
end
end DL

namespace DL
open PySem PySem.Spec PyProof.Rows L2
/-! ### list(zip(a, b)), a and b tuples: at the library's level -/
theorem aNe {c d lo : Nat} (h1 : c ≤ lo) (h2 : lo < d) : d ≠ c := by omega
theorem aNl {c d : Nat} (h2 : c < d) : d ≠ c := by omega
section
variable {prog : Program} {w : World} {A : Around} {E : Value → Shared → Prop} {s : Shared} {z TI TO T i1 i2 a b : Addr} {f : Bool} {oT : Obj} {xs ys : Array Value} {k : Nat}
theorem zhItem0 {x y : Value} {Q : Value → Shared → Prop} (D : ZipApart z TI TO i1 i2 a b) (Z : IsZipHeld s.heap z TI TO T f) (hT : s.heap.get? T = some oT) (hI : IsPair s.heap TI (.ref i1) (.ref i2)) (g1 : s.heap.IsTupleIter i1 a k) (g2 : s.heap.IsTupleIter i2 b k)
    (ta : s.heap.IsTuple a xs) (tb : s.heap.IsTuple b ys) (ex : xs[k]? = some x) (ey : ys[k]? = some y)
    (q : ∀ h', IsZipHeld h' z TI TO T true → h'.IsTupleIter i1 a (k + 1) → h'.IsTupleIter i2 b (k + 1) → IsPair h' s.heap.objs.size x y → h'.objs.size = s.heap.objs.size + 1 → (∀ c o, c ≠ z → c ≠ i1 → c ≠ i2 → s.heap.get? c = some o → h'.get? c = some o) → Q (.ref s.heap.objs.size) { s with heap := h' }) :
    wpAny (model prog w) A (Builtin.«zip.__next__» ⟨[.ref z], []⟩) (fun fin s' => ∃ v, fin = .done (.ret v) ∧ Q v s') E s := by
  (show wpAny _ _ (field (.ref z) 2 >>= _) _ _ _); refine wpAny_bind (wpAny_field Z rfl (x := .bool false) rfl ?_)
  (show wpAny _ _ (field (.ref z) 3 >>= _) _ _ _); refine wpAny_bind (wpAny_field Z rfl (x := .ref TI) rfl (wpAny_bind (wpAny_seqItems hI rfl ?_)))
  (show wpAny _ _ (Builtin.SmallTypes.ownedTupleIsFree (.ref z) >>= _) _ _ _); refine wpAny_bind (wpAny_tupleHeld_zip Z hT fun u1 Z1 k1 => ?_)
  simp only [if_false, Bool.false_eq_true]; refine wpAny_bind ?_
  rw [← Array.forIn_toList]; simp only [List.forIn_nil, List.forIn_cons]
  refine wpAny_bind (wpAny_bind (wpAny_holding (show wpAny _ _ (Builtin.SmallTypes.nextOf (.ref i1) >>= _) _ _ _ from ?_)))
  refine wpAny_bind (RZ.nextOf_tuple_item (s := { s with heap := u1 }) (g1.extBut k1.extBut D.i1z) (ta.extBut k1.extBut D.l1z) ex fun u2 g1' k2 => wpAny_pure (wpAny_pure ?_))
  refine wpAny_bind (wpAny_bind (wpAny_holding (show wpAny _ _ (Builtin.SmallTypes.nextOf (.ref i2) >>= _) _ _ _ from ?_)))
  refine wpAny_bind (RZ.nextOf_tuple_item (s := { s with heap := u2 }) ((g2.extBut k1.extBut D.i2z).extBut k2.extBut D.i12.symm) ((tb.extBut k1.extBut D.l2z).extBut k2.extBut D.l2i1) ey fun u3 g2' k3 => wpAny_pure (wpAny_pure (wpAny_pure ?_)))
  (show wpAny _ _ (newTuple [x, y] >>= _) _ _ _); refine wpAny_bind (wpAny_newTuple (wpAny_pure ⟨_, rfl, ?_⟩))
  have sz : u3.objs.size = s.heap.objs.size := by rw [k3.1, k2.1, k1.1]
  have Z3 : IsZipHeld u3 z TI TO T true := k3.extBut _ _ D.i2z.symm (k2.extBut _ _ D.i1z.symm Z1)
  have hp : IsPair (u3.push { cls := .type "tuple", data := .seq #[x, y] }) u3.objs.size x y := Heap.get?_push_size _ rfl
  have s4 : (u3.push { cls := .type "tuple", data := .seq #[x, y] }).objs.size = u3.objs.size + 1 := Heap.size_push ..
  show Q (.ref u3.objs.size) _
  rw [sz] at hp s4 ⊢
  exact q _ (Heap.get?_push_of_some _ Z3) ((g1'.extBut k3.extBut D.i12).at fun o e => Heap.get?_push_of_some _ e) (g2'.at fun o e => Heap.get?_push_of_some _ e) hp s4
    fun c o n1 n2 n3 e => Heap.get?_push_of_some _ (k3.extBut _ _ n3 (k2.extBut _ _ n2 (k1.extBut _ _ n1 e)))
theorem zhEnd0 {Q : Fin → Shared → Prop} (hh : A.handled = none) (D : ZipApart z TI TO i1 i2 a b) (Z : IsZipHeld s.heap z TI TO T f) (hT : s.heap.get? T = some oT) (hI : IsPair s.heap TI (.ref i1) (.ref i2)) (g1 : s.heap.IsTupleIter i1 a k) (g2 : s.heap.IsTupleIter i2 b k)
    (ta : s.heap.IsTuple a xs) (tb : s.heap.IsTuple b ys) (en : xs[k]? = none ∨ ys[k]? = none)
    (q : ∀ h' e, (∀ c o, c ≠ z → c ≠ i1 → c ≠ i2 → s.heap.get? c = some o → h'.get? c = some o) → (∃ o, h'.get? e = some o ∧ o.cls = .type "StopIteration") → E (.ref e) { s with heap := h' }) :
    wpAny (model prog w) A (Builtin.«zip.__next__» ⟨[.ref z], []⟩) Q E s := by
  (show wpAny _ _ (field (.ref z) 2 >>= _) _ _ _); refine wpAny_bind (wpAny_field Z rfl (x := .bool false) rfl ?_)
  (show wpAny _ _ (field (.ref z) 3 >>= _) _ _ _); refine wpAny_bind (wpAny_field Z rfl (x := .ref TI) rfl (wpAny_bind (wpAny_seqItems hI rfl ?_)))
  (show wpAny _ _ (Builtin.SmallTypes.ownedTupleIsFree (.ref z) >>= _) _ _ _); refine wpAny_bind (wpAny_tupleHeld_zip Z hT fun u1 Z1 k1 => ?_)
  simp only [if_false, Bool.false_eq_true]; refine wpAny_bind ?_
  rw [← Array.forIn_toList]; simp only [List.forIn_nil, List.forIn_cons]
  refine wpAny_bind (wpAny_bind (wpAny_holding (show wpAny _ _ (Builtin.SmallTypes.nextOf (.ref i1) >>= _) _ _ _ from ?_)))
  cases ex : xs[k]? with
  | none => exact wpAny_bind (RZ.nextOf_tuple_end (s := { s with heap := u1 }) hh (g1.extBut k1.extBut D.i1z) (ta.extBut k1.extBut D.l1z) ex fun u2 e k2 he => q u2 e (fun c o n1 n2 _ x => k2 _ _ n2 (k1.extBut _ _ n1 x)) he)
  | some x =>
    have ey : ys[k]? = none := en.elim (fun h => by rw [ex] at h; cases h) id
    refine wpAny_bind (RZ.nextOf_tuple_item (s := { s with heap := u1 }) (g1.extBut k1.extBut D.i1z) (ta.extBut k1.extBut D.l1z) ex fun u2 g1' k2 => wpAny_pure (wpAny_pure ?_))
    refine wpAny_bind (wpAny_bind (wpAny_holding (show wpAny _ _ (Builtin.SmallTypes.nextOf (.ref i2) >>= _) _ _ _ from ?_)))
    exact wpAny_bind (RZ.nextOf_tuple_end (s := { s with heap := u2 }) hh ((g2.extBut k1.extBut D.i2z).extBut k2.extBut D.i12.symm) ((tb.extBut k1.extBut D.l2z).extBut k2.extBut D.l2i1) ey fun u3 e k3 he => q u3 e (fun c o n1 n2 n3 x => k3 _ _ n3 (k2.extBut _ _ n2 (k1.extBut _ _ n1 x))) he)
/-- the zip at turn i, while a list at S is filled: either fresh, or with a tuple that is out -/
def ZSt (h : Heap) (z TI TO i1 i2 a b S : Addr) (i : Nat) : Prop := IsPair h TI (.ref i1) (.ref i2) ∧ h.IsTupleIter i1 a i ∧ h.IsTupleIter i2 b i ∧
  ((IsZip h z TI TO .none ∧ ∃ x y, IsPair h TO x y) ∨ ∃ T f oT, IsZipHeld h z TI TO T f ∧ h.get? T = some oT ∧ T ≠ z ∧ T ≠ i1 ∧ T ≠ i2 ∧ T ≠ S)
theorem ZSt.keep {h h' : Heap} {S : Addr} {i : Nat} (D : ZSt h z TI TO i1 i2 a b S i) (n : S ≠ z ∧ S ≠ TI ∧ S ≠ TO ∧ S ≠ i1 ∧ S ≠ i2) (kp : ∀ c o, c ≠ S → h.get? c = some o → h'.get? c = some o) : ZSt h' z TI TO i1 i2 a b S i := by
  obtain ⟨c1, c2, c3, c4⟩ := D
  refine ⟨kp _ _ n.2.1.symm c1, c2.at fun o e => kp _ _ n.2.2.2.1.symm e, c3.at fun o e => kp _ _ n.2.2.2.2.symm e, ?_⟩
  rcases c4 with ⟨d1, x, y, d2⟩ | ⟨T, f, oT, d1, d2, d3, d4, d5, d6⟩
  · exact .inl ⟨kp _ _ n.1.symm d1, x, y, kp _ _ n.2.2.1.symm d2⟩
  · exact .inr ⟨T, f, oT, kp _ _ n.1.symm d1, kp _ _ d6 d2, d3, d4, d5, d6⟩
theorem zlItem {x y : Value} {S : Addr} {Q : Option Value → Shared → Prop} (D : ZipApart z TI TO i1 i2 a b) (Z : ZSt s.heap z TI TO i1 i2 a b S k) (hS : S < s.heap.objs.size) (ta : s.heap.IsTuple a xs) (tb : s.heap.IsTuple b ys) (ex : xs[k]? = some x) (ey : ys[k]? = some y)
    (q : ∀ h', ZSt h' z TI TO i1 i2 a b S (k + 1) → IsPair h' s.heap.objs.size x y → h'.objs.size = s.heap.objs.size + 1 → (∀ c o, c ≠ z → c ≠ TO → c ≠ i1 → c ≠ i2 → s.heap.get? c = some o → h'.get? c = some o) → Q (some (.ref s.heap.objs.size)) { s with heap := h' }) :
    wpAny (model prog w) A (pyNext (.ref z)) Q E s := by
  obtain ⟨c1, c2, c3, c4⟩ := Z
  have e1 : i1 < s.heap.objs.size := by obtain ⟨_, e, _⟩ := c2; exact Heap.lt_size e
  have e2 : i2 < s.heap.objs.size := by obtain ⟨_, e, _⟩ := c3; exact Heap.lt_size e
  rcases c4 with ⟨d1, x0, y0, d2⟩ | ⟨T, f, oT, d1, d2, d3, d4, d5, d6⟩
  · exact RZ.pyNext_zipT_item D d1 c1 d2 c2 c3 ta tb ex ey fun h' b1 b2 b3 b4 b5 b6 b7 =>
      q h' ⟨b7 _ _ D.TIz D.TITO D.TIi1 D.TIi2 c1, b3, b4, .inr ⟨_, false, _, b1, b5, Nat.ne_of_gt (Heap.lt_size d1), Nat.ne_of_gt e1, Nat.ne_of_gt e2, Nat.ne_of_gt hS⟩⟩ b5 b6 b7
  · have hTy : s.TypeIs (.ref z) "zip" := ⟨_, d1, rfl⟩
    unfold pyNext
    exact wpAny_bind (wpAny_attempt (wpAny_callSpecial?_slot (name := Str.ofString "__next__") hTy F.slot_zip_next (wpAny_call_entry F.slot_zip_next hTy F.entry_zip_next
      (zhItem0 D d1 d2 c1 c2 c3 ta tb ex ey fun h' b1 b3 b4 b5 b6 b7 => wpAny_pure (q h' ⟨b7 _ _ D.TIz D.TIi1 D.TIi2 c1, b3, b4, .inr ⟨T, true, oT, b1, b7 _ _ d3 d4 d5 d2, d3, d4, d5, d6⟩⟩ b5 b6 fun c o n1 _ n3 n4 e => b7 c o n1 n3 n4 e)) (F.args_zip_next_1 _))))
theorem zlEnd {S : Addr} {Q : Option Value → Shared → Prop} (hh : A.handled = none) (D : ZipApart z TI TO i1 i2 a b) (Z : ZSt s.heap z TI TO i1 i2 a b S k) (ta : s.heap.IsTuple a xs) (tb : s.heap.IsTuple b ys) (en : xs[k]? = none ∨ ys[k]? = none)
    (q : ∀ h', (∀ c o, c ≠ z → c ≠ TO → c ≠ i1 → c ≠ i2 → s.heap.get? c = some o → h'.get? c = some o) → Q none { s with heap := h' }) :
    wpAny (model prog w) A (pyNext (.ref z)) Q E s := by
  obtain ⟨c1, c2, c3, c4⟩ := Z
  rcases c4 with ⟨d1, x0, y0, d2⟩ | ⟨T, f, oT, d1, d2, d3, d4, d5, d6⟩
  · exact RZ.pyNext_zipT_end hh D d1 c1 d2 c2 c3 ta tb en q
  · have hTy : s.TypeIs (.ref z) "zip" := ⟨_, d1, rfl⟩
    unfold pyNext
    refine wpAny_bind (wpAny_attempt (wpAny_callSpecial?_slot (name := Str.ofString "__next__") hTy F.slot_zip_next (wpAny_call_entry F.slot_zip_next hTy F.entry_zip_next
      (zhEnd0 hh D d1 d2 c1 c2 c3 ta tb en fun h' e kp he => ?_) (F.args_zip_next_1 _))))
    obtain ⟨o, ho, hc⟩ := he
    exact wpAny_bind (wpAny_isInstance (T := "StopIteration") (b := true) ⟨o, ho, hc⟩ isSubtype_stop (wpAny_pure (q _ fun c o n1 _ n3 n4 e => kp c o n1 n3 n4 e)))
/-- the new pairs -/
structure ZG (xs ys : Array Value) (lo : Addr) (h : Heap) (as : List Addr) : Prop where
  rise : as.Pairwise (· < ·)
  above : ∀ c ∈ as, lo < c
  pairs : ∀ (j : Nat) (c : Addr), as[j]? = some c → ∃ x y, xs[j]? = some x ∧ ys[j]? = some y ∧ IsPair h c x y
theorem ZG.there {lo : Addr} {h : Heap} {as : List Addr} (g : ZG xs ys lo h as) {c : Addr} (hc : c ∈ as) : c < h.objs.size := by
  obtain ⟨j, hj⟩ := List.mem_iff_getElem?.mp hc
  obtain ⟨_, _, _, _, e⟩ := g.pairs j c hj
  exact Heap.lt_size e
end
section
variable {prog : Program} {w : World} {A : Around} {s : Shared} {R : Result → Shared → Prop} {z TI TO i1 i2 a b S lo : Addr} {xs ys : Array Value} {n : Nat}
theorem zl_loop (hh : A.handled = none) (D : ZipApart z TI TO i1 i2 a b) (nS : S ≠ z ∧ S ≠ TI ∧ S ≠ TO ∧ S ≠ i1 ∧ S ≠ i2) (hl : z ≤ lo ∧ TI ≤ lo ∧ TO ≤ lo ∧ i1 ≤ lo ∧ i2 ≤ lo ∧ S ≤ lo) (aS : a ≠ S) (bS : b ≠ S) (hx : xs.size = n) (hy : ys.size = n) (hn : n ≤ sizeLine) (res : Value) {h₁ : Heap}
    (hR : ∀ h' acc c as, (∀ b o, b ≠ S → b ≠ z → b ≠ TO → b ≠ i1 → b ≠ i2 → h₁.get? b = some o → h'.get? b = some o) → h'.get? S = some { cls := .type "list", dict := none, data := .seq acc c, slots := #[] } → as.length = n → ZG xs ys lo h' as →
      acc.toList = as.map Value.ref → R (.ok (.ret res)) { s with heap := h' }) :
    ∀ (m i : Nat) (h : Heap) (c : Nat) (acc : Array Value) (as : List Addr), n - i = m → i ≤ n → ZSt h z TI TO i1 i2 a b S i → h.IsTuple a xs → h.IsTuple b ys → (∀ b o, b ≠ S → b ≠ z → b ≠ TO → b ≠ i1 → b ≠ i2 → h₁.get? b = some o → h.get? b = some o) →
      h.get? S = some { cls := .type "list", dict := none, data := .seq acc c, slots := #[] } → acc.toList = as.map Value.ref → as.length = i → ZG xs ys lo h as → lo < h.objs.size →
      codeAny (model prog w) A (.builtin "list.extend.loop" ⟨[.ref S, .ref z, res], []⟩) R { s with heap := h } := by
  intro m
  induction m with
  | zero =>
    intro i h c acc as hm hi Z ta tb kp hS hacc hal G hlo
    refine codeAny_builtin PySem.F.entry_extend_loop ?_
    rw [Around.under_plainId PySem.F.plain_extend_loop _]
    refine wpAny_bind (zlEnd (s := { s with heap := h }) (A := A.in1) hh D Z ta tb (.inl (by simp; omega)) fun h' k' => wpAny_pure (hR h' acc c as (fun b o n0 n1 n2 n3 n4 e => k' b o n1 n2 n3 n4 (kp b o n0 n1 n2 n3 n4 e)) (k' S _ nS.1 nS.2.2.1 nS.2.2.2.1 nS.2.2.2.2 hS) (by omega) ⟨G.rise, G.above, fun j d hj => ?_⟩ hacc))
    obtain ⟨x, y, g1, g2, g3⟩ := G.pairs j d hj
    have gd := G.above d (List.mem_of_getElem? hj)
    exact ⟨x, y, g1, g2, k' d _ (aNe hl.1 gd) (aNe hl.2.2.1 gd) (aNe hl.2.2.2.1 gd) (aNe hl.2.2.2.2.1 gd) g3⟩
  | succ m ih =>
    intro i h c acc as hm hi Z ta tb kp hS hacc hal G hlo
    have hlt : i < n := by omega
    have hsz : acc.size = i := by rw [← Array.length_toList, hacc, List.length_map, hal]
    refine codeAny_builtin PySem.F.entry_extend_loop ?_
    rw [Around.under_plainId PySem.F.plain_extend_loop _]
    obtain ⟨vx, ex⟩ : ∃ v, xs[i]? = some v := ⟨_, Array.getElem?_eq_getElem (by omega)⟩
    obtain ⟨vy, ey⟩ : ∃ v, ys[i]? = some v := ⟨_, Array.getElem?_eq_getElem (by omega)⟩
    have hSl : S < h.objs.size := Heap.lt_size hS
    refine wpAny_bind (zlItem (s := { s with heap := h }) (S := S) D Z hSl ta tb ex ey fun h' Z' hp hz k' => ?_)
    dsimp only at hp hz k' ⊢
    have hS' := k' S _ nS.1 nS.2.2.1 nS.2.2.2.1 nS.2.2.2.2 hS
    have up : ∀ b o, b ≠ S → h'.get? b = some o → (h'.update S (Obj.mapSeq (·.push (Value.ref h.objs.size)))).get? b = some o := fun b o hb e => (Heap.get?_update_other _ _ (Ne.symm hb)).trans e
    have tk : ∀ {t : Addr} {its : Array Value}, h.IsTuple t its → t ≠ z → t ≠ TO → t ≠ i1 → t ≠ i2 → t ≠ S → (h'.update S (Obj.mapSeq (·.push (Value.ref h.objs.size)))).IsTuple t its := fun {t its} ⟨o, e, r⟩ m1 m2 m3 m4 m5 => ⟨o, up _ _ m5 (k' _ _ m1 m2 m3 m4 e), r⟩
    show wpAny _ A.in1 (updateSeq S (·.push (Value.ref h.objs.size)) >>= _) _ _ _
    refine wpAny_bind (wpAny_updateSeq hS' rfl (wpAny_pure ⟨plainId_quiet PySem.F.plain_extend_loop _, ih (i + 1) _ _ (acc.push (Value.ref h.objs.size)) (as ++ [h.objs.size]) (by omega) hlt (Z'.keep nS up) (tk ta D.l1z D.l1TO D.l1i1 D.l1i2 aS) (tk tb D.l2z D.l2TO D.l2i1 D.l2i2 bS)
      (fun b o n0 n1 n2 n3 n4 e => up b o n0 (k' b o n1 n2 n3 n4 (kp b o n0 n1 n2 n3 n4 e))) (Heap.get?_update_self _ hS' rfl) (by rw [Array.toList_push, hacc, List.map_append]; rfl) (by rw [List.length_append, hal]; rfl) ⟨?_, ?_, ?_⟩ ?_⟩) (by rw [hsz]; omega) (by show (acc.push _).size ≤ _; rw [Array.size_push, hsz]; omega))
    · refine List.pairwise_append.mpr ⟨G.rise, List.pairwise_singleton _ _, fun c hc d hd => ?_⟩
      rw [List.mem_singleton.mp hd]
      exact G.there hc
    · intro d hd
      rcases List.mem_append.mp hd with hd | hd
      · exact G.above d hd
      · rw [List.mem_singleton.mp hd]; exact hlo
    · intro j d hj
      rcases Nat.lt_trichotomy j as.length with q1 | q1 | q1
      · rw [List.getElem?_append_left q1] at hj
        obtain ⟨x, y, g1, g2, g3⟩ := G.pairs j d hj
        have gd := G.above d (List.mem_of_getElem? hj)
        exact ⟨x, y, g1, g2, up d _ (aNe hl.2.2.2.2.2 gd) (k' d _ (aNe hl.1 gd) (aNe hl.2.2.1 gd) (aNe hl.2.2.2.1 gd) (aNe hl.2.2.2.2.1 gd) g3)⟩
      · subst q1
        have hb : h.objs.size = d := by simpa using hj
        subst hb
        exact ⟨_, _, by rw [hal]; exact ex, by rw [hal]; exact ey, up _ _ (Nat.ne_of_gt hSl) hp⟩
      · have hno : (as ++ [h.objs.size])[j]? = none := List.getElem?_eq_none (by rw [List.length_append, List.length_singleton]; omega)
        rw [hno] at hj; cases hj
    · have e : (h'.update S (Obj.mapSeq (·.push (Value.ref h.objs.size)))).get? h.objs.size = _ := up _ _ (Nat.ne_of_gt hSl) hp
      exact Nat.lt_trans hlo (Heap.lt_size e)
end
end DL

namespace DL
open PySem PySem.Spec PyProof.Rows L2
theorem zip_len0 : typeLookup (.type "zip") "__len__" = pure none := by rw [typeLookup_type, builtinLookup_eq_fast]; kernel_rfl
theorem zip_hint0 : typeLookup (.type "zip") "__length_hint__" = pure none := by rw [typeLookup_type, builtinLookup_eq_fast]; kernel_rfl
section
variable {prog : Program} {w : World} {A : Around} {E : Value → Shared → Prop} {s : Shared} {z TI TO i1 i2 a b : Addr} {xs ys : Array Value} {n : Nat}
theorem zl_extend {R : Result → Shared → Prop} {S lo : Addr} {c0 : Nat} (hh : A.handled = none) (D : ZipApart z TI TO i1 i2 a b) (nS : S ≠ z ∧ S ≠ TI ∧ S ≠ TO ∧ S ≠ i1 ∧ S ≠ i2) (hl : z ≤ lo ∧ TI ≤ lo ∧ TO ≤ lo ∧ i1 ≤ lo ∧ i2 ≤ lo ∧ S ≤ lo) (hlo : lo < s.heap.objs.size) (aS : a ≠ S) (bS : b ≠ S) (hx : xs.size = n) (hy : ys.size = n) (hn : n ≤ sizeLine) (res : Value)
    (Z : ZSt s.heap z TI TO i1 i2 a b S 0) (ta : s.heap.IsTuple a xs) (tb : s.heap.IsTuple b ys) (hzz : IsZip s.heap z TI TO .none) (hS : s.heap.get? S = some { cls := .type "list", dict := none, data := .seq #[] c0, slots := #[] })
    (hR : ∀ h' acc c as, (∀ b o, b ≠ S → b ≠ z → b ≠ TO → b ≠ i1 → b ≠ i2 → s.heap.get? b = some o → h'.get? b = some o) → h'.get? S = some { cls := .type "list", dict := none, data := .seq acc c, slots := #[] } → as.length = n → ZG xs ys lo h' as →
      acc.toList = as.map Value.ref → R (.ok (.ret res)) { s with heap := h' }) :
    wpAny (model prog w) A.in1 (Builtin.List.listExtendWith (.ref S) (.ref z) res)
      (fun fin s' => match fin with | .done f => R (.ok f) s' | .again c' => c'.quiet = true ∧ codeAny (model prog w) A c' R s') (fun e s' => R (.error e) s') s := by
  have hTy : s.TypeIs (.ref z) "zip" := ⟨_, hzz, rfl⟩
  unfold Builtin.List.listExtendWith
  refine wpAny_bind (wpAny_typeOf hTy ?_)
  have t1 : Builtin.List.listSameRef (.ref S) (.ref z) = false := by simp [Builtin.List.listSameRef, nS.1]
  have t2 : (Value.type "zip" == Value.type "list") = false := by decide
  have t3 : (Value.type "zip" == Value.type "tuple") = false := by decide
  simp only [t1, t2, t3, Bool.or_false, Bool.false_eq_true, if_false]
  refine wpAny_bind (wpAny_pyIter_zip hzz ?_)
  refine wpAny_bind (wpAny_holding ?_)
  unfold Builtin.List.listLengthHint
  refine wpAny_bind (wpAny_specialOf hTy zip_len0 ?_)
  (show wpAny _ A.in1 (specialOf (Value.ref z) (Str.ofString "__length_hint__") >>= _) _ _ _); refine wpAny_bind (wpAny_specialOf hTy zip_hint0 (wpAny_pure ?_))
  refine wpAny_ite_split (fun _ => ?_) (fun q => absurd rfl q)
  refine wpAny_bind (wpAny_rule (wpAny_bind ?_))
  (show wpAny _ _ (updateSeq S (fun v => v.push .none) >>= fun _ => updateSeq S (fun v => v.pop)) _ _ _); refine wpAny_bind (wpAny_updateSeq hS rfl ?_)
  have hS2 := Heap.get?_update_self (Obj.mapSeq (fun v => v.push Value.none)) hS rfl
  refine wpAny_updateSeq (hz := by seq_fits) hS2 rfl ?_
  have hS3 := Heap.get?_update_self (Obj.mapSeq (fun v => v.pop)) hS2 rfl
  have up : ∀ b o, b ≠ S → s.heap.get? b = some o → ((s.heap.update S (Obj.mapSeq (fun v => v.push Value.none))).update S (Obj.mapSeq (fun v => v.pop))).get? b = some o := fun b o hb e => (Heap.get?_update_other _ _ (Ne.symm hb)).trans ((Heap.get?_update_other _ _ (Ne.symm hb)).trans e)
  have tk : ∀ {t : Addr} {its : Array Value}, s.heap.IsTuple t its → t ≠ S → ((s.heap.update S (Obj.mapSeq (fun v => v.push Value.none))).update S (Obj.mapSeq (fun v => v.pop))).IsTuple t its := fun {t its} ⟨o, e, r⟩ m5 => ⟨o, up _ _ m5 e, r⟩
  refine wpAny_pure ⟨plainId_quiet PySem.F.plain_extend_loop _, zl_loop (xs := xs) (ys := ys) (n := n) (h₁ := s.heap) hh D nS hl aS bS hx hy hn res hR n 0 _ _ #[] [] (Nat.sub_zero _) (Nat.zero_le _) (Z.keep nS up) (tk ta aS) (tk tb bS) (fun b o n0 _ _ _ _ e => up b o n0 e) hS3 rfl rfl
    ⟨List.Pairwise.nil, (fun _ ha => nomatch ha), (fun j a hj => by simp at hj)⟩ ?_⟩
  have e : ((s.heap.update S (Obj.mapSeq (fun v => v.push Value.none))).update S (Obj.mapSeq (fun v => v.pop))).objs.size = s.heap.objs.size := by
    rw [Heap.size_update, Heap.size_update]
  rw [e]
  exact hlo
theorem zl_call {Q : Value → Shared → Prop} (hh : A.handled = none) (D : ZipApart z TI TO i1 i2 a b) (hx : xs.size = n) (hy : ys.size = n) (hn : n ≤ sizeLine) (lt : z < s.heap.objs.size ∧ TI < s.heap.objs.size ∧ TO < s.heap.objs.size ∧ i1 < s.heap.objs.size ∧ i2 < s.heap.objs.size ∧ a < s.heap.objs.size ∧ b < s.heap.objs.size)
    (hz : IsZip s.heap z TI TO .none) (hI : IsPair s.heap TI (.ref i1) (.ref i2)) {x0 y0 : Value} (hO : IsPair s.heap TO x0 y0) (g1 : s.heap.IsTupleIter i1 a 0) (g2 : s.heap.IsTupleIter i2 b 0) (ta : s.heap.IsTuple a xs) (tb : s.heap.IsTuple b ys)
    (hQ : ∀ h' acc c as, (∀ b o, b ≠ z → b ≠ TO → b ≠ i1 → b ≠ i2 → s.heap.get? b = some o → h'.get? b = some o) → h'.get? s.heap.objs.size = some { cls := .type "list", dict := none, data := .seq acc c, slots := #[] } → as.length = n → ZG xs ys s.heap.objs.size h' as →
      acc.toList = as.map Value.ref → Q (.ref s.heap.objs.size) { s with heap := h' }) :
    wpAny (model prog w) A (call (.type "list") [.ref z]) Q E s := by
  refine callType_codes (Q₁ := fun obj s₁ => obj = .ref s.heap.objs.size ∧ s₁ = { s with heap := s.heap.push { cls := .type "list", data := .seq #[] } }) PySem.F.called_list (PySem.F.typeCall_list_1 _) PySem.F.entry_list_init (code_list_new _ ⟨rfl, rfl⟩) fun obj s₁ e0 => ?_
  obtain ⟨rfl, rfl⟩ := e0
  have hS : (s.heap.push { cls := .type "list", data := .seq #[] }).get? s.heap.objs.size = some { cls := .type "list", data := .seq #[] } := Heap.get?_push_size _ rfl
  have nS : s.heap.objs.size ≠ z ∧ s.heap.objs.size ≠ TI ∧ s.heap.objs.size ≠ TO ∧ s.heap.objs.size ≠ i1 ∧ s.heap.objs.size ≠ i2 := ⟨aNl lt.1, aNl lt.2.1, aNl lt.2.2.1, aNl lt.2.2.2.1, aNl lt.2.2.2.2.1⟩
  refine ⟨⟨_, hS, rfl⟩, PySem.F.args_list_init_2 _ _, ?_⟩
  show wpAny _ _ (do let old ← Builtin.List.listItems (.ref s.heap.objs.size); Builtin.List.listUpdate (.ref s.heap.objs.size) (fun _ => #[]); letGo old.toList.reverse; Builtin.List.listExtendWith (.ref s.heap.objs.size) (.ref z) .none) _ _ _
  refine wpAny_bind ?_
  unfold Builtin.List.listItems
  refine wpAny_bind (wpAny_seqItems hS rfl (wpAny_pure ?_))
  show wpAny _ _ (updateSeq s.heap.objs.size (fun _ => #[]) >>= fun _ => letGo (#[] : Array Value).toList.reverse >>= fun _ => Builtin.List.listExtendWith (.ref s.heap.objs.size) (.ref z) .none) _ _ _
  refine wpAny_bind (wpAny_updateSeq hS rfl ?_)
  have hS2 := Heap.get?_update_self (Obj.mapSeq (fun _ => (#[] : Array Value))) hS rfl
  refine wpAny_bind (wpAny_letGo ?_)
  have up : ∀ b o, b ≠ s.heap.objs.size → s.heap.get? b = some o → ((s.heap.push { cls := .type "list", data := .seq #[] }).update s.heap.objs.size (Obj.mapSeq (fun _ => (#[] : Array Value)))).get? b = some o :=
    fun b o hb e => (Heap.get?_update_other _ _ (Ne.symm hb)).trans (Heap.get?_push_of_some _ e)
  have tk : ∀ {t : Addr} {its : Array Value}, s.heap.IsTuple t its → t ≠ s.heap.objs.size → ((s.heap.push { cls := .type "list", data := .seq #[] }).update s.heap.objs.size (Obj.mapSeq (fun _ => (#[] : Array Value)))).IsTuple t its := fun {t its} ⟨o, e, r⟩ m5 => ⟨o, up _ _ m5 e, r⟩
  have sz : ((s.heap.push { cls := .type "list", data := .seq #[] }).update s.heap.objs.size (Obj.mapSeq (fun _ => (#[] : Array Value)))).objs.size = s.heap.objs.size + 1 := by rw [Heap.size_update, Heap.size_push]
  refine zl_extend (A := A.in1) (s := { s with heap := (s.heap.push { cls := .type "list", data := .seq #[] }).update s.heap.objs.size (Obj.mapSeq (fun _ => (#[] : Array Value))) }) (lo := s.heap.objs.size) (xs := xs) (ys := ys) (n := n) hh D nS ⟨Nat.le_of_lt lt.1, Nat.le_of_lt lt.2.1, Nat.le_of_lt lt.2.2.1, Nat.le_of_lt lt.2.2.2.1, Nat.le_of_lt lt.2.2.2.2.1, Nat.le_refl _⟩ (by show _ < ((s.heap.push _).update _ _).objs.size; rw [sz]; exact Nat.lt_succ_self _) (Nat.ne_of_lt lt.2.2.2.2.2.1) (Nat.ne_of_lt lt.2.2.2.2.2.2) hx hy hn .none
    ⟨up _ _ nS.2.1.symm hI, g1.at fun o e => up _ _ nS.2.2.2.1.symm e, g2.at fun o e => up _ _ nS.2.2.2.2.symm e, .inl ⟨up _ _ nS.1.symm hz, x0, y0, up _ _ nS.2.2.1.symm hO⟩⟩ (tk ta (Nat.ne_of_lt lt.2.2.2.2.2.1)) (tk tb (Nat.ne_of_lt lt.2.2.2.2.2.2)) (up _ _ nS.1.symm hz) hS2 fun h' acc c as kp hS' hl G hacc => ?_
  refine ⟨rfl, ?_⟩
  exact hQ h' acc c as (fun b o n1 n2 n3 n4 e => kp b o (Nat.ne_of_lt (Heap.lt_size e)) n1 n2 n3 n4 (up b o (Nat.ne_of_lt (Heap.lt_size e)) e)) hS' hl G hacc
end
/-- pairs tracked at their addresses -/
def putP : Hp → List Addr → List (V × V) → Hp
  | H, a :: as, p :: ps => putP (upd H a (.tup [p.1, p.2])) as ps
  | H, _, _ => H
theorem putP_off {b : Addr} : ∀ (as : List Addr) (ps : List (V × V)) (H : Hp), b ∉ as → putP H as ps b = H b
  | [], _, _, _ => rfl
  | _ :: _, [], _, _ => rfl
  | a :: as, p :: ps, H, h => by
    show putP (upd H a _) as ps b = H b
    rw [putP_off as ps _ (fun z => h (List.mem_cons_of_mem _ z)), upd_ne (fun z => h (by rw [z]; exact List.mem_cons_self))]
theorem putP_at : ∀ (as : List Addr) (ps : List (V × V)) (H : Hp), as.length = ps.length → as.Nodup → Paired (fun (t : Addr) (p : V × V) => putP H as ps t = some (.tup [p.1, p.2])) as ps
  | [], [], _, _, _ => .nil
  | [], _ :: _, _, h, _ => by cases h
  | _ :: _, [], _, h, _ => by cases h
  | a :: as, p :: ps, H, h, hn => by
    have hn' := List.nodup_cons.mp hn
    refine .cons ?_ (putP_at as ps (upd H a (.tup [p.1, p.2])) (Nat.succ.inj h) hn'.2)
    show putP (upd H a _) as ps a = _
    rw [putP_off as ps _ hn'.1, upd_same]
section
variable {X : Cx} {e e' : Expr} {ta : TA} {p p' pos pos' : Pos}
theorem pairs_laid {pins : List (Addr × Obj)} {σ : L2.St} {H : Hp} {s : Shared} {h' : Heap} {vs us : List V} {xs ys : List Value} {acc : Array Value} {c n : Nat} {as : List Addr} (I : Inv X pins σ H s) (hz : n ≤ sizeLine) (rv : Vals vs xs) (ru : Vals us ys) (lv : vs.length = n) (lu : us.length = n) (lo : Addr) (hlo : s.heap.objs.size ≤ lo)
    (hk : ∀ b o, s.heap.get? b = some o → h'.get? b = some o) (hS : h'.get? lo = some { cls := .type "list", dict := none, data := .seq acc c, slots := #[] }) (hl : as.length = n) (hG : ZG xs.toArray ys.toArray lo h' as) (hacc : acc.toList = as.map Value.ref) :
    ∃ H' : Hp, (∀ b o, H b = some o → H' b = some o) ∧ H lo = none ∧ (∀ t ∈ as, H t = none) ∧ lo ∉ as ∧ H' lo = some (.lst (as.map V.ref)) ∧ Paired (fun (t : Addr) (q : V × V) => H' t = some (.tup [q.1, q.2])) as (vs.zip us) ∧ Inv X pins σ H' { s with heap := h' } := by
  have lz : (vs.zip us).length = n := by rw [List.length_zip]; omega
  have hSn : lo ∉ as := fun z => Nat.lt_irrefl _ (hG.above _ z)
  have nd : as.Nodup := List.Pairwise.imp (fun {a b} (h : a < b) => Nat.ne_of_lt h) hG.rise
  have new : ∀ t ∈ as, H t = none := fun t ht => I.hok.fresh (Nat.le_trans hlo (Nat.le_of_lt (hG.above t ht)))
  have newS : H lo = none := I.hok.fresh hlo
  have atP := putP_at as (vs.zip us) (upd H lo (.lst (as.map V.ref))) (by omega) nd
  have off : ∀ b, b ∉ as → b ≠ lo → putP (upd H lo (.lst (as.map V.ref))) as (vs.zip us) b = H b := fun b m1 m2 => by rw [putP_off as _ _ m1, upd_ne m2]
  have low : ∀ b o, s.heap.get? b = some o → b ∉ as ∧ b ≠ lo := fun b o e => ⟨fun z => absurd (Nat.lt_of_lt_of_le (Heap.lt_size e) hlo) (Nat.not_lt.mpr (Nat.le_of_lt (hG.above b z))), Nat.ne_of_lt (Nat.lt_of_lt_of_le (Heap.lt_size e) hlo)⟩
  have kp : ∀ b u, H b = some u → (putP (upd H lo (.lst (as.map V.ref))) as (vs.zip us)) b = some u := fun b u e => by
    rw [off b (fun z => by rw [new b z] at e; cases e) (fun z => by rw [z, newS] at e; cases e)]
    exact e
  have eS : putP (upd H lo (.lst (as.map V.ref))) as (vs.zip us) lo = some (.lst (as.map V.ref)) := by rw [putP_off as _ _ hSn, upd_same]
  refine ⟨_, kp, newS, new, hSn, eS, atP, ?_⟩
  refine I.call' (s' := { s with heap := h' }) (ch := []) rfl ⟨fun b o q _ _ _ => hk b o q, fun b o q _ _ _ => ⟨o.slots, hk b o q⟩, fun b o q m _ => ?_, fun b o q _ => ⟨o, hk b o q⟩, fun b xs q => kp b _ q, fun b o u q => kp b _ q, fun b ps q => ⟨#[], by rw [kp b _ q]; simp⟩⟩ (fun b u q => ?_) I.bare fun b z => by simp at z
  · obtain ⟨z1, z2⟩ := low b o q
    rw [off b z1 z2]
    exact m
  · by_cases hb : b ∈ as
    · obtain ⟨j, pk, e1, e2, e3⟩ := LiI.paired_ix atP hb
      rw [e3] at q
      cases q
      obtain ⟨x, y, f1, f2, f3⟩ := hG.pairs j b e1
      obtain ⟨g1, g2⟩ := List.getElem?_zip_eq_some.mp e2
      obtain ⟨ux, hu1, ru1⟩ := rv.get g1
      obtain ⟨uy, hu2, ru2⟩ := ru.get g2
      have k1 : ux = x := by have f1' : xs[j]? = some x := by simpa using f1
                             rw [f1'] at hu1; exact (Option.some.inj hu1).symm
      have k2 : uy = y := by have f2' : ys[j]? = some y := by simpa using f2
                             rw [f2'] at hu2; exact (Option.some.inj hu2).symm
      subst k1 k2
      exact ⟨by show 2 ≤ sizeLine; decide, [_, _], .cons ru1 (.cons ru2 .nil), ⟨_, f3, rfl, _, rfl⟩⟩
    · by_cases hb2 : b = lo
      · rw [hb2] at q ⊢
        rw [eS] at q
        cases q
        refine ⟨by rw [List.length_map]; omega, acc.toList, c, by rw [hacc]; exact LiI.vals_refs as, ?_⟩
        rw [Array.toArray_toList]
        exact hS
      · rw [off b hb hb2] at q
        exact (I.hok b u q).stay (fun d v _ y => hk d v y) (fun d y => kp d _ y) fun d xs y => kp d _ y
def tListZip (K : PySem.W.Frag) (ta : TA) : TE := fun σ H Q => ta σ H fun vs H1 => ∃ (a b : Addr) (xs ys : List V), vs = [.ref a, .ref b] ∧ SqT K H1 a xs ∧ SqT K H1 b ys ∧ xs.length = ys.length ∧
  ∀ (H' : Hp) (q : Addr) (ts : List Addr), (∀ b o, H1 b = some o → H' b = some o) → H1 q = none → (∀ t ∈ ts, H1 t = none) → q ∉ ts → H' q = some (.lst (ts.map V.ref)) → Paired (fun (t : Addr) (q : V × V) => H' t = some (.tup [q.1, q.2])) ts (xs.zip ys) → Q (.ref q) H'
theorem pe_listZip (hc : X.calm = true) (hg : Gl X "list") (hm : X.mg "list" = none) (hg2 : Gl X "zip") (hm2 : X.mg "zip" = none) (ha : PA X [e, e'] ta) (hs : starEach [e, e'] X.env = (false, eval e X.env) :: starEach [e'] X.env := by rfl) (hpl : (backTo pos' (starEach [e'] X.env)).any (·.1) = false := by rfl)
    (hs2 : starEach [.Call (.Name "zip" p') [e, e'] [] pos'] X.env = (false, eval (.Call (.Name "zip" p') [e, e'] [] pos') X.env) :: starEach [] X.env := by rfl) :
    PE X (.Call (.Name "list" p) [.Call (.Name "zip" p') [e, e'] [] pos'] [] pos) (tListZip X.K ta) := by
  refine ⟨fun pins s σ H Q I hq => ?_⟩
  refine wpAny_Call_Name_kw (ld_blt I hg hm (show bootBuiltins "list" = some (.type "list") by decide +kernel) (PyProof.Rows.callWith_type1 ?_ hs2 rfl))
  rw [hs2]
  (show wpAny _ _ (spliced ((false, eval (.Call (.Name "zip" p') [e, e'] [] pos') X.env) :: backTo pos (starEach [] X.env))) _ _ s); refine Calls.spliced_cons ?_
  refine Call_ (ld_blt I hg2 hm2 PyProof.Rows.boot_zip (PyProof.Rows.callWith_type1 (thn (ha.run pos' pins s σ H _ I hq) fun us s1 ⟨vs, H1, I1, r1, q1⟩ => ?_) hs hpl))
  obtain ⟨a, b, xs, ys, rfl, hqx, hqy, hxy, q⟩ := q1
  cases r1 with
  | cons r rr =>
    cases rr with
    | cons r' rr =>
      cases rr
      cases r
      cases r'
      obtain ⟨its, rv, p1, sz1⟩ := I1.tuple hqx
      obtain ⟨its2, rv2, p2, sz2⟩ := I1.tuple hqy
      obtain ⟨o1, ho1, _⟩ := id p1
      obtain ⟨o2, ho2, _⟩ := id p2
      have la := Heap.lt_size ho1
      have lb := Heap.lt_size ho2
      have l1 := rv.length
      have l2 := rv2.length
      refine RZ.call_zipT (show s1.heap.IsTuple a its.toArray from p1) (show s1.heap.IsTuple b its2.toArray from p2) fun h' hz hTI hTO h1 h2 hsz hk => Calls.spliced_nil ?_
      have t1 : h'.IsTuple a its.toArray := by obtain ⟨o, e, r⟩ := p1; exact ⟨o, hk _ _ e, r⟩
      have t2 : h'.IsTuple b its2.toArray := by obtain ⟨o, e, r⟩ := p2; exact ⟨o, hk _ _ e, r⟩
      refine zl_call (s := { s1 with heap := h' }) (n := xs.length) (I1.ok.hd hc) (PySem.W.ktu_apart s1.heap.objs.size a b la lb) (by simp [l1]) (by simp; omega) (by omega) ⟨?_, ?_, ?_, ?_, ?_, ?_, ?_⟩ hz hTI hTO h1 h2 t1 t2 fun h2 acc c as hk2 hS hl G hacc => ?_
      any_goals (show _ < h'.objs.size; rw [hsz])
      any_goals (first | exact Nat.lt_of_lt_of_le la (Nat.le_add_right _ _) | exact Nat.lt_of_lt_of_le lb (Nat.le_add_right _ _) | exact Nat.lt_add_of_pos_right (by decide) | exact Nat.add_lt_add_left (by decide) _)
      have hk3 : ∀ b o, s1.heap.get? b = some o → h2.get? b = some o := fun b o e => by
        have := Heap.lt_size e
        exact hk2 b o (Nat.ne_of_lt (Nat.lt_of_lt_of_le this (Nat.le_add_right _ _))) (Nat.ne_of_lt (Nat.lt_of_lt_of_le this (Nat.le_add_right _ _))) (Nat.ne_of_lt this) (Nat.ne_of_lt (Nat.lt_of_lt_of_le this (Nat.le_add_right _ _))) (hk b o e)
      obtain ⟨H', k1, k2, k3, k4, k5, k6, J⟩ := pairs_laid (n := xs.length) I1 (by omega) rv rv2 rfl hxy.symm h'.objs.size (by rw [hsz]; exact Nat.le_add_right _ _) hk3 hS hl G hacc
      exact ⟨.ref _, H', J, rfl, q H' _ as k1 k2 k3 k4 k5 k6⟩
end
end DL

namespace DL
open PySem PySem.Spec PyProof.Rows L2
/-! ### list(zip(a, b)), a and b tuples of one length -/
def dLZip : D → D → Option D
  | .tup i, .tup j => if i.length = j.length ∧ i.length ≤ 100000 then some (.lst (zipD i j)) else none
  | _, _ => none
section
variable {X : Cx} {T : Tb} {W : WX} {a b : Expr} {fa fb : EC} {p p' pos pos' : Pos}
theorem repL_pairs {bb : Option Addr} {H : Hp} {P : Addr → Prop} : ∀ {ts : List Addr} {vs us : List V} {i j : List D}, RepL T bb H P vs i → RepL T bb H P us j → Paired (fun (t : Addr) (q : V × V) => H t = some (.tup [q.1, q.2])) ts (vs.zip us) → (∀ t ∈ ts, P t) → RepL T bb H P (ts.map V.ref) (zipD i j)
  | ts, [], us, i, j, h1, h2, h, _ => by
    cases h1
    rw [List.zip_nil_left] at h
    cases h
    exact .nil
  | ts, v :: vs, [], i, j, h1, h2, h, _ => by
    cases h2
    cases h1
    rw [List.zip_nil_right] at h
    cases h
    exact .nil
  | ts, v :: vs, u :: us, _, _, .cons a1 a2, .cons b1 b2, h, hp => by
    rw [List.zip_cons_cons] at h
    cases h with
    | cons q1 q2 => exact .cons (.tup (hp _ List.mem_cons_self) q1 (.cons a1 (.cons b1 .nil))) (repL_pairs a2 b2 q2 fun t ht => hp t (List.mem_cons_of_mem _ ht))
theorem pf_lzip (hK : X.K = T.K) (hc : X.calm = true) (hg : Gl X "list") (hm : X.mg "list" = none) (hg2 : Gl X "zip") (hm2 : X.mg "zip" = none) (ha : PE X a (E T W .tr fa)) (hb : PE X b (E T W .tr fb))
    (hs : starEach [a, b] X.env = (false, eval a X.env) :: starEach [b] X.env := by rfl) (hs' : starEach [b] X.env = (false, eval b X.env) :: starEach [] X.env := by rfl) (hpl : (backTo pos' (starEach [b] X.env)).any (·.1) = false := by rfl)
    (hs2 : starEach [.Call (.Name "zip" p') [a, b] [] pos'] X.env = (false, eval (.Call (.Name "zip" p') [a, b] [] pos') X.env) :: starEach [] X.env := by rfl) :
    PE X (.Call (.Name "list" p) [.Call (.Name "zip" p') [a, b] [] pos'] [] pos) (EF T W (e2 dLZip fa fb)) :=
  (pe_listZip hc hg hm hg2 hm2 (pa_cons ha (pa_cons hb pa_nil hs') hs) hs hpl hs2).mono fun σ H Q h => (ef_two h).imp fun v H1 h1 => h1.imp fun u H2 ⟨c, own, Γ, x, d, e, H0, s, g, q1, q2, r⟩ => by
    cases hz : dLZip d e with
    | none => rw [hz] at r; exact r.elim
    | some z =>
      rw [hz] at r
      cases d <;> try cases hz
      cases e <;> try cases hz
      rename_i i j
      have hz' : (if i.length = j.length ∧ i.length ≤ 100000 then some (D.lst (zipD i j)) else none) = some z := hz
      obtain ⟨⟨hl, hl2⟩, rfl⟩ := ite_some hz'
      have q1' : RepQ T c.b H2 (Pp c own) v (.tup i) := RepQ.grow g q1
      have q2' : RepQ T c.b H2 (Pp c own) u (.tup j) := q2
      obtain ⟨p, vs, rfl, h1, r1⟩ := q1'.tup
      obtain ⟨q, us, rfl, h2, r2⟩ := q2'.tup
      rw [hK]
      refine ⟨p, q, vs, us, rfl, h1, h2, by rw [r1.length, r2.length]; exact hl, fun H' t ts kp nt nts ht e1 e2 => ?_⟩
      have sm : Same H2 H' := kp
      have g' : Grow c.b H2 H' := Grow.same sm
      refine r t H' nt g' (s.bx.same sm) ⟨_, e1, ?_⟩ rfl
      have mo : ∀ {v : List V} {d : List D}, RepL T c.b H2 (Pp c own) v d → RepL T c.b H' (PN c own t) v d := fun h => h.mono (fun a o _ e => kp a o e) fun a o pa e => ⟨pa, fun z => by rw [z, nt] at e; cases e⟩
      exact repL_pairs (mo r1) (mo r2) e2 fun y hy => ⟨s.freshP (nts y hy), fun z => ht (z ▸ hy)⟩
end
end DL

namespace DL
open PySem PySem.Spec PyProof.Rows L2
/-! ### a tuple of one item times an int -/
theorem tupMul1 (l : Addr) (v : Value) (n : Nat) (dd : Option Addr) (sl : Array (Option Value)) (u : Tok) :
    Meets (Builtin.«tuple.__mul__» ⟨[.ref l, .int 1 u], []⟩) (fun _ R s => s.heap.get? l = some { cls := .type "tuple", dict := dd, data := .seq #[v] n, slots := sl } ∧ R (.ok (.ret (Value.ref l))) s) :=
  .of_wp fun prog w A R s h => by
    obtain ⟨hp, g, d, tk, os⟩ := s
    obtain ⟨hl, h⟩ := h
    have f1 := AutoSeq1.idx_int
    wp_walk using wpAny_loadPart' hl
    exact ⟨_, rfl, h⟩
theorem tupMul0 (l : Addr) (v : Value) (n : Nat) (dd : Option Addr) (sl : Array (Option Value)) (u : Tok) :
    Meets (Builtin.«tuple.__mul__» ⟨[.ref l, .int 0 u], []⟩) (fun _ R s => s.heap.get? l = some { cls := .type "tuple", dict := dd, data := .seq #[v] n, slots := sl } ∧
      R (.ok (.ret (Value.ref s.heap.objs.size))) { s with heap := s.heap.push { cls := Value.type "tuple", data := Data.seq #[] }, toks := s.toks }) :=
  .of_wp fun prog w A R s h => by
    obtain ⟨hp, g, d, tk, os⟩ := s
    obtain ⟨hl, h⟩ := h
    have f1 := AutoSeq1.idx_int
    wp_walk using wpAny_loadPart' hl
    exact ⟨_, rfl, h⟩
def rRep01 (K : PySem.W.Frag) : R2 := fun x y H Q => ∃ l k v, x = .ref l ∧ y = .int k ∧ SqT K H l [v] ∧ ((k = 1 ∧ Q (.ref l) H) ∨ (k = 0 ∧ ∀ p, H p = none → Q (.ref p) (upd H p (.tup []))))
section
variable {X : Cx}
theorem op_rep01 : OpR X (binaryOp .Mult) (rRep01 X.K) := by
  intro pins s σ H x y v u Q I rx ry h
  obtain ⟨l, k, w, rfl, rfl, hT, h⟩ := h
  cases rx
  obtain ⟨t, rfl⟩ := ry
  obtain ⟨its, r, ⟨⟨cls, dd, data, sl⟩, ho, hc, n, hd⟩, hs⟩ := I.tuple hT
  simp only at hc hd
  subst hc hd
  cases r with
  | cons r1 r2 =>
    cases r2
    rename_i v1
    rcases h with ⟨rfl, q⟩ | ⟨rfl, q⟩
    · refine wpAny_binaryOp_repeat_ref (T := "tuple") (U := "int") (by decide) ⟨_, ho, rfl⟩ (fun s' => typeIs_int s' 1 t) noFill_tuple_mul F.fills_int_mul F.slot_int_rmul repeat_tuple F.slot_int_index.lookup
        (call_meets F.slot_int_rmul (typeIs_int s 1 t) F.entry_int_rmul (F.args_int_rmul_2 _ _) (int_rmul_tuple 1 t l [v1].toArray n dd sl)
          ⟨ho, rfl, ⟨_, ho, rfl⟩, call_meets F.slot_tuple_mul ⟨_, ho, rfl⟩ F.entry_tuple_mul (F.args_tuple_mul_2 _ _) (tupMul1 l v1 n dd sl t) ⟨ho, ?_⟩⟩)
      exact ⟨.ref l, H, I, rfl, q⟩
    · refine wpAny_binaryOp_repeat_ref (T := "tuple") (U := "int") (by decide) ⟨_, ho, rfl⟩ (fun s' => typeIs_int s' 0 t) noFill_tuple_mul F.fills_int_mul F.slot_int_rmul repeat_tuple F.slot_int_index.lookup
        (call_meets F.slot_int_rmul (typeIs_int s 0 t) F.entry_int_rmul (F.args_int_rmul_2 _ _) (int_rmul_tuple 0 t l [v1].toArray n dd sl)
          ⟨ho, rfl, ⟨_, ho, rfl⟩, call_meets F.slot_tuple_mul ⟨_, ho, rfl⟩ F.entry_tuple_mul (F.args_tuple_mul_2 _ _) (tupMul0 l v1 n dd sl t) ⟨ho, ?_⟩⟩)
      refine ⟨.ref s.heap.objs.size, _, I.laid (t' := s.toks) (o := .tup []) (fun b ob q => Heap.get?_push_of_some _ q) (Nat.le_refl _) ?_, rfl, q _ (I.hok.fresh (Nat.le_refl _))⟩
      exact ⟨Nat.zero_le _, [], .nil, IsTup.new _ _⟩
def rRep1 (K : PySem.W.Frag) : R2 := fun x y H Q => rRep01 K x y H Q ∨ rRepT K x y H Q
theorem op_rep1 : OpR X (binaryOp .Mult) (rRep1 X.K) := op_rep01.or op_repT
end
/-- (d,) * k -/
def dMulT : D → D → Option D
  | .tup [d], .int k => if 0 ≤ k ∧ k ≤ 1000 then some (.tup (List.replicate k.toNat d)) else none
  | _, _ => none
theorem flat_one {α : Type} (a : α) : ∀ n : Nat, (List.replicate n [a]).flatten = List.replicate n a
  | 0 => rfl
  | n + 1 => by rw [List.replicate_succ, List.flatten_cons, flat_one a n, List.replicate_succ]; rfl
theorem repL_one {T : Tb} {b : Option Addr} {H : Hp} {P : Addr → Prop} {v : V} {d : D} (h : Rep T b H P v d) : ∀ n : Nat, RepL T b H P (List.replicate n v) (List.replicate n d)
  | 0 => .nil
  | n + 1 => .cons h (repL_one h n)
theorem opd_mulT {T : Tb} : OpD T (rRep1 T.K) dMulT := fun b H P x y dx dy dz Q hP hx hy hz k => by
  match dx, dy, hz with
  | .tup [d], .int n, hz =>
    have hz' : (if 0 ≤ n ∧ n ≤ 1000 then some (D.tup (List.replicate n.toNat d)) else none) = some dz := hz
    obtain ⟨⟨h0, h1⟩, rfl⟩ := ite_some hz'
    obtain ⟨p, vs, rfl, e1, r1⟩ := hx.tup
    rw [hy.int]
    cases r1 with
    | cons a1 a2 =>
      cases a2
      rename_i v
      by_cases hn : 2 ≤ n
      · refine .inr ⟨p, n, [v], rfl, rfl, e1, by simp, hn, h1, by simp, fun w nw => k _ _ (Same.upd' nw) (.tup (hP w nw) upd_same ?_)⟩
        rw [flat_one]
        exact (repL_one a1 n.toNat).same (Same.upd' nw)
      · rcases (by omega : n = 0 ∨ n = 1) with rfl | rfl
        · exact .inl ⟨p, 0, v, rfl, rfl, e1, .inr ⟨rfl, fun w nw => k _ _ (Same.upd' nw) (.tup (hP w nw) upd_same .nil)⟩⟩
        · refine .inl ⟨p, 1, v, rfl, rfl, e1, .inl ⟨rfl, k _ _ (Same.refl H) ?_⟩⟩
          rcases hx with hx | ⟨q, _, _, hx⟩
          · exact hx
          · exact hx.elim
end DL

namespace DL
open PySem PySem.Spec PyProof.Rows L2
/-! ### enumerate(t), t a tuple -/
theorem enumNewT (l : Addr) (xs : Array Value) :
    Meets (Builtin.«enumerate.__new__» ⟨[.type "enumerate", .ref l], []⟩) (fun _ R s => s.heap.IsTuple l xs ∧
      R (.ok (.ret (.ref (s.heap.push { cls := .type "tuple_iterator", data := .fields #[.ref l, .int 0 0] }).objs.size)))
        { s with heap := (s.heap.push { cls := .type "tuple_iterator", data := .fields #[.ref l, .int 0 0] }).push { cls := .type "enumerate", data := .fields #[.none, .bool false, .ref s.heap.objs.size, rawInt 0, .none, .none] } }) :=
  .of_wp fun prog w A R s h => by
    obtain ⟨hp, g, d, tk, os⟩ := s
    obtain ⟨hl, h⟩ := h
    have hL : Heap.IsTuple (Shared.heap ⟨hp, g, d, tk, os⟩) l xs := hl
    have hsub := sub_enumerate
    wp_walk using wpAny_pyIter_tuple hL
    refine wpAny_stack_any fun st => wpAny_pure ?_
    split
    · rename_i c _ _ _ _ _
      cases (c == Value.type "enumerate")
      · wp_walk using wpAny_pyIter_tuple hL
        exact ⟨_, rfl, h⟩
      · wp_walk using wpAny_pyIter_tuple hL
        exact ⟨_, rfl, h⟩
    · wp_walk using wpAny_pyIter_tuple hL
      exact ⟨_, rfl, h⟩
section
variable {prog : Program} {w : World} {A : Around} {E : Value → Shared → Prop} {s : Shared}
theorem call_enumT {l : Addr} {xs : Array Value} {Q : Value → Shared → Prop} (hL : s.heap.IsTuple l xs)
    (q : ∀ h', IsEnum h' (s.heap.objs.size + 1) s.heap.objs.size 0 .none → h'.IsTupleIter s.heap.objs.size l 0 → (∀ b o, s.heap.get? b = some o → h'.get? b = some o) → Q (.ref (s.heap.objs.size + 1)) { s with heap := h' }) :
    wpAny (model prog w) A (call (.type "enumerate") [.ref l]) Q E s := by
  refine callType_new F.called_enumerate (by decide) (F.typeCall_enumerate_1 _) (F.newCall_enumerate_1 _) (fun obj => F.args_object_init_2 obj _) F.entry_enumerate_new (enumNewT l xs) ⟨hL, ?_⟩
  have z1 : (s.heap.push { cls := .type "tuple_iterator", data := .fields #[.ref l, .int 0 0] }).objs.size = s.heap.objs.size + 1 := Heap.size_push ..
  have he := Heap.get?_push_size (s.heap.push { cls := .type "tuple_iterator", data := .fields #[.ref l, .int 0 0] }) (o := { cls := .type "enumerate", data := .fields #[.none, .bool false, .ref s.heap.objs.size, rawInt 0, .none, .none] }) rfl
  show _ ∧ _
  rw [z1] at he ⊢
  exact ⟨⟨_, he, rfl⟩, q _ he ⟨_, Heap.get?_push_of_some _ (Heap.get?_push_size _ rfl), rfl, rfl⟩ fun b o x => Heap.get?_push_of_some _ (Heap.get?_push_of_some _ x)⟩
end
/-- the tuple at a, each item in a new pair -/
def ItU (K : PySem.W.Frag) (a : Addr) : It :=
  ⟨fun i H => ∃ (xs : List V) (x : V), SqT K H a xs ∧ xs[i]? = some x, fun i H v H' => ∃ T x, v = .ref T ∧ H T = none ∧ H' = upd H T (.tup [.int (i : Nat), x]) ∧ ∀ xs, SqT K H a xs → xs[i]? = some x, fun i H => ∃ xs : List V, SqT K H a xs ∧ xs.length = i⟩
theorem turn_enumT {P : Program} {w : World} {K : PySem.W.Frag} {elts : List Expr} {kk : Nat} {tpos : Pos} (a e it : Addr) (hne : e ≠ it) (n1 : a ≠ e) (n2 : a ≠ it) :
    Turn P w K (.Tuple elts kk tpos) (ItU K a) [e, it] e (fun i h => (∃ old, IsEnum h e it ((i : Nat) : Int) old) ∧ h.IsTupleIter it a i) where
  mem := List.mem_cons_self
  obj := fun i h ⟨⟨old, he⟩, ⟨o, ho, hc, hd⟩⟩ b hb => by
    rcases (show b = e ∨ b = it by simpa using hb) with rfl | rfl
    · exact ⟨_, he, fun v q => nomatch q⟩
    · exact ⟨o, ho, fun v q => by rw [hd] at q; cases q⟩
  keep := fun i h h' ⟨⟨old, he⟩, hi⟩ k => ⟨⟨old, k e (by simp) _ he⟩, hi.at fun o q => k it (by simp) o q⟩
  item := by
    intro X hP hw hK hc i pins s σ H E I hf st hg
    subst hP hw hK
    obtain ⟨⟨old, he⟩, hit⟩ := st
    obtain ⟨xs, x, hq, hx⟩ := hg
    obtain ⟨its, rv, p, hz⟩ := I.tuple hq
    obtain ⟨u, hu, ru⟩ := rv.get hx
    have hel : e < s.heap.objs.size := Heap.lt_size he
    have hil : it < s.heap.objs.size := by obtain ⟨_, q, _⟩ := hit; exact Heap.lt_size q
    have hi : i < its.toArray.size := by rw [List.size_toArray]; exact (List.getElem?_eq_some_iff.mp hu).1
    refine wpAny_pyNext_enum_itemC (Draws.tuple (A := X.A.in1) (by simpa using I.ok.hd hc) it a n2 its.toArray) he ⟨hit, p⟩ hi hne (fun z => (List.mem_cons.mp z).elim hne fun y => n1 (List.mem_singleton.mp y).symm) fun x' h' tk hx' ho ⟨hit', tp'⟩ hT hsz hk => ?_
    have ex : x' = u := by
      have : its[i]? = some x' := by simpa using hx'
      rw [hu] at this
      exact (Option.some.inj this).symm
    subst ex
    refine ⟨_, rfl, wpAny_letOwnedTupleGo_enum (s := { s with heap := h', toks := tk + 1 }) ho fun h'' he' sb => ?_⟩
    have hT2 : h''.get? s.heap.objs.size = some { cls := .type "tuple", data := .seq #[.int i tk, x'] } := (sb.2 _ (Nat.ne_of_gt hel)).trans hT
    have new : ObjOk X.prog X.w (upd H s.heap.objs.size (.tup [.int (i : Nat), x])) h'' s.heap.objs.size (.tup [.int (i : Nat), x]) :=
      ⟨by show 2 ≤ sizeLine; decide, [.int i tk, x'], .cons ⟨_, rfl⟩ (.cons ru .nil), ⟨_, hT2, rfl, _, rfl⟩⟩
    have I1 : Inv X pins σ (upd H s.heap.objs.size (.tup [.int (i : Nat), x])) { s with heap := h'', toks := tk + 1 } :=
      I.turnedNew (ch := [e, it]) (fun b ob hb q => (sb.2 b (fun z => hb (by simp [z]))).trans (hk b ob (fun z => hb (by simp [z])) (fun z => hb (by simp [z])) q)) hf (Nat.le_refl _) new
    refine ⟨.ref s.heap.objs.size, _, I1, rfl, ⟨_, x, rfl, I.hok.fresh (Nat.le_refl _), rfl, fun ys hy => by rw [I.tuple_inj hy hq]; exact hx⟩, ⟨⟨x', ?_⟩, hit'.at fun o q => (sb.2 it (Ne.symm hne)).trans q⟩, fun b hb => ?_⟩
    · rw [show ((i + 1 : Nat) : Int) = (i : Int) + 1 by omega]; exact he'
    · have hb' : b < s.heap.objs.size := by
        rcases (show b = e ∨ b = it by simpa using hb) with rfl | rfl
        · exact hel
        · exact hil
      rw [upd_ne (Nat.ne_of_lt hb')]
      exact (hf b hb).1
  done := by
    intro X hP hw hK hc i pins s σ H E I hf st hg
    subst hP hw hK
    obtain ⟨⟨old, he⟩, hit⟩ := st
    obtain ⟨xs, hq, hx⟩ := hg
    obtain ⟨its, rv, p, hz⟩ := I.tuple hq
    obtain ⟨f0, f1, f2, f3, f4, f5⟩ := hf it (by simp)
    have hl := rv.length
    have hi : its.toArray.size = i := by rw [List.size_toArray]; omega
    exact wpAny_pyNext_enum_endD (Draws.tuple (A := X.A.in1) (by simpa using I.ok.hd hc) it a n2 its.toArray) he (by rw [hi]; exact ⟨hit, p⟩) fun h' eb => ⟨rfl, I.turned (t' := s.toks) (fun b o hb q => eb b o hb q) f0 f1 f3 f4 f5⟩
  self := fun A i s Q E ⟨⟨_, he⟩, _⟩ h => wpAny_pyIter_enum he h
def iEnT (K : PySem.W.Frag) (ta : TA) : TI := fun σ H R => ta σ H fun vs H1 => ∃ a xs, vs = [.ref a] ∧ ((SqL K H1 a xs ∧ R (Ite K a) H1) ∨ (SqT K H1 a xs ∧ R (ItU K a) H1))
theorem pi_enT {X : Cx} {e : Expr} {ta : TA} {p pos tpos : Pos} {elts : List Expr} {kk : Nat} (hg : Gl X "enumerate") (hm : X.mg "enumerate" = none) (ha : PA X [e] ta) (hs : starEach [e] X.env = [(false, eval e X.env)] := by rfl) :
    PI X (.Tuple elts kk tpos) (.Call (.Name "enumerate" p) [e] [] pos) (iEnT X.K ta) := by
  refine ⟨fun pins s σ H R I h => ?_⟩
  refine Call_ (ld_blt I hg hm boot_enumerate (PyProof.Rows.callWith_type1 (thn (ha.run pos pins s σ H _ I h) fun us s1 ⟨vs, H1, I1, r1, q1⟩ => ?_) hs rfl))
  obtain ⟨a, xs, rfl, q⟩ := q1
  cases r1 with
  | cons r rr =>
    cases rr
    cases r
    have fr : ∀ b, b ∈ [s1.heap.objs.size + 1, s1.heap.objs.size] → FpOk X pins H1 b := fun b hb => by
      have hle : s1.heap.objs.size ≤ b := by
        rcases (show b = s1.heap.objs.size + 1 ∨ b = s1.heap.objs.size by simpa using hb) with z | z
        · rw [z]; exact Nat.le_add_right _ _
        · rw [z]; exact Nat.le_refl _
      exact I1.fpOk hle (I1.hok.fresh hle)
    rcases q with ⟨hq, q⟩ | ⟨hq, q⟩
    · obtain ⟨its, rv, p', hz⟩ := I1.list hq
      refine call_enumerate_list p'.isList fun h' he hit hsz hk => wpAny_pyIter_enum he ?_
      have I2 : Inv X pins σ H1 { s1 with heap := h' } := I1.kept (t' := s1.toks) hk
      exact ⟨s1.heap.objs.size + 1, [s1.heap.objs.size + 1, s1.heap.objs.size], _, _, H1, rfl, I2, turn_enum a (s1.heap.objs.size + 1) s1.heap.objs.size, ⟨⟨.none, he⟩, hit, Nat.succ_ne_self _⟩, fr, q⟩
    · obtain ⟨its, rv, p', hz⟩ := I1.tuple hq
      have la : a < s1.heap.objs.size := by obtain ⟨o, ho, _⟩ := p'; exact Heap.lt_size ho
      refine call_enumT (show s1.heap.IsTuple a its.toArray from p') fun h' he hit hk => wpAny_pyIter_enum he ?_
      have I2 : Inv X pins σ H1 { s1 with heap := h' } := I1.kept (t' := s1.toks) hk
      exact ⟨s1.heap.objs.size + 1, [s1.heap.objs.size + 1, s1.heap.objs.size], _, _, H1, rfl, I2, turn_enumT a (s1.heap.objs.size + 1) s1.heap.objs.size (Nat.succ_ne_self _) (Nat.ne_of_lt (Nat.lt_succ_of_lt la)) (Nat.ne_of_lt la), ⟨⟨.none, he⟩, hit⟩, fr, q⟩
section
variable {T : Tb} {W : WX} {c : Cf} {own : Ow} {H : Hp} {vs : List V} {ds : List D} {X : Cx} {e : Expr} {f : EC} {p pos : Pos}
theorem irep_enumT {q : Addr} (h : (H q = some (.tup vs) ∧ Pp c own q) ∨ KTup T.K q vs) (r : RepL T c.b H (Pp c own) vs ds) : IRep T c own H (ItU T.K q) (enumD ds) := fun P' H' k => by
  have h1 : SqT T.K H' q vs := h.elim (fun ⟨h, pq⟩ => .inl (.inl (k.k1 q _ pq h))) .inr
  have r1 := r.mono k.k1 k.k2
  refine ⟨fun i d e => ?_, ⟨vs, h1, by unfold enumD; rw [r.length]; simp⟩⟩
  unfold enumD at e
  rw [List.getElem?_map] at e
  by_cases hi : i < ds.length
  · rw [List.getElem?_range hi] at e
    cases e
    obtain ⟨v, ev, rv⟩ := r1.get (List.getElem?_eq_getElem hi)
    refine ⟨⟨vs, v, h1, ev⟩, fun x H2 ⟨t, z, e1, e2, e3, hy⟩ => ?_⟩
    subst e1 e3
    have e4 := hy vs h1
    rw [ev] at e4
    cases e4
    refine ⟨Same.upd' e2, .tup (k.k4 t e2) upd_same (.cons (.int _) (.cons ?_ .nil))⟩
    rw [List.getD_eq_getElem?_getD, List.getElem?_eq_getElem hi]
    exact rv.same (Same.upd' e2)
  · rw [List.getElem?_eq_none (by simpa using hi)] at e
    cases e
def sqD : D → Option (List D)
  | .lst ds => some ds
  | .tup ds => some ds
  | _ => none
def iEnumU (f : EC) : AC := fun Γ => bnd (f Γ) fun d => opt ((sqD d).map enumD)
theorem pi_denumU {tpos : Pos} {elts : List Expr} {kk : Nat} (hK : X.K = T.K) (hg : Gl X "enumerate") (hm : X.mg "enumerate" = none) (ha : PE X e (EI T W f)) (hs : starEach [e] X.env = [(false, eval e X.env)] := by rfl) :
    PI X (.Tuple elts kk tpos) (.Call (.Name "enumerate" p) [e] [] pos) (IT T W (iEnumU f)) := (pi_enT hg hm (pa_i1 ha hs) hs).mono fun σ H Q ⟨c, own, Γ, x, s, r⟩ => ⟨c, own, Γ, x, s, by
  rw [hK]
  cases hf : f Γ x with
  | no => rw [show iEnumU f Γ x = _ from bnd_no hf] at r; exact r
  | er e x1 => rw [show iEnumU f Γ x = _ from bnd_er hf] at r; exact r
  | ok d x1 =>
    rw [show iEnumU f Γ x = _ from bnd_ok hf] at r
    refine fun v H1 g bx q => ?_
    replace r := r.at g
    cases d with
    | lst ds =>
      rcases q with q | ⟨_, p, e, n1, n2, vs, h1, h2⟩
      · cases q with
        | lst h1 h2 h3 => exact ⟨_, _, rfl, .inl ⟨.inl (.inl h2), r _ H1 Grow.refl bx (irep_enum h2 h1.2.2 h1.2.1 h3)⟩⟩
      · subst e
        exact ⟨_, _, rfl, .inl ⟨.inl (.inl h1), r _ H1 Grow.refl bx (irep_enum h1 n2 n1 h2)⟩⟩
    | tup ds =>
      rcases q with q | ⟨_, p, _, _, _, hl⟩
      · cases q with
        | tup h1 h2 h3 => exact ⟨_, _, rfl, .inr ⟨.inl (.inl h2), r _ H1 Grow.refl bx (irep_enumT (.inl ⟨h2, h1⟩) h3)⟩⟩
        | tupK h1 h2 => exact ⟨_, _, rfl, .inr ⟨.inr h1, r _ H1 Grow.refl bx (irep_enumT (.inr h1) h2)⟩⟩
      · exact hl.elim
    | _ => exact r.elim⟩
@[simp] theorem q_enumU {Γ : Gm} {x : Bx} : iEnumU f Γ x = bR (f Γ x) fun a y => oR ((sqD a).map enumD) y := by
  show bnd _ _ x = _
  simp only [bnd_bR, opt_oR]
@[simp] theorem s_sqL : sqD (.lst ds) = some ds := rfl
@[simp] theorem s_sqT : sqD (.tup ds) = some ds := rfl
end
end DL

namespace DL
open PySem PySem.Spec PyProof.Rows L2
/-! ### tables of names and numbers -/
abbrev Tab := List (Str × Int)
def look (t : Tab) (k : Str) : Option Int := (t.find? fun p => decide (p.1 = k)).map (·.2)
def at0 (t : Tab) (k : Str) : Int := (look t k).getD 0
def put (t : Tab) (k : Str) (n : Int) : Tab := if (t.any fun p => decide (p.1 = k)) = true then t.map (fun p => if p.1 = k then (p.1, n) else p) else t ++ [(k, n)]
def ks (t : Tab) : List Str := t.map (·.1)
def dT (t : Tab) : List (Key × D) := t.map fun p => (.inr p.1, .int p.2)
def prs (t : Tab) : List D := t.map fun p => .tup [.str p.1, .int p.2]
@[simp] theorem look_nil (k : Str) : look [] k = none := rfl
theorem look_cons (p : Str × Int) (r : Tab) (k : Str) : look (p :: r) k = if p.1 = k then some p.2 else look r k := by
  unfold look
  rw [List.find?_cons]
  by_cases h : p.1 = k <;> simp [h]
theorem dT_val (t : Tab) (k : Str) : valD (dT t) (.inr k) = (look t k).map D.int := by
  induction t with
  | nil => rfl
  | cons p r ih =>
    rw [look_cons]
    by_cases h : p.1 = k
    · rw [if_pos h]
      exact valD_pos (p := (.inr p.1, D.int p.2)) (congrArg Sum.inr h)
    · rw [if_neg h, ← ih]
      exact valD_neg (p := (.inr p.1, D.int p.2)) (fun e => h (Sum.inr.inj e))
theorem dT_any (t : Tab) (k : Str) : ((dT t).any fun kv => decide (kv.1 = Sum.inr k)) = t.any fun p => decide (p.1 = k) := by
  induction t with
  | nil => rfl
  | cons p r ih =>
    show (decide ((Sum.inr p.1 : Key) = Sum.inr k) || (dT r).any _) = (decide (p.1 = k) || r.any _)
    rw [ih]
    congr 1
    simp
theorem dT_put (t : Tab) (k : Str) (n : Int) : putKD (dT t) (.inr k) (.int n) = dT (put t k n) := by
  unfold putKD put
  rw [dT_any]
  by_cases h : (t.any fun p => decide (p.1 = k)) = true
  · rw [if_pos h, if_pos h]
    unfold dT
    rw [List.map_map, List.map_map]
    apply List.map_congr_left
    intro p _
    by_cases e : p.1 = k <;> simp [e]
  · rw [if_neg h, if_neg h]
    unfold dT
    simp
theorem dT_len (t : Tab) : (dT t).length = t.length := by unfold dT; simp
theorem dT_keys (t : Tab) : keysD (dT t) = some (ks t) := by
  induction t with
  | nil => rfl
  | cons p r ih =>
    show (keysD (dT r)).map _ = _
    rw [ih]
    rfl
theorem prs_pairs (t : Tab) : pairsK (prs t) = some (dT t) := by
  induction t with
  | nil => rfl
  | cons p r ih =>
    show (some ((Sum.inr p.1 : Key), D.int p.2)).bind (fun q => (pairsK (prs r)).map fun ps => q :: ps) = _
    rw [ih]
    rfl
theorem any_look (t : Tab) (k : Str) : (t.any fun p => decide (p.1 = k)) = (look t k).isSome := by
  induction t with
  | nil => rfl
  | cons p r ih =>
    rw [look_cons, List.any_cons, ih]
    by_cases h : p.1 = k <;> simp [h]
theorem look_put (t : Tab) (k j : Str) (n : Int) : look (put t k n) j = if j = k then some n else look t j := by
  unfold put
  by_cases h : (t.any fun p => decide (p.1 = k)) = true
  · rw [if_pos h]
    induction t with
    | nil => simp at h
    | cons p r ih =>
      rw [List.map_cons, look_cons, look_cons]
      by_cases e : p.1 = k
      · rw [if_pos e]
        dsimp only
        by_cases ej : j = k
        · rw [if_pos ej, if_pos (by rw [e, ej])]
        · rw [if_neg ej]
          have hne : ¬ p.1 = j := fun z => ej (by rw [← z, e])
          rw [if_neg hne, if_neg hne]
          by_cases h2 : (r.any fun p => decide (p.1 = k)) = true
          · rw [ih h2, if_neg ej]
          · have : (r.map fun p => if p.1 = k then (p.1, n) else p) = r := by
              conv => rhs; rw [← List.map_id r]
              apply List.map_congr_left
              intro q hq
              rw [if_neg (fun z => h2 (List.any_eq_true.mpr ⟨q, hq, by simpa using z⟩))]
              rfl
            rw [this]
      · rw [if_neg e]
        have h2 : (r.any fun p => decide (p.1 = k)) = true := by simpa [e] using h
        by_cases ej : p.1 = j
        · rw [if_pos ej, if_pos ej, if_neg (fun z => e (by rw [ej, z]))]
        · rw [if_neg ej, if_neg ej, ih h2]
  · rw [if_neg h]
    rw [any_look] at h
    induction t with
    | nil =>
      rw [List.nil_append, look_cons]
      by_cases ej : j = k
      · rw [if_pos ej, if_pos ej.symm]
      · rw [if_neg ej, if_neg (fun z => ej z.symm)]
    | cons p r ih =>
      rw [look_cons] at h
      have e : ¬ p.1 = k := fun z => h (by rw [if_pos z]; rfl)
      rw [if_neg e] at h
      rw [List.cons_append, look_cons, look_cons, ih h]
      by_cases ej : p.1 = j
      · rw [if_pos ej, if_pos ej, if_neg (fun z => e (by rw [ej, z]))]
      · rw [if_neg ej, if_neg ej]
theorem at0_put (t : Tab) (k j : Str) (n : Int) : at0 (put t k n) j = if j = k then n else at0 t j := by
  unfold at0
  rw [look_put]
  split <;> rfl
theorem mem_ks {t : Tab} {k : Str} : k ∈ ks t ↔ (look t k).isSome = true := by
  rw [← any_look]
  unfold ks
  simp [List.any_eq_true]
theorem ks_put (t : Tab) (k : Str) (n : Int) : ks (put t k n) = if (look t k).isSome = true then ks t else ks t ++ [k] := by
  unfold put
  rw [any_look]
  by_cases h : (look t k).isSome = true
  · rw [if_pos h, if_pos h]
    unfold ks
    rw [List.map_map]
    apply List.map_congr_left
    intro p _
    by_cases e : p.1 = k <;> simp [e]
  · rw [if_neg h, if_neg h]
    unfold ks
    simp
theorem nd_put {t : Tab} (h : (ks t).Nodup) (k : Str) (n : Int) : (ks (put t k n)).Nodup := by
  rw [ks_put]
  by_cases e : (look t k).isSome = true
  · rw [if_pos e]; exact h
  · rw [if_neg e]
    refine List.nodup_append.mpr ⟨h, by simp, fun a ha b hb => ?_⟩
    rintro rfl
    have : a = k := by simpa using hb
    subst this
    exact e (mem_ks.mp ha)
def mergeT (t u : Tab) : Tab := u.foldl (fun acc p => put acc p.1 p.2) t
theorem dT_merge (t u : Tab) : mergeD (dT t) (dT u) = dT (mergeT t u) := by
  induction u generalizing t with
  | nil => rfl
  | cons p r ih =>
    show mergeD (putKD (dT t) (.inr p.1) (.int p.2)) (dT r) = dT (mergeT (put t p.1 p.2) r)
    rw [dT_put, ih]
theorem merge_new : ∀ (u t : Tab), (ks t ++ ks u).Nodup → mergeT t u = t ++ u
  | [], t, _ => by simp [mergeT]
  | p :: r, t, h => by
    have hp : (look t p.1).isSome ≠ true := fun z => by
      have h1 := mem_ks.mpr z
      have h2 := (List.nodup_append.mp h).2.2 p.1 h1 p.1 (by simp [ks])
      exact h2 rfl
    have e : put t p.1 p.2 = t ++ [p] := by
      unfold put
      rw [any_look, if_neg hp]
    show mergeT (put t p.1 p.2) r = _
    rw [e, merge_new r (t ++ [p]) (by simpa [ks] using h)]
    simp
theorem merge_nd {u : Tab} (h : (ks u).Nodup) : mergeT [] u = u := by rw [merge_new u [] (by simpa [ks] using h)]; rfl
theorem nd_merge : ∀ (u : Tab) {t : Tab}, (ks t).Nodup → (ks (mergeT t u)).Nodup
  | [], t, h => h
  | p :: r, t, h => nd_merge r (nd_put h p.1 p.2)
theorem ks_merge : ∀ (u : Tab) {t : Tab} {k : Str}, k ∈ ks (mergeT t u) ↔ k ∈ ks t ∨ k ∈ ks u
  | [], t, k => by simp [mergeT, ks]
  | p :: r, t, k => by
    show k ∈ ks (mergeT (put t p.1 p.2) r) ↔ _
    rw [ks_merge r, ks_put]
    by_cases e : (look t p.1).isSome = true
    · rw [if_pos e]
      have h1 := mem_ks.mpr e
      constructor
      · rintro (h | h)
        · exact .inl h
        · exact .inr (List.mem_cons_of_mem _ h)
      · rintro (h | h)
        · exact .inl h
        · rcases List.mem_cons.mp h with rfl | h
          · exact .inl h1
          · exact .inr h
    · rw [if_neg e]
      simp [ks]
      constructor
      · rintro ((h | h) | h)
        · exact .inl h
        · exact .inr (.inl h)
        · exact .inr (.inr h)
      · rintro (h | h | h)
        · exact .inl (.inl h)
        · exact .inl (.inr h)
        · exact .inr h
/-- a table made by a function of its keys -/
theorem look_merge_fn {f : Str → Int} : ∀ (l : List Str) (t : Tab) (k : Str), look (mergeT t (l.map fun k => (k, f k))) k = if k ∈ l then some (f k) else look t k
  | [], t, k => by simp [mergeT]
  | a :: r, t, k => by
    show look (mergeT (put t a (f a)) (r.map fun k => (k, f k))) k = _
    rw [look_merge_fn r, look_put]
    by_cases h : k ∈ r
    · simp [h]
    · by_cases e : k = a
      · simp [e]
      · simp [h, e]
/-! sorted tables of positive numbers -/
def Srt (l : List Str) : Prop := l.Pairwise fun a b => ltS a b = true
structure Can (m : Tab) : Prop where
  srt : Srt (ks m)
  pos : ∀ p ∈ m, 0 < p.2
theorem ltS_irr (a : Str) : ltS a a = false := by
  cases h : ltS a a with
  | false => rfl
  | true => have := tot_S.asym a a h; rw [h] at this; cases this
theorem Srt.nd {l : List Str} (h : Srt l) : l.Nodup := h.imp fun {a b} hab e => by subst e; rw [ltS_irr] at hab; cases hab
theorem srt_ext : ∀ {l l' : List Str}, Srt l → Srt l' → (∀ k, k ∈ l ↔ k ∈ l') → l = l'
  | [], [], _, _, _ => rfl
  | [], b :: s, _, _, h => by have := (h b).mpr List.mem_cons_self; cases this
  | a :: r, [], _, _, h => by have := (h a).mp List.mem_cons_self; cases this
  | a :: r, b :: s, h1, h2, h => by
    obtain ⟨p1, p2⟩ := List.pairwise_cons.mp h1
    obtain ⟨q1, q2⟩ := List.pairwise_cons.mp h2
    have e : a = b := by
      rcases List.mem_cons.mp ((h a).mp List.mem_cons_self) with e | ha
      · exact e
      · rcases List.mem_cons.mp ((h b).mpr List.mem_cons_self) with e | hb
        · exact e.symm
        · have h3 := q1 a ha
          have h4 := p1 b hb
          rw [tot_S.asym _ _ h4] at h3
          cases h3
    subst e
    congr 1
    refine srt_ext p2 q2 fun k => ⟨fun hk => ?_, fun hk => ?_⟩
    · rcases List.mem_cons.mp ((h k).mp (List.mem_cons_of_mem _ hk)) with e | z
      · subst e; have h3 := p1 k hk; rw [ltS_irr] at h3; cases h3
      · exact z
    · rcases List.mem_cons.mp ((h k).mpr (List.mem_cons_of_mem _ hk)) with e | z
      · subst e; have h3 := q1 k hk; rw [ltS_irr] at h3; cases h3
      · exact z
theorem look_mem {t : Tab} (h : (ks t).Nodup) {p : Str × Int} (hp : p ∈ t) : look t p.1 = some p.2 := by
  induction t with
  | nil => cases hp
  | cons q r ih =>
    rw [look_cons]
    obtain ⟨h1, h2⟩ := List.nodup_cons.mp (show (q.1 :: ks r).Nodup from h)
    rcases List.mem_cons.mp hp with rfl | hp
    · rw [if_pos rfl]
    · rw [if_neg (fun e => h1 (by rw [e]; exact List.mem_map_of_mem hp)), ih h2 hp]
theorem tab_fn {t : Tab} (h : (ks t).Nodup) : t = (ks t).map fun k => (k, at0 t k) := by
  unfold ks
  rw [List.map_map]
  conv => lhs; rw [← List.map_id t]
  apply List.map_congr_left
  intro p hp
  show p = (p.1, at0 t p.1)
  unfold at0
  rw [look_mem h hp]
  rfl
theorem Can.mem {m : Tab} (c : Can m) {k : Str} : k ∈ ks m ↔ 0 < at0 m k := by
  constructor
  · intro h
    obtain ⟨p, hp, rfl⟩ := List.mem_map.mp h
    unfold at0
    rw [look_mem c.srt.nd hp]
    exact c.pos p hp
  · intro h
    rw [mem_ks]
    unfold at0 at h
    cases e : look m k with
    | none => rw [e] at h; cases h
    | some n => rfl
theorem can_ext {m m' : Tab} (c : Can m) (c' : Can m') (h : ∀ k, at0 m k = at0 m' k) : m = m' := by
  have e : ks m = ks m' := srt_ext c.srt c'.srt fun k => by rw [c.mem, c'.mem, h]
  rw [tab_fn c.srt.nd, tab_fn c'.srt.nd, e]
  apply List.map_congr_left
  intro k _
  rw [h]
theorem isort_srt {l : List Str} (h : l.Nodup) : Srt (isort ltS l) := by
  have h1 := isort_sorted tot_S l
  have h2 : (isort ltS l).Nodup := (isort_perm ltS l).nodup_iff.mpr h
  refine (h1.and h2).imp fun {a b} ⟨p, q⟩ => ?_
  cases e : ltS a b with
  | true => rfl
  | false => exact absurd (tot_S.anti a b e p) q
/-- the positive numbers of a table, sorted by name -/
def canon (t : Tab) : Tab := ((isort ltS (ks t)).filter fun k => decide (0 < at0 t k)).map fun k => (k, at0 t k)
theorem canon_can {t : Tab} (h : (ks t).Nodup) : Can (canon t) := by
  refine ⟨?_, fun p hp => ?_⟩
  · unfold canon ks
    rw [List.map_map]
    show Srt (List.map (fun k => k) _)
    rw [List.map_id']
    exact (isort_srt h).filter _
  · unfold canon at hp
    obtain ⟨k, hk, rfl⟩ := List.mem_map.mp hp
    have := (List.mem_filter.mp hk).2
    simpa using this
theorem look_map (f : Str → Int) : ∀ (l : List Str) (k : Str), look (l.map fun k => (k, f k)) k = if k ∈ l then some (f k) else none
  | [], k => by simp
  | a :: r, k => by
    rw [List.map_cons, look_cons, look_map f r]
    by_cases e : a = k
    · subst e; simp
    · have e' : ¬ k = a := fun z => e z.symm
      simp [e, e']
theorem canon_at {t : Tab} (k : Str) : at0 (canon t) k = if 0 < at0 t k then at0 t k else 0 := by
  show (look (canon t) k).getD 0 = _
  unfold canon
  rw [look_map]
  by_cases h : 0 < at0 t k
  · rw [if_pos h]
    have hm : k ∈ ks t := by
      rw [mem_ks]
      unfold at0 at h
      cases e : look t k with
      | none => rw [e] at h; cases h
      | some n => rfl
    rw [if_pos (List.mem_filter.mpr ⟨(isort_perm ltS _).mem_iff.mpr hm, by simpa using h⟩)]
    rfl
  · rw [if_neg h, if_neg (fun z => h (by simpa using (List.mem_filter.mp z).2))]
    rfl
theorem canon_len (t : Tab) : (canon t).length ≤ t.length := by
  unfold canon
  rw [List.length_map]
  refine Nat.le_trans (List.length_filter_le _ _) ?_
  rw [(isort_perm ltS _).length_eq]
  unfold ks
  rw [List.length_map]
  exact Nat.le_refl _
/-- the sum of what stands at a name -/
def tot : Tab → Str → Int
  | [], _ => 0
  | p :: r, k => (if p.1 = k then p.2 else 0) + tot r k
theorem tot_cons (p : Str × Int) (r : Tab) (k : Str) : tot (p :: r) k = (if p.1 = k then p.2 else 0) + tot r k := rfl
def accum (t : Tab) (ps : Tab) : Tab := ps.foldl (fun t p => put t p.1 (at0 t p.1 + p.2)) t
theorem accum_at : ∀ (ps t : Tab) (k : Str), at0 (accum t ps) k = at0 t k + tot ps k
  | [], t, k => by simp [accum, tot]
  | p :: r, t, k => by
    show at0 (accum (put t p.1 (at0 t p.1 + p.2)) r) k = _
    rw [accum_at r, at0_put]
    rw [tot_cons]
    by_cases e : k = p.1
    · subst e; simp; omega
    · rw [if_neg e, if_neg (fun z => e z.symm)]; omega
theorem nd_accum : ∀ (ps : Tab) {t : Tab}, (ks t).Nodup → (ks (accum t ps)).Nodup
  | [], t, h => h
  | p :: r, t, h => nd_accum r (nd_put h _ _)
theorem accum_len : ∀ (ps : Tab) {t : Tab}, (accum t ps).length ≤ t.length + ps.length
  | [], t => Nat.le_refl _
  | p :: r, t => by
    have h1 := accum_len r (t := put t p.1 (at0 t p.1 + p.2))
    have h2 : (put t p.1 (at0 t p.1 + p.2)).length ≤ t.length + 1 := by
      unfold put
      split <;> simp
    show (accum (put t p.1 (at0 t p.1 + p.2)) r).length ≤ _
    rw [List.length_cons]
    omega
theorem tot_app : ∀ (ps qs : Tab) (k : Str), tot (ps ++ qs) k = tot ps k + tot qs k
  | [], qs, k => by simp [tot]
  | p :: r, qs, k => by
    rw [List.cons_append, tot_cons, tot_cons]
    rw [tot_app r qs k]
    omega
theorem tot_perm {ps qs : Tab} (h : ps.Perm qs) (k : Str) : tot ps k = tot qs k := by
  induction h with
  | nil => rfl
  | cons p _ ih => rw [tot_cons, tot_cons, ih]
  | swap p q r => rw [tot_cons, tot_cons, tot_cons, tot_cons]; omega
  | trans _ _ h1 h2 => rw [h1, h2]
theorem tot_none : ∀ (ps : Tab) (k : Str), k ∉ ks ps → tot ps k = 0
  | [], k, _ => rfl
  | p :: r, k, h => by
    rw [tot_cons, tot_none r k (fun z => h (List.mem_cons_of_mem _ z)), if_neg (fun e => h (by rw [← e]; exact List.mem_cons_self))]
    rfl
theorem tot_nd : ∀ (ps : Tab) (k : Str), (ks ps).Nodup → tot ps k = at0 ps k
  | [], k, _ => rfl
  | p :: r, k, h => by
    obtain ⟨h1, h2⟩ := List.nodup_cons.mp (show (p.1 :: ks r).Nodup from h)
    unfold at0
    rw [tot_cons, look_cons]
    by_cases e : p.1 = k
    · subst e
      rw [if_pos rfl, if_pos rfl, tot_none r _ h1]
      simp
    · rw [if_neg e, if_neg e, tot_nd r k h2]
      unfold at0
      omega
/-- what a Bag of these pairs holds -/
def bag (ps : Tab) : Tab := canon (accum [] ps)
theorem bag_can (ps : Tab) : Can (bag ps) := canon_can (nd_accum ps (by simp [ks]))
theorem bag_at (ps : Tab) (k : Str) : at0 (bag ps) k = if 0 < tot ps k then tot ps k else 0 := by
  unfold bag
  rw [canon_at, accum_at]
  simp [at0]
theorem bag_len (ps : Tab) : (bag ps).length ≤ ps.length := Nat.le_trans (canon_len _) (by have := accum_len ps (t := []); simpa using this)
/-! pairs as data -/
def prP (t : Tab) : List PyData := t.map fun p => .tuple [.str p.1, .int p.2]
theorem prs_py (t : Tab) : toPys (prs t) = some (prP t) := by
  induction t with
  | nil => rfl
  | cons p r ih =>
    show (toPy (.tup [.str p.1, .int p.2])).bind (fun q => (toPys (prs r)).map (q :: ·)) = _
    rw [ih]
    rfl
theorem prP_lay (t : Tab) (h : ∀ p ∈ t, PyData.strOk p.1 = true) : PyData.canLayAll0 (prP t) = true := by
  induction t with
  | nil => simp only [prP, List.map_nil, PyData.canLayAll0]
  | cons p r ih =>
    show PyData.canLayAll0 (.tuple [.str p.1, .int p.2] :: prP r) = true
    simp only [PyData.canLayAll0, PyData.canLay0, ih fun q hq => h q (List.mem_cons_of_mem _ hq), h p List.mem_cons_self, Bool.and_self]
theorem prP_depth (t : Tab) : PyData.depthAll (prP t) ≤ 1 := by
  induction t with
  | nil => simp only [prP, List.map_nil, PyData.depthAll]; omega
  | cons p r ih =>
    show PyData.depthAll (.tuple [.str p.1, .int p.2] :: prP r) ≤ 1
    simp only [PyData.depthAll, PyData.depth]
    omega
theorem prs_shaped (t : Tab) (hs : ∀ p ∈ t, PyData.strOk p.1 = true) : SeqAt.shaped (.tuple (prP t)) = true := by
  have h := prP_depth t
  unfold SeqAt.shaped
  simp only [PyData.canLay0, PyData.depth, prP_lay t hs]
  simp
  omega
theorem prs_eq (f : Bool → Bool) (t : Tab) (hs : ∀ p ∈ t, PyData.strOk p.1 = true) : dEqU f (.tup (prs t)) (.tup (prs t)) = some (.bl (f true)) := by
  show dEqB f _ _ = _
  refine eq_self (p := .tuple (prP t)) f ?_ (prs_shaped t hs) ?_
  · show (toPys (prs t)).map _ = _
    rw [prs_py]
    rfl
  · simp only [PyData.canLay0, prP_lay t hs]
end DL

namespace DL
open PySem PySem.Spec PyProof.Rows L2
/-! ### the run by simp: more -/
section
variable {x : Bx} {Γ : Gm} {f fa fb : EC} {i : Nat} {cs : List (Nat × Bool × EC)}
@[simp] theorem q_par0 : parE [] Γ x = .ok ([], Γ) x := rfl
@[simp] theorem q_parF {k : Bool} : parE ((i, k, f) :: cs) Γ x = if i < Γ.length then bR (f Γ x) fun d y => bR (parE cs (Γ.set i .no) y) fun r z => .ok ((i, slOf k d) :: r.1, r.2) z else .no := by
  show (if i < Γ.length then _ else _ : M _) x = _
  rw [ite_app]
  simp only [bnd_bR, M.pure, M.no]
@[simp] theorem q_slF {d : D} : slOf false d = .sh d := rfl
@[simp] theorem q_slT {d : D} : slOf true d = .ow d := rfl
def psR (Γ : Gm) : R (List (Nat × Sl) × Gm) → SR
  | .ok r x' => .nx (putAll r.2 r.1) x'
  | .er e x' => .er e (List.replicate Γ.length .no) x'
  | .no => .no
@[simp] theorem q_spar : sPar cs Γ x = psR Γ (parE cs Γ x) := rfl
@[simp] theorem q_ps {l : List (Nat × Sl)} {Γ' : Gm} : psR Γ (.ok (l, Γ') x) = .nx (putAll Γ' l) x := rfl
@[simp] theorem q_put0 : putAll Γ [] = Γ := rfl
@[simp] theorem q_put1 {s : Sl} {l : List (Nat × Sl)} : putAll Γ ((i, s) :: l) = putAll (Γ.set i s) l := rfl
end
section
variable {cs : List (Str × (List Ar → M D))} {g : D → D → Option D} {x : Bx}
@[simp] theorem o_int {i j : Int} : opO cs g (.int i) (.int j) x = oR (g (.int i) (.int j)) x := opt_oR
@[simp] theorem o_lst {i j : List D} : opO cs g (.lst i) (.lst j) x = oR (g (.lst i) (.lst j)) x := opt_oR
@[simp] theorem o_tup {i j : List D} : opO cs g (.tup i) (.tup j) x = oR (g (.tup i) (.tup j)) x := opt_oR
@[simp] theorem o_str {i j : Str} : opO cs g (.str i) (.str j) x = oR (g (.str i) (.str j)) x := opt_oR
@[simp] theorem m_ints {cs : List (Str × (List Ar → M D) × (List Ar → M D))} {i j : Int} : mulO cs g (.int i) (.int j) x = oR (g (.int i) (.int j)) x := rfl
end
theorem dAddT {a b : List D} (h : a.length + b.length ≤ 100000) : dAdd (.tup a) (.tup b) = some (.tup (a ++ b)) := if_pos h
theorem dAddL {a b : List D} (h : a.length + b.length ≤ 100000) : dAdd (.lst a) (.lst b) = some (.lst (a ++ b)) := if_pos h
theorem mulT_ok {d : D} {k : Int} (h : 0 ≤ k ∧ k ≤ 1000) : dMulT (.tup [d]) (.int k) = some (.tup (List.replicate k.toNat d)) := if_pos h
theorem mulL_ok {d : D} {k : Int} (h0 : 0 ≤ k) (h1 : k ≤ 1000) : dMul (.lst [d]) (.int k) = some (.lst (List.replicate k.toNat d)) := by
  show (if _ then _ else _) = _
  rw [if_pos ⟨by omega, by omega, by simp; omega⟩, flat_one]
@[simp] theorem s_max (i j : Int) : dMax [.int i, .int j] = some (.int (if j > i then j else i)) := rfl
theorem lzip_ok {a b : List D} (h : a.length = b.length) (h2 : a.length ≤ 100000) : dLZip (.tup a) (.tup b) = some (.lst (zipD a b)) := if_pos ⟨h, h2⟩
@[simp] theorem s_zipL (a b : List D) : dZip (.lst a, .lst b) = some (zipD a b) := rfl
@[simp] theorem s_zipT (a b : List D) : dZip (.tup a, .tup b) = some (zipD a b) := rfl
theorem zipD_ints (r s : List Int) : zipD (r.map D.int) (s.map D.int) = (r.zip s).map fun p => .tup [.int p.1, .int p.2] := by
  unfold zipD
  rw [List.zip_map, List.map_map]
  rfl
end DL

namespace LW
open PySem PySem.Spec PyProof.Rows L2 DL
abbrev topS (i : Nat) : Stmt := (PySem.Challenge.pw_toldlate_k22_hands_reckoned.main.body)[i]?.getD (.Pass ⟨0, 0, 0, 0⟩)
def clsB : Stmt → List Stmt
  | .ClassDef (body := b) .. => b
  | _ => []
abbrev inC (i j : Nat) : Stmt := (clsB (topS i))[j]?.getD (.Pass ⟨0, 0, 0, 0⟩)
abbrev WT (E : XK) : WX := fun cls d _ H => E cls d H
def clsOf (ad : Nat → Addr) : Str → Option Addr := fun c => if c = (PySem.Str.ofString "LateError") then some (ad 1) else if c = (PySem.Str.ofString "BelowZero") then some (ad 2) else if c = (PySem.Str.ofString "BadLine") then some (ad 3) else if c = (PySem.Str.ofString "Hands") then some (ad 9) else none
abbrev TT (K : PySem.W.Frag) (ad : Nat → Addr) : Tb := ⟨K, clsOf ad⟩
def is_Hands : List (CT × Bool) := [(.bi "NoneType", false), (.bi "bool", false), (.bi "int", false), (.bi "str", false), (.bi "list", false), (.bi "tuple", false), (.xc (PySem.Str.ofString "BelowZero"), false), (.xc (PySem.Str.ofString "BadLine"), false), (.ow (PySem.Str.ofString "Hands"), true)]
def is_bool : List (CT × Bool) := [(.bi "NoneType", false), (.bi "bool", true), (.bi "int", false), (.bi "str", false), (.bi "list", false), (.bi "tuple", false), (.xc (PySem.Str.ofString "BelowZero"), false), (.xc (PySem.Str.ofString "BadLine"), false), (.ow (PySem.Str.ofString "Hands"), false)]
def is_int : List (CT × Bool) := [(.bi "NoneType", false), (.bi "bool", true), (.bi "int", true), (.bi "str", false), (.bi "list", false), (.bi "tuple", false), (.xc (PySem.Str.ofString "BelowZero"), false), (.xc (PySem.Str.ofString "BadLine"), false), (.ow (PySem.Str.ofString "Hands"), false)]
def is_list : List (CT × Bool) := [(.bi "NoneType", false), (.bi "bool", false), (.bi "int", false), (.bi "str", false), (.bi "list", true), (.bi "tuple", false), (.xc (PySem.Str.ofString "BelowZero"), false), (.xc (PySem.Str.ofString "BadLine"), false), (.ow (PySem.Str.ofString "Hands"), false)]
def is_tuple : List (CT × Bool) := [(.bi "NoneType", false), (.bi "bool", false), (.bi "int", false), (.bi "str", false), (.bi "list", false), (.bi "tuple", true), (.xc (PySem.Str.ofString "BelowZero"), false), (.xc (PySem.Str.ofString "BadLine"), false), (.ow (PySem.Str.ofString "Hands"), false)]
def it_bool_str : List (CT × Bool) := [(.bi "NoneType", false), (.bi "bool", true), (.bi "int", false), (.bi "str", true), (.bi "list", false), (.bi "tuple", false), (.ow (PySem.Str.ofString "Hands"), false)]
def it_list_tuple : List (CT × Bool) := [(.bi "NoneType", false), (.bi "bool", false), (.bi "int", false), (.bi "str", false), (.bi "list", true), (.bi "tuple", true), (.ow (PySem.Str.ofString "Hands"), false)]
def xt_BelowZero : List (Str × Bool) := [((PySem.Str.ofString "BelowZero"), true), ((PySem.Str.ofString "BadLine"), false)]
abbrev s__law_cells : Stmt := topS 16
theorem sc__law_cells : FnScope [(PySem.Str.ofString "_law_script"), (PySem.Str.ofString "_law_most"), (PySem.Str.ofString "_law_cells_so"), (PySem.Str.ofString "_law_k"), (PySem.Str.ofString "_law_cell"), (PySem.Str.ofString "_law_at_so")] [(PySem.Str.ofString "_law_script"), (PySem.Str.ofString "_law_most")] (defScope s__law_cells) := ⟨rfl, rfl, rfl, by decide +kernel, rfl, by decide +kernel, by decide +kernel⟩
def g__law_cells : SC := sSeq (sOwn 2 (eOrL (eB dListU (lCons (eSl dSl (eVarT 0) (oNo) (oYes (eVarT 1))) (lNil))) (eLst (lCons (eC (.int 0)) (lNil)))))
      (sSeq (sFor (iEnumU (eSl dSl (eVarT 0) (oYes (eVarT 1)) (oYes (eC (.int 63))))) (gU 2 (gsC (gN 3) (gsC (gN 4) (gsN)))) (sSeq (sAsg 5 (e2 dMod (eB dIntOf (lCons (eVarT 3) (lNil))) (eVarT 1)))
      (sSetL 2 (eVarT 5) (e2 dAdd (e2 dIxD (eVarT 2) (eVarT 5)) (e2 dMul (eVarT 4) (e2 dAdd (eVarT 3) (eC (.int 2))))))))
      (sFrz 2 (sRet (eVar 2))))
def m__law_cells : List Ar → M D := mOf 6 g__law_cells
abbrev s_Hands___init__ : Stmt := inC 9 0
theorem sc_Hands___init__ : FnScope [(PySem.Str.ofString "self"), (PySem.Str.ofString "numbers"), (PySem.Str.ofString "row")] [(PySem.Str.ofString "self"), (PySem.Str.ofString "numbers")] (defScope s_Hands___init__) := ⟨rfl, rfl, rfl, by decide +kernel, rfl, by decide +kernel, by decide +kernel⟩
def g_Hands___init__ : SC := sSeq (sAsg 2 (eB dListU (lCons (eVarT 1) (lNil))))
      (sSeq (whGo (tAndC (tOf (e2 dGtU (eB dLenD (lCons (eVarT 2) (lNil))) (eC (.int 0)))) (tOf (e2 (dEqU id) (e2 dIxD (eVarT 2) (eC (.int 0))) (eC (.int 0))))) (sAsg 2 (eSl dSl (eVarT 2) (oYes (eC (.int 1))) (oNo))) 1000)
      (sSeq (sIf (tAndC (tOf (e2 dGtU (eB dLenD (lCons (eVarT 2) (lNil))) (eC (.int 0)))) (tOf (e2 dLtU (e2 dIxD (eVarT 2) (eC (.int 0))) (eC (.int 0))))) (sRaise (eExc0 (PySem.Str.ofString "BelowZero"))) (sNext))
      (sSeq (sFld 0 (PySem.Str.ofString "Hands") (PySem.Str.ofString "own_numbers") (eB dTupOf (lCons (eVarT 2) (lNil))))
      (sFld 0 (PySem.Str.ofString "Hands") (PySem.Str.ofString "own_key") (eTup (lCons (eB dLenD (lCons (eVarT 2) (lNil))) (lCons (eAttr (PySem.Str.ofString "own_numbers") [((PySem.Str.ofString "Hands"), .fld)] (eVarT 0)) (lNil))))))))
abbrev m_Hands___init__ : List Ar → M D := mInit 3 (PySem.Str.ofString "Hands") g_Hands___init__
abbrev s_side_by_side : Stmt := topS 10
theorem sc_side_by_side : FnScope [(PySem.Str.ofString "one"), (PySem.Str.ofString "two"), (PySem.Str.ofString "size")] [(PySem.Str.ofString "one"), (PySem.Str.ofString "two")] (defScope s_side_by_side) := ⟨rfl, rfl, rfl, by decide +kernel, rfl, by decide +kernel, by decide +kernel⟩
def g_side_by_side : SC := sSeq (sAsg 2 (eB dMax (lCons (eB dLenD (lCons (eVarT 0) (lNil))) (lCons (eB dLenD (lCons (eVarT 1) (lNil))) (lNil)))))
      (sRet (e2 dLZip (e2 dAdd (e2 dMulT (eTup (lCons (eC (.int 0)) (lNil))) (e2 dSub (eVarT 2) (eB dLenD (lCons (eVarT 0) (lNil))))) (eVarT 0)) (e2 dAdd (e2 dMulT (eTup (lCons (eC (.int 0)) (lNil))) (e2 dSub (eVarT 2) (eB dLenD (lCons (eVarT 1) (lNil))))) (eVarT 1))))
def m_side_by_side : List Ar → M D := mOf 3 g_side_by_side
abbrev s_Hands___add__ : Stmt := inC 9 11
theorem sc_Hands___add__ : FnScope [(PySem.Str.ofString "self"), (PySem.Str.ofString "other"), (PySem.Str.ofString "one"), (PySem.Str.ofString "two")] [(PySem.Str.ofString "self"), (PySem.Str.ofString "other")] (defScope s_Hands___add__) := ⟨rfl, rfl, rfl, by decide +kernel, rfl, by decide +kernel, by decide +kernel⟩
def g_Hands___add__ : SC := sSeq (sIf (tNotC (tOf (e1 (dIsi is_Hands) (eVarT 1)))) (sNo) (sNext))
      (sRet (eCallG (lenOk 1 (mInit 3 (PySem.Str.ofString "Hands") g_Hands___init__)) 1 0 [.p 0] [.sh (.tup [])] (aSh (eLc (iSeq (eCall (lenOk 2 m_side_by_side) [] (aSh (eAttr (PySem.Str.ofString "own_numbers") [((PySem.Str.ofString "Hands"), .fld)] (eVarT 0)) (aSh (eAttr (PySem.Str.ofString "own_numbers") [((PySem.Str.ofString "Hands"), .fld)] (eVarT 1)) (aNil))))) (gU 2 (gsC (gN 2) (gsC (gN 3) (gsN)))) (tYesC) (e2 dAdd (eVarT 2) (eVarT 3)) [2, 3]) (aNil)) (aNil)))
def m_Hands___add__ : List Ar → M D := mOf 4 g_Hands___add__
abbrev s_Hands___sub__ : Stmt := inC 9 12
theorem sc_Hands___sub__ : FnScope [(PySem.Str.ofString "self"), (PySem.Str.ofString "other"), (PySem.Str.ofString "one"), (PySem.Str.ofString "two")] [(PySem.Str.ofString "self"), (PySem.Str.ofString "other")] (defScope s_Hands___sub__) := ⟨rfl, rfl, rfl, by decide +kernel, rfl, by decide +kernel, by decide +kernel⟩
def g_Hands___sub__ : SC := sSeq (sIf (tNotC (tOf (e1 (dIsi is_Hands) (eVarT 1)))) (sNo) (sNext))
      (sRet (eCallG (lenOk 1 (mInit 3 (PySem.Str.ofString "Hands") g_Hands___init__)) 1 0 [.p 0] [.sh (.tup [])] (aSh (eLc (iSeq (eCall (lenOk 2 m_side_by_side) [] (aSh (eAttr (PySem.Str.ofString "own_numbers") [((PySem.Str.ofString "Hands"), .fld)] (eVarT 0)) (aSh (eAttr (PySem.Str.ofString "own_numbers") [((PySem.Str.ofString "Hands"), .fld)] (eVarT 1)) (aNil))))) (gU 2 (gsC (gN 2) (gsC (gN 3) (gsN)))) (tYesC) (e2 dSub (eVarT 2) (eVarT 3)) [2, 3]) (aNil)) (aNil)))
def m_Hands___sub__ : List Ar → M D := mOf 4 g_Hands___sub__
abbrev s__law_same : Stmt := topS 18
theorem sc__law_same : FnScope [(PySem.Str.ofString "_law_got"), (PySem.Str.ofString "_law_due"), (PySem.Str.ofString "_law_mine"), (PySem.Str.ofString "_law_its")] [(PySem.Str.ofString "_law_got"), (PySem.Str.ofString "_law_due")] (defScope s__law_same) := ⟨rfl, rfl, rfl, by decide +kernel, rfl, by decide +kernel, by decide +kernel⟩
def g__law_same (ms : List Ar → M D) : SC := sSeq (sIf (tOf (e1 (dIsi it_list_tuple) (eVarT 1))) (sSeq (sIf (tOf (e2 (dEqU not) (e1 (dIsi is_list) (eVarT 0)) (e1 (dIsi is_list) (eVarT 1)))) (sRet (eC (.bl false))) (sNext))
      (sSeq (sIf (tOf (e2 (dEqU not) (e1 (dIsi is_tuple) (eVarT 0)) (e1 (dIsi is_tuple) (eVarT 1)))) (sRet (eC (.bl false))) (sNext))
      (sRet (eAnd (e2 (dEqU id) (eB dLenD (lCons (eVarT 0) (lNil))) (eB dLenD (lCons (eVarT 1) (lNil)))) (eB dAll (lCons (eLc (iZip (eVarI 0) (eVarI 1)) (gU 2 (gsC (gN 2) (gsC (gN 3) (gsN)))) (tYesC) (eCall (lenOk 2 ms) [] (aVar 2 (aVar 3 (aNil)))) [2, 3]) (lNil))))))) (sNext))
      (sSeq (sIf (tOrC (tOf (e2 (dIsN id) (eVarT 1) (eC .non))) (tOf (e1 (dIsi it_bool_str) (eVarT 1)))) (sRet (eAnd (e2 (dEqU id) (eVarT 0) (eVarT 1)) (eAnd (e2 (dEqU id) (e1 (dIsi is_bool) (eVarT 0)) (e1 (dIsi is_bool) (eVarT 1))) (e2 (dEqU id) (e2 (dIsN id) (eVarT 0) (eC .non)) (e2 (dIsN id) (eVarT 1) (eC .non)))))) (sNext))
      (sRet (eAnd (e1 (dIsi is_int) (eVarT 0)) (eAnd (eNot (e1 (dIsi is_bool) (eVarT 0))) (e2 (dEqU id) (eVarT 0) (eVarT 1))))))
def m__law_same : Nat → List Ar → M D
  | 0 => fun _ => M.no
  | n + 1 => mOf 4 (g__law_same (m__law_same n))
abbrev s_Hands_numbers : Stmt := inC 9 1
theorem sc_Hands_numbers : FnScope [(PySem.Str.ofString "self")] [(PySem.Str.ofString "self")] (defScope s_Hands_numbers) := ⟨rfl, rfl, rfl, by decide +kernel, rfl, by decide +kernel, by decide +kernel⟩
def g_Hands_numbers : SC := sRet (eAttr (PySem.Str.ofString "own_numbers") [((PySem.Str.ofString "Hands"), .fld)] (eVarT 0))
def m_Hands_numbers : List Ar → M D := mOf 1 g_Hands_numbers
abbrev s__law_minus : Stmt := topS 23
theorem sc__law_minus : FnScope [(PySem.Str.ofString "_law_one_so"), (PySem.Str.ofString "_law_two_so"), (PySem.Str.ofString "_law_caught"), (PySem.Str.ofString "_law_found"), (PySem.Str.ofString "error")] [(PySem.Str.ofString "_law_one_so"), (PySem.Str.ofString "_law_two_so")] (defScope s__law_minus) := ⟨rfl, rfl, rfl, by decide +kernel, rfl, by decide +kernel, by decide +kernel⟩
def g__law_minus : SC := sSeq (sAsgG (gU 2 (gsC (gN 2) (gsC (gN 3) (gsN)))) (eTup (lCons (eC .non) (lCons (eC .non) (lNil)))))
      (sSeq (sTry 4 2 xt_BelowZero (sAsg 3 (eOpO [((PySem.Str.ofString "Hands"), m_Hands___sub__)] dSub (eVarT 0) (eVarT 1))))
      (sRet (eIf (tOf (e2 (dIsN id) (eVarT 2) (eC .non))) (eAttr (PySem.Str.ofString "numbers") [((PySem.Str.ofString "Hands"), .prop m_Hands_numbers)] (eVarT 3)) (eC (.str (PySem.Str.ofString "below"))))))
def m__law_minus : List Ar → M D := mOf 5 g__law_minus
abbrev s_Hands___mul__ : Stmt := inC 9 13
theorem sc_Hands___mul__ : FnScope [(PySem.Str.ofString "self"), (PySem.Str.ofString "times"), (PySem.Str.ofString "number")] [(PySem.Str.ofString "self"), (PySem.Str.ofString "times")] (defScope s_Hands___mul__) := ⟨rfl, rfl, rfl, by decide +kernel, rfl, by decide +kernel, by decide +kernel⟩
def g_Hands___mul__ : SC := sRet (eCallG (lenOk 1 (mInit 3 (PySem.Str.ofString "Hands") g_Hands___init__)) 1 0 [.p 0] [.sh (.tup [])] (aSh (eLc (iSeq (eAttr (PySem.Str.ofString "own_numbers") [((PySem.Str.ofString "Hands"), .fld)] (eVarT 0))) (gN 2) (tYesC) (e2 dMul (eVarT 2) (eVarT 1)) [2]) (aNil)) (aNil))
def m_Hands___mul__ : List Ar → M D := mOf 3 g_Hands___mul__
abbrev s_Hands___rmul__ : Stmt := inC 9 14
theorem sc_Hands___rmul__ : FnScope [(PySem.Str.ofString "self"), (PySem.Str.ofString "times"), (PySem.Str.ofString "number")] [(PySem.Str.ofString "self"), (PySem.Str.ofString "times")] (defScope s_Hands___rmul__) := ⟨rfl, rfl, rfl, by decide +kernel, rfl, by decide +kernel, by decide +kernel⟩
def g_Hands___rmul__ : SC := sRet (eCallG (lenOk 1 (mInit 3 (PySem.Str.ofString "Hands") g_Hands___init__)) 1 0 [.p 0] [.sh (.tup [])] (aSh (eLc (iSeq (eAttr (PySem.Str.ofString "own_numbers") [((PySem.Str.ofString "Hands"), .fld)] (eVarT 0))) (gN 2) (tYesC) (e2 dMul (eVarT 2) (eVarT 1)) [2]) (aNil)) (aNil))
def m_Hands___rmul__ : List Ar → M D := mOf 3 g_Hands___rmul__
abbrev s_Hands___eq__ : Stmt := inC 9 6
theorem sc_Hands___eq__ : FnScope [(PySem.Str.ofString "self"), (PySem.Str.ofString "other")] [(PySem.Str.ofString "self"), (PySem.Str.ofString "other")] (defScope s_Hands___eq__) := ⟨rfl, rfl, rfl, by decide +kernel, rfl, by decide +kernel, by decide +kernel⟩
def g_Hands___eq__ : SC := sSeq (sIf (tNotC (tOf (e1 (dIsi is_Hands) (eVarT 1)))) (sNo) (sNext))
      (sRet (e2 (dEqU id) (eAttr (PySem.Str.ofString "own_key") [((PySem.Str.ofString "Hands"), .fld)] (eVarT 0)) (eAttr (PySem.Str.ofString "own_key") [((PySem.Str.ofString "Hands"), .fld)] (eVarT 1))))
def m_Hands___eq__ : List Ar → M D := mOf 2 g_Hands___eq__
abbrev s_hand : Stmt := topS 12
theorem sc_hand : FnScope [(PySem.Str.ofString "place"), (PySem.Str.ofString "count")] [(PySem.Str.ofString "place"), (PySem.Str.ofString "count")] (defScope s_hand) := ⟨rfl, rfl, rfl, by decide +kernel, rfl, by decide +kernel, by decide +kernel⟩
def g_hand : SC := sRet (eCallG (lenOk 1 (mInit 3 (PySem.Str.ofString "Hands") g_Hands___init__)) 1 0 [.p 0] [.sh (.tup [])] (aSh (e2 dAdd (eLst (lCons (eVar 1) (lNil))) (e2 dMul (eLst (lCons (eC (.int 0)) (lNil))) (eVarT 0))) (aNil)) (aNil))
def m_hand : List Ar → M D := mOf 2 g_hand
abbrev s_Hands_cut : Stmt := inC 9 15
theorem sc_Hands_cut : FnScope [(PySem.Str.ofString "self"), (PySem.Str.ofString "kept"), (PySem.Str.ofString "number")] [(PySem.Str.ofString "self")] (defScope s_Hands_cut) := ⟨rfl, rfl, rfl, by decide +kernel, rfl, by decide +kernel, by decide +kernel⟩
def g_Hands_cut : SC := sSeq (sOwn 1 (eLst (lNil)))
      (sSeq (sFor (iSeq (eAttr (PySem.Str.ofString "own_numbers") [((PySem.Str.ofString "Hands"), .fld)] (eVarT 0))) (gN 2) (sSeq (sIf (tOf (e2 dLtU (eVarT 2) (eC (.int 0)))) (sBreak) (sNext))
      (sApp 1 (eVar 2))))
      (sFrz 1 (sRet (eCallG (lenOk 1 (mInit 3 (PySem.Str.ofString "Hands") g_Hands___init__)) 1 0 [.p 0] [.sh (.tup [])] (aSh (e2 dAdd (eVarT 1) (e2 dMul (eLst (lCons (eC (.int 0)) (lNil))) (e2 dSub (eB dLenD (lCons (eAttr (PySem.Str.ofString "own_numbers") [((PySem.Str.ofString "Hands"), .fld)] (eVarT 0)) (lNil))) (eB dLenD (lCons (eVarT 1) (lNil)))))) (aNil)) (aNil)))))
def m_Hands_cut : List Ar → M D := mOf 3 g_Hands_cut
abbrev s__law_by_hand_right : Stmt := topS 27
theorem sc__law_by_hand_right : FnScope [(PySem.Str.ofString "_law_day"), (PySem.Str.ofString "_law_far"), (PySem.Str.ofString "_law_got"), (PySem.Str.ofString "_law_due"), (PySem.Str.ofString "_law_alias_so")] [] (defScope s__law_by_hand_right) := ⟨rfl, rfl, rfl, by decide +kernel, rfl, by decide +kernel, by decide +kernel⟩
def g__law_by_hand_right : SC := sSeq (sPar [(0, false, eCallG (lenOk 1 (mInit 3 (PySem.Str.ofString "Hands") g_Hands___init__)) 1 0 [.p 0] [.sh (.tup [])] (aSh (eTup (lCons (eC (.int 1)) (lCons (eC (.int 0)) (lCons (eC (.int 0)) (lNil))))) (aNil)) (aNil)), (1, false, eCallG (lenOk 1 (mInit 3 (PySem.Str.ofString "Hands") g_Hands___init__)) 1 0 [.p 0] [.sh (.tup [])] (aSh (eTup (lCons (eC (.int 7)) (lCons (eC (.int 900)) (lNil)))) (aNil)) (aNil))])
      (sSeq (sAsg 2 (eLst (lCons (eAttr (PySem.Str.ofString "numbers") [((PySem.Str.ofString "Hands"), .prop m_Hands_numbers)] (eOpO [((PySem.Str.ofString "Hands"), m_Hands___add__)] dAdd (eVarT 0) (eVarT 1))) (lCons (eCall (lenOk 2 m__law_minus) [] (aVar 0 (aVar 1 (aNil)))) (lCons (eCall (lenOk 2 m__law_minus) [] (aVar 1 (aVar 0 (aNil)))) (lCons (eAttr (PySem.Str.ofString "numbers") [((PySem.Str.ofString "Hands"), .prop m_Hands_numbers)] (eMulO [((PySem.Str.ofString "Hands"), m_Hands___mul__, m_Hands___rmul__)] dMul (eC (.int 3)) (eVarT 1))) (lCons (eAttr (PySem.Str.ofString "numbers") [((PySem.Str.ofString "Hands"), .prop m_Hands_numbers)] (eMulO [((PySem.Str.ofString "Hands"), m_Hands___mul__, m_Hands___rmul__)] dMul (eVarT 1) (eC (.int 0)))) (lNil))))))))
      (sSeq (sAsg 3 (eLst (lCons (eTup (lCons (eC (.int 1)) (lCons (eC (.int 7)) (lCons (eC (.int 900)) (lNil))))) (lCons (eTup (lCons (eC (.int 1)) (lCons (e1 dNeg (eC (.int 7))) (lCons (e1 dNeg (eC (.int 900))) (lNil))))) (lCons (eC (.str (PySem.Str.ofString "below"))) (lCons (eTup (lCons (eC (.int 21)) (lCons (eC (.int 2700)) (lNil)))) (lCons (eTup (lNil)) (lNil))))))))
      (sSeq (sAsg 2 (eOpO [((PySem.Str.ofString "Hands"), m_Hands___add__)] dAdd (eVarT 2) (eLst (lCons (eAttr (PySem.Str.ofString "numbers") [((PySem.Str.ofString "Hands"), .prop m_Hands_numbers)] (eMethU (PySem.Str.ofString "cut") [((PySem.Str.ofString "Hands"), ⟨1, m_Hands_cut, []⟩)] (eOpO [((PySem.Str.ofString "Hands"), m_Hands___sub__)] dSub (eVarT 0) (eVarT 1)) aNil)) (lCons (eAttr (PySem.Str.ofString "numbers") [((PySem.Str.ofString "Hands"), .prop m_Hands_numbers)] (eMethU (PySem.Str.ofString "cut") [((PySem.Str.ofString "Hands"), ⟨1, m_Hands_cut, []⟩)] (eCallG (lenOk 1 (mInit 3 (PySem.Str.ofString "Hands") g_Hands___init__)) 1 0 [.p 0] [.sh (.tup [])] (aSh (eTup (lCons (eC (.int 2)) (lCons (eC (.int 3)) (lCons (e1 dNeg (eC (.int 1))) (lCons (eC (.int 5)) (lNil)))))) (aNil)) (aNil)) aNil)) (lCons (eEqO [((PySem.Str.ofString "Hands"), m_Hands___eq__)] [(PySem.Str.ofString "Hands")] (dEqU id) (eOpO [((PySem.Str.ofString "Hands"), m_Hands___add__)] dAdd (eOpO [((PySem.Str.ofString "Hands"), m_Hands___sub__)] dSub (eVarT 0) (eVarT 1)) (eVarT 1)) (eVarT 0)) (lCons (eCall (lenOk 2 m__law_minus) [] (aVar 1 (aVar 1 (aNil)))) (lNil))))))))
      (sSeq (sAsg 3 (eOpO [((PySem.Str.ofString "Hands"), m_Hands___add__)] dAdd (eVarT 3) (eLst (lCons (eTup (lCons (eC (.int 1)) (lCons (eC (.int 0)) (lCons (eC (.int 0)) (lNil))))) (lCons (eTup (lCons (eC (.int 2)) (lCons (eC (.int 3)) (lCons (eC (.int 0)) (lCons (eC (.int 0)) (lNil)))))) (lCons (eC (.bl true)) (lCons (eTup (lNil)) (lNil))))))))
      (sSeq (sAsg 2 (eOpO [((PySem.Str.ofString "Hands"), m_Hands___add__)] dAdd (eVarT 2) (eLst (lCons (eAttr (PySem.Str.ofString "numbers") [((PySem.Str.ofString "Hands"), .prop m_Hands_numbers)] (eCallG (lenOk 2 m_hand) 1 0 [.p 0, .d 0] [.sh (.int 1)] (aSh (eC (.int 2)) (aNil)) (aNil))) (lCons (eAttr (PySem.Str.ofString "numbers") [((PySem.Str.ofString "Hands"), .prop m_Hands_numbers)] (eCallG (lenOk 2 m_hand) 2 0 [.p 0, .p 1] [.sh (.int 1)] (aSh (eC (.int 0)) (aSh (eC (.int 5)) (aNil))) (aNil))) (lCons (eAttr (PySem.Str.ofString "numbers") [((PySem.Str.ofString "Hands"), .prop m_Hands_numbers)] (eCallG (lenOk 2 m_hand) 0 2 [.k 0, .k 1] [.sh (.int 1)] (aNil) (aSh (eC (.int 3)) (aSh (eC (.int 0)) (aNil))))) (lCons (eAttr (PySem.Str.ofString "numbers") [((PySem.Str.ofString "Hands"), .prop m_Hands_numbers)] (eCallG (lenOk 2 m_hand) 2 0 [.p 0, .p 1] [.sh (.int 1)] (aSh (eC (.int 1)) (aSh (eC (.int 2)) (aNil))) (aNil))) (lCons (eAttr (PySem.Str.ofString "numbers") [((PySem.Str.ofString "Hands"), .prop m_Hands_numbers)] (eMethU (PySem.Str.ofString "cut") [((PySem.Str.ofString "Hands"), ⟨1, m_Hands_cut, []⟩)] (eCallG (lenOk 1 (mInit 3 (PySem.Str.ofString "Hands") g_Hands___init__)) 0 0 [.d 0] [.sh (.tup [])] (aNil) (aNil)) aNil)) (lNil)))))))))
      (sSeq (sAsg 3 (eOpO [((PySem.Str.ofString "Hands"), m_Hands___add__)] dAdd (eVarT 3) (eLst (lCons (eTup (lCons (eC (.int 1)) (lCons (eC (.int 0)) (lCons (eC (.int 0)) (lNil))))) (lCons (eTup (lCons (eC (.int 5)) (lNil))) (lCons (eTup (lNil)) (lCons (eTup (lCons (eC (.int 2)) (lCons (eC (.int 0)) (lNil)))) (lCons (eTup (lNil)) (lNil)))))))))
      (sSeq (sAsg 4 (eVar 0))
      (sSeq (sAugO 4 [((PySem.Str.ofString "Hands"), m_Hands___add__)] dAugAdd (eVarT 1))
      (sSeq (sAugO 4 [((PySem.Str.ofString "Hands"), m_Hands___sub__)] dAugSub (eVarT 0))
      (sSeq (sAsg 2 (eOpO [((PySem.Str.ofString "Hands"), m_Hands___add__)] dAdd (eVarT 2) (eLst (lCons (eAttr (PySem.Str.ofString "numbers") [((PySem.Str.ofString "Hands"), .prop m_Hands_numbers)] (eVarT 4)) (lCons (eAttr (PySem.Str.ofString "numbers") [((PySem.Str.ofString "Hands"), .prop m_Hands_numbers)] (eVarT 0)) (lCons (eAttr (PySem.Str.ofString "numbers") [((PySem.Str.ofString "Hands"), .prop m_Hands_numbers)] (eOpO [((PySem.Str.ofString "Hands"), m_Hands___add__)] dAdd (eCallG (lenOk 1 (mInit 3 (PySem.Str.ofString "Hands") g_Hands___init__)) 1 0 [.p 0] [.sh (.tup [])] (aSh (eTup (lCons (eC (.int 1)) (lCons (e1 dNeg (eC (.int 5))) (lNil)))) (aNil)) (aNil)) (eCallG (lenOk 1 (mInit 3 (PySem.Str.ofString "Hands") g_Hands___init__)) 1 0 [.p 0] [.sh (.tup [])] (aSh (eTup (lCons (eC (.int 5)) (lNil))) (aNil)) (aNil)))) (lCons (eEqO [((PySem.Str.ofString "Hands"), m_Hands___eq__)] [(PySem.Str.ofString "Hands")] (dEqU id) (eMulO [((PySem.Str.ofString "Hands"), m_Hands___mul__, m_Hands___rmul__)] dMul (eC (.int 0)) (eVarT 0)) (eCallG (lenOk 1 (mInit 3 (PySem.Str.ofString "Hands") g_Hands___init__)) 0 0 [.d 0] [.sh (.tup [])] (aNil) (aNil))) (lNil))))))))
      (sRet (eCall (lenOk 2 (m__law_same 8)) [] (aVar 2 (aSh (eOpO [((PySem.Str.ofString "Hands"), m_Hands___add__)] dAdd (eVarT 3) (eLst (lCons (eTup (lCons (eC (.int 7)) (lCons (eC (.int 900)) (lNil)))) (lCons (eTup (lCons (eC (.int 1)) (lCons (eC (.int 0)) (lCons (eC (.int 0)) (lNil))))) (lCons (eTup (lCons (eC (.int 1)) (lCons (eC (.int 0)) (lNil)))) (lCons (eC (.bl true)) (lNil))))))) (aNil)))))))))))))))
def m__law_by_hand_right : List Ar → M D := mOf 5 g__law_by_hand_right
abbrev s__law_take : Stmt := topS 15
theorem sc__law_take : FnScope [(PySem.Str.ofString "_law_box_here"), (PySem.Str.ofString "_law_size_so"), (PySem.Str.ofString "_law_some"), (PySem.Str.ofString "_law_once"), (PySem.Str.ofString "_law_far"), (PySem.Str.ofString "_law_again")] [(PySem.Str.ofString "_law_box_here"), (PySem.Str.ofString "_law_size_so")] (defScope s__law_take) := ⟨rfl, rfl, rfl, by decide +kernel, rfl, by decide +kernel, by decide +kernel⟩
def g__law_take : SC := sSeq (sIf (tOf (e2 dGtU (eBGet 0 0) (eC (.int 0)))) (sSeq (sAsg 2 (e2 dMod (eB dIntOf (lCons (eBGet 0 0) (lNil))) (eVarT 1)))
      (sSeq (sBSet 0 0 (e2 dFdiv (eBGet 0 0) (eVarT 1)))
      (sRet (eVar 2)))) (sNext))
      (sSeq (sBSet 0 2 (e2 dAdd (eBGet 0 2) (eC (.int 1))))
      (sSeq (sAsg 3 (e2 dMod (eB dIntOf (lCons (e2 dMul (e2 dAdd (eBGet 0 1) (e2 dMul (eC (.int 48271)) (eBGet 0 2))) (e2 dAdd (eC (.int 39373)) (eBGet 0 2))) (lNil))) (eC (.int 2147483647))))
      (sSeq (sAsg 4 (e2 dAdd (e2 dMod (eB dIntOf (lCons (eVarT 3) (lNil))) (eC (.int 40009))) (eC (.int 7))))
      (sSeq (sAsg 5 (e2 dMod (eB dIntOf (lCons (e2 dMul (e2 dAdd (e2 dAdd (eVarT 3) (eBGet 0 2)) (e2 dFdiv (eBGet 0 1) (eC (.int 1000003)))) (eVarT 4)) (lNil))) (eC (.int 2147483629))))
      (sRet (e2 dMod (eB dIntOf (lCons (e2 dFdiv (e2 dMod (eB dIntOf (lCons (e2 dAdd (e2 dMul (eVarT 5) (eC (.int 48271))) (eVarT 3)) (lNil))) (eC (.int 2147483587))) (eC (.int 64))) (lNil))) (eVarT 1)))))))
def m__law_take : List Ar → M D := mOf 6 g__law_take
abbrev s__law_of : Stmt := topS 17
theorem sc__law_of : FnScope [(PySem.Str.ofString "_law_box_here"), (PySem.Str.ofString "_law_goods_so")] [(PySem.Str.ofString "_law_box_here"), (PySem.Str.ofString "_law_goods_so")] (defScope s__law_of) := ⟨rfl, rfl, rfl, by decide +kernel, rfl, by decide +kernel, by decide +kernel⟩
def g__law_of : SC := sRet (e2 dIxD (eVarT 1) (eCall (lenOk 2 m__law_take) [] (aVar 0 (aSh (eB dLenD (lCons (eVarT 1) (lNil))) (aNil)))))
def m__law_of : List Ar → M D := mOf 2 g__law_of
abbrev s__law_trimmed : Stmt := topS 19
theorem sc__law_trimmed : FnScope [(PySem.Str.ofString "_law_row"), (PySem.Str.ofString "_law_row_so")] [(PySem.Str.ofString "_law_row")] (defScope s__law_trimmed) := ⟨rfl, rfl, rfl, by decide +kernel, rfl, by decide +kernel, by decide +kernel⟩
def g__law_trimmed : SC := sSeq (sAsg 1 (eB dListU (lCons (eVarT 0) (lNil))))
      (sSeq (whGo (tAndC (tOf (e2 (dEqU not) (eVarT 1) (eLst (lNil)))) (tOf (e2 (dEqU id) (e2 dIxD (eVarT 1) (eC (.int 0))) (eC (.int 0))))) (sAsg 1 (eSl dSl (eVarT 1) (oYes (eC (.int 1))) (oNo))) 1000)
      (sRet (eB dTupOf (lCons (eVarT 1) (lNil)))))
def m__law_trimmed : List Ar → M D := mOf 2 g__law_trimmed
abbrev s__law_up : Stmt := topS 21
theorem sc__law_up : FnScope [(PySem.Str.ofString "_law_row"), (PySem.Str.ofString "_law_short_so"), (PySem.Str.ofString "_law_one")] [(PySem.Str.ofString "_law_row")] (defScope s__law_up) := ⟨rfl, rfl, rfl, by decide +kernel, rfl, by decide +kernel, by decide +kernel⟩
def g__law_up : SC := sSeq (sAsg 1 (eCall (lenOk 1 m__law_trimmed) [] (aVar 0 (aNil))))
      (sRet (eIf (tAndC (tOf (e2 (dEqU not) (eVarT 1) (eTup (lNil)))) (tOf (e2 dLtU (e2 dIxD (eVarT 1) (eC (.int 0))) (eC (.int 0))))) (eLc (iSeq (eVarI 0)) (gN 2) (tYesC) (e2 dSub (eC (.int 0)) (eVarT 2)) [2]) (eB dListU (lCons (eVarT 0) (lNil)))))
def m__law_up : List Ar → M D := mOf 3 g__law_up
abbrev s_Hands___lt__ : Stmt := inC 9 7
theorem sc_Hands___lt__ : FnScope [(PySem.Str.ofString "self"), (PySem.Str.ofString "other")] [(PySem.Str.ofString "self"), (PySem.Str.ofString "other")] (defScope s_Hands___lt__) := ⟨rfl, rfl, rfl, by decide +kernel, rfl, by decide +kernel, by decide +kernel⟩
def g_Hands___lt__ : SC := sSeq (sIf (tNotC (tOf (e1 (dIsi is_Hands) (eVarT 1)))) (sNo) (sNext))
      (sRet (e2 dLtU (eAttr (PySem.Str.ofString "own_key") [((PySem.Str.ofString "Hands"), .fld)] (eVarT 0)) (eAttr (PySem.Str.ofString "own_key") [((PySem.Str.ofString "Hands"), .fld)] (eVarT 1))))
def m_Hands___lt__ : List Ar → M D := mOf 2 g_Hands___lt__
abbrev s_Hands_plain : Stmt := inC 9 3
theorem sc_Hands_plain : FnScope [(PySem.Str.ofString "self"), (PySem.Str.ofString "number")] [(PySem.Str.ofString "self")] (defScope s_Hands_plain) := ⟨rfl, rfl, rfl, by decide +kernel, rfl, by decide +kernel, by decide +kernel⟩
def g_Hands_plain : SC := sRet (eB dAll (lCons (eLc (iSeq (eAttr (PySem.Str.ofString "own_numbers") [((PySem.Str.ofString "Hands"), .fld)] (eVarT 0))) (gN 1) (tYesC) (e2 dGeU (eVarT 1) (eC (.int 0))) [1]) (lNil)))
def m_Hands_plain : List Ar → M D := mOf 2 g_Hands_plain
abbrev s_Hands___ge__ : Stmt := inC 9 10
theorem sc_Hands___ge__ : FnScope [(PySem.Str.ofString "self"), (PySem.Str.ofString "other")] [(PySem.Str.ofString "self"), (PySem.Str.ofString "other")] (defScope s_Hands___ge__) := ⟨rfl, rfl, rfl, by decide +kernel, rfl, by decide +kernel, by decide +kernel⟩
def g_Hands___ge__ : SC := sSeq (sIf (tNotC (tOf (e1 (dIsi is_Hands) (eVarT 1)))) (sNo) (sNext))
      (sRet (e2 dGeU (eAttr (PySem.Str.ofString "own_key") [((PySem.Str.ofString "Hands"), .fld)] (eVarT 0)) (eAttr (PySem.Str.ofString "own_key") [((PySem.Str.ofString "Hands"), .fld)] (eVarT 1))))
def m_Hands___ge__ : List Ar → M D := mOf 2 g_Hands___ge__
abbrev s__law_cut_due : Stmt := topS 25
theorem sc__law_cut_due : FnScope [(PySem.Str.ofString "_law_row"), (PySem.Str.ofString "_law_found"), (PySem.Str.ofString "_law_is_cut"), (PySem.Str.ofString "_law_bit")] [(PySem.Str.ofString "_law_row")] (defScope s__law_cut_due) := ⟨rfl, rfl, rfl, by decide +kernel, rfl, by decide +kernel, by decide +kernel⟩
def g__law_cut_due : SC := sSeq (sPar [(1, true, eLst (lNil)), (2, false, eC (.bl false))])
      (sSeq (sFor (iSeq (eCall (lenOk 1 m__law_trimmed) [] (aVar 0 (aNil)))) (gN 3) (sSeq (sAsg 2 (eOr (eVarT 2) (e2 dLtU (eVarT 3) (eC (.int 0)))))
      (sApp 1 (eIf (tOf (eVarT 2)) (eC (.int 0)) (eVar 3)))))
      (sFrz 1 (sRet (eB dTupOf (lCons (eVarT 1) (lNil))))))
def m__law_cut_due : List Ar → M D := mOf 4 g__law_cut_due
abbrev s__law_cut_right : Stmt := topS 26
theorem sc__law_cut_right : FnScope [(PySem.Str.ofString "_law_box_here"), (PySem.Str.ofString "_law_mine"), (PySem.Str.ofString "_law_row"), (PySem.Str.ofString "_law_cut_so"), (PySem.Str.ofString "_law_spots"), (PySem.Str.ofString "_law_spot"), (PySem.Str.ofString "_law_less"), (PySem.Str.ofString "_law_k"), (PySem.Str.ofString "_law_bit")] [(PySem.Str.ofString "_law_box_here"), (PySem.Str.ofString "_law_mine"), (PySem.Str.ofString "_law_row")] (defScope s__law_cut_right) := ⟨rfl, rfl, rfl, by decide +kernel, rfl, by decide +kernel, by decide +kernel⟩
def g__law_cut_right : SC := sSeq (sAsg 3 (eMethU (PySem.Str.ofString "cut") [((PySem.Str.ofString "Hands"), ⟨1, m_Hands_cut, []⟩)] (eVarT 1) aNil))
      (sSeq (sIf (tNotC (tOf (eCall (lenOk 2 (m__law_same 8)) [] (aSh (eLst (lCons (eAttr (PySem.Str.ofString "numbers") [((PySem.Str.ofString "Hands"), .prop m_Hands_numbers)] (eVarT 3)) (lCons (eAttr (PySem.Str.ofString "plain") [((PySem.Str.ofString "Hands"), .prop m_Hands_plain)] (eVarT 3)) (lCons (eOpO [((PySem.Str.ofString "Hands"), m_Hands___ge__)] dGeU (eVarT 3) (eVarT 1)) (lNil))))) (aSh (eLst (lCons (eCall (lenOk 1 m__law_cut_due) [] (aVar 2 (aNil))) (lCons (eC (.bl true)) (lCons (eC (.bl true)) (lNil))))) (aNil)))))) (sRet (eC (.bl false))) (sNext))
      (sSeq (sOwn 4 (eLc (iEnumU (eAttr (PySem.Str.ofString "numbers") [((PySem.Str.ofString "Hands"), .prop m_Hands_numbers)] (eVarT 3))) (gU 2 (gsC (gN 7) (gsC (gN 8) (gsN)))) (tOf (e2 dGtU (eVarT 8) (eC (.int 0)))) (eVar 7) [7, 8]))
      (sSeq (sFrz 4 (sIf (tOrC (tOf (eAttr (PySem.Str.ofString "plain") [((PySem.Str.ofString "Hands"), .prop m_Hands_plain)] (eVarT 1))) (tOf (e2 (dEqU id) (eVarT 4) (eLst (lNil))))) (sRet (eIf (tOf (eAttr (PySem.Str.ofString "plain") [((PySem.Str.ofString "Hands"), .prop m_Hands_plain)] (eVarT 1))) (eEqO [((PySem.Str.ofString "Hands"), m_Hands___eq__)] [(PySem.Str.ofString "Hands")] (dEqU id) (eMethU (PySem.Str.ofString "cut") [((PySem.Str.ofString "Hands"), ⟨1, m_Hands_cut, []⟩)] (eVarT 1) aNil) (eVarT 1)) (eC (.bl true)))) (sNext)))
      (sSeq (sFrz 4 (sAsg 5 (e2 dIxD (eVarT 4) (e1 dNeg (eC (.int 1))))))
      (sSeq (sAsg 6 (e2 dAdd (eSl dSl (eAttr (PySem.Str.ofString "numbers") [((PySem.Str.ofString "Hands"), .prop m_Hands_numbers)] (eVarT 3)) (oNo) (oYes (eVarT 5))) (eTup (lCons (e2 dSub (e2 dIxD (eAttr (PySem.Str.ofString "numbers") [((PySem.Str.ofString "Hands"), .prop m_Hands_numbers)] (eVarT 3)) (eVarT 5)) (eC (.int 1))) (lNil)))))
      (sSeq (sAsg 6 (e2 dAdd (eVarT 6) (eB dTupOf (lCons (eLc (iSeq (eSl dSl (eAttr (PySem.Str.ofString "numbers") [((PySem.Str.ofString "Hands"), .prop m_Hands_numbers)] (eVarT 3)) (oYes (e2 dAdd (eVarT 5) (eC (.int 1)))) (oNo))) (gN 8) (tYesC) (eCall (lenOk 2 m__law_of) [] (aVar 0 (aSh (eLst (lCons (eC (.int 0)) (lCons (eC (.int 9)) (lCons (e2 dPow (eC (.int 10)) (eC (.int 60))) (lNil))))) (aNil)))) [8]) (lNil)))))
      (sRet (eOpO [((PySem.Str.ofString "Hands"), m_Hands___lt__)] dLtU (eCallG (lenOk 1 (mInit 3 (PySem.Str.ofString "Hands") g_Hands___init__)) 1 0 [.p 0] [.sh (.tup [])] (aVar 6 (aNil)) (aNil)) (eVarT 1)))))))))
def m__law_cut_right : List Ar → M D := mOf 9 g__law_cut_right
abbrev s__law_line : Stmt := topS 20
theorem sc__law_line : FnScope [(PySem.Str.ofString "_law_box_here"), (PySem.Str.ofString "_law_found"), (PySem.Str.ofString "_law_turn"), (PySem.Str.ofString "_law_wide_so")] [(PySem.Str.ofString "_law_box_here")] (defScope s__law_line) := ⟨rfl, rfl, rfl, by decide +kernel, rfl, by decide +kernel, by decide +kernel⟩
def g__law_line : SC := sSeq (sOwn 1 (eLst (lNil)))
      (sSeq (sFor (iRange1 (lCons (eCall (lenOk 2 m__law_take) [] (aVar 0 (aSh (eC (.int 12)) (aNil)))) (lNil))) (gN 2) (sSeq (sAsg 3 (eLst (lCons (eC (.int 0)) (lCons (eC (.int 0)) (lCons (eC (.int 1)) (lCons (eC (.int 2)) (lCons (eCall (lenOk 2 m__law_take) [] (aVar 0 (aSh (eC (.int 20)) (aNil)))) (lCons (eCall (lenOk 2 m__law_take) [] (aVar 0 (aSh (e2 dPow (eC (.int 10)) (eC (.int 59))) (aNil)))) (lNil)))))))))
      (sApp 1 (e2 dMul (eCall (lenOk 2 m__law_of) [] (aVar 0 (aVar 3 (aNil)))) (eCall (lenOk 2 m__law_of) [] (aVar 0 (aSh (eLst (lCons (eC (.int 1)) (lCons (eC (.int 1)) (lCons (eC (.int 1)) (lCons (e1 dNeg (eC (.int 1))) (lNil)))))) (aNil))))))))
      (sFrz 1 (sRet (eVar 1))))
def m__law_line : List Ar → M D := mOf 4 g__law_line
abbrev s__law_side : Stmt := topS 22
theorem sc__law_side : FnScope [(PySem.Str.ofString "_law_row")] [(PySem.Str.ofString "_law_row")] (defScope s__law_side) := ⟨rfl, rfl, rfl, by decide +kernel, rfl, by decide +kernel, by decide +kernel⟩
def g__law_side : SC := sRet (e2 dAdd (e2 dMul (eLst (lCons (eC (.int 0)) (lNil))) (e2 dSub (eC (.int 12)) (eB dLenD (lCons (eVarT 0) (lNil))))) (eB dListU (lCons (eVarT 0) (lNil))))
def m__law_side : List Ar → M D := mOf 1 g__law_side
abbrev s__law_due_minus : Stmt := topS 24
theorem sc__law_due_minus : FnScope [(PySem.Str.ofString "_law_one"), (PySem.Str.ofString "_law_two"), (PySem.Str.ofString "_law_short_so"), (PySem.Str.ofString "_law_mine"), (PySem.Str.ofString "_law_its")] [(PySem.Str.ofString "_law_one"), (PySem.Str.ofString "_law_two")] (defScope s__law_due_minus) := ⟨rfl, rfl, rfl, by decide +kernel, rfl, by decide +kernel, by decide +kernel⟩
def g__law_due_minus : SC := sSeq (sAsg 2 (eCall (lenOk 1 m__law_trimmed) [] (aSh (eLc (iZip (eCall (lenOk 1 m__law_side) [] (aVar 0 (aNil))) (eCall (lenOk 1 m__law_side) [] (aVar 1 (aNil)))) (gU 2 (gsC (gN 3) (gsC (gN 4) (gsN)))) (tYesC) (e2 dSub (eVarT 3) (eVarT 4)) [3, 4]) (aNil))))
      (sRet (eIf (tAndC (tOf (e2 (dEqU not) (eVarT 2) (eTup (lNil)))) (tOf (e2 dLtU (e2 dIxD (eVarT 2) (eC (.int 0))) (eC (.int 0))))) (eC (.str (PySem.Str.ofString "below"))) (eVar 2)))
def m__law_due_minus : List Ar → M D := mOf 5 g__law_due_minus
abbrev s__law_case_right : Stmt := topS 28
theorem sc__law_case_right : FnScope [(PySem.Str.ofString "_law_box_here"), (PySem.Str.ofString "_law_one"), (PySem.Str.ofString "_law_two"), (PySem.Str.ofString "_law_far"), (PySem.Str.ofString "_law_mine"), (PySem.Str.ofString "_law_its"), (PySem.Str.ofString "_law_total"), (PySem.Str.ofString "_law_more"), (PySem.Str.ofString "_law_told"), (PySem.Str.ofString "_law_place_so"), (PySem.Str.ofString "_law_count_so"), (PySem.Str.ofString "_law_due"), (PySem.Str.ofString "_law_bit"), (PySem.Str.ofString "_law_far_so")] [(PySem.Str.ofString "_law_box_here")] (defScope s__law_case_right) := ⟨rfl, rfl, rfl, by decide +kernel, rfl, by decide +kernel, by decide +kernel⟩
def g__law_case_right : SC := sSeq (sPar [(1, false, eCall (lenOk 1 m__law_up) [] (aSh (eCall (lenOk 1 m__law_line) [] (aVar 0 (aNil))) (aNil))), (2, false, eCall (lenOk 1 m__law_up) [] (aSh (eCall (lenOk 1 m__law_line) [] (aVar 0 (aNil))) (aNil)))])
      (sSeq (sAsg 3 (eCall (lenOk 2 m__law_of) [] (aVar 0 (aSh (eLst (lCons (eC (.int 0)) (lCons (eC (.int 1)) (lCons (eC (.int 2)) (lCons (eCall (lenOk 2 m__law_take) [] (aVar 0 (aSh (e2 dPow (eC (.int 10)) (eC (.int 9))) (aNil)))) (lNil)))))) (aNil)))))
      (sSeq (sIf (tOf (e2 (dEqU id) (eCall (lenOk 2 m__law_take) [] (aVar 0 (aSh (eC (.int 3)) (aNil)))) (eC (.int 0)))) (sAsg 2 (eB dListU (lCons (eVarT 1) (lNil)))) (sNext))
      (sSeq (sPar [(4, false, eCallG (lenOk 1 (mInit 3 (PySem.Str.ofString "Hands") g_Hands___init__)) 1 0 [.p 0] [.sh (.tup [])] (aVar 1 (aNil)) (aNil)), (5, false, eCallG (lenOk 1 (mInit 3 (PySem.Str.ofString "Hands") g_Hands___init__)) 1 0 [.p 0] [.sh (.tup [])] (aVar 2 (aNil)) (aNil))])
      (sSeq (sAsg 6 (eCall (lenOk 1 m__law_trimmed) [] (aSh (eLc (iZip (eCall (lenOk 1 m__law_side) [] (aVar 1 (aNil))) (eCall (lenOk 1 m__law_side) [] (aVar 2 (aNil)))) (gU 2 (gsC (gN 12) (gsC (gN 13) (gsN)))) (tYesC) (eOpO [((PySem.Str.ofString "Hands"), m_Hands___add__)] dAdd (eVarT 12) (eVarT 13)) [12, 13]) (aNil))))
      (sSeq (sAsg 7 (eCall (lenOk 1 m__law_trimmed) [] (aSh (eLc (iSeq (eVarI 1)) (gN 12) (tYesC) (eMulO [((PySem.Str.ofString "Hands"), m_Hands___mul__, m_Hands___rmul__)] dMul (eVarT 12) (eVarT 3)) [12]) (aNil))))
      (sSeq (sAsg 8 (eLst (lCons (eAttr (PySem.Str.ofString "numbers") [((PySem.Str.ofString "Hands"), .prop m_Hands_numbers)] (eOpO [((PySem.Str.ofString "Hands"), m_Hands___add__)] dAdd (eVarT 4) (eVarT 5))) (lCons (eAttr (PySem.Str.ofString "numbers") [((PySem.Str.ofString "Hands"), .prop m_Hands_numbers)] (eOpO [((PySem.Str.ofString "Hands"), m_Hands___add__)] dAdd (eVarT 5) (eVarT 4))) (lCons (eAttr (PySem.Str.ofString "numbers") [((PySem.Str.ofString "Hands"), .prop m_Hands_numbers)] (eMulO [((PySem.Str.ofString "Hands"), m_Hands___mul__, m_Hands___rmul__)] dMul (eVarT 3) (eVarT 4))) (lCons (eAttr (PySem.Str.ofString "numbers") [((PySem.Str.ofString "Hands"), .prop m_Hands_numbers)] (eMulO [((PySem.Str.ofString "Hands"), m_Hands___mul__, m_Hands___rmul__)] dMul (eVarT 4) (eVarT 3))) (lNil)))))))
      (sSeq (sIf (tNotC (tOf (eCall (lenOk 2 (m__law_same 8)) [] (aVar 8 (aSh (eLst (lCons (eVar 6) (lCons (eVar 6) (lCons (eVar 7) (lCons (eVar 7) (lNil)))))) (aNil)))))) (sRet (eC (.bl false))) (sNext))
      (sSeq (sAsg 8 (eLst (lCons (eCall (lenOk 2 m__law_minus) [] (aVar 4 (aVar 5 (aNil)))) (lCons (eCall (lenOk 2 m__law_minus) [] (aVar 5 (aVar 4 (aNil)))) (lNil)))))
      (sSeq (sIf (tNotC (tOf (eCall (lenOk 2 (m__law_same 8)) [] (aVar 8 (aSh (eLst (lCons (eCall (lenOk 2 m__law_due_minus) [] (aVar 1 (aVar 2 (aNil)))) (lCons (eCall (lenOk 2 m__law_due_minus) [] (aVar 2 (aVar 1 (aNil)))) (lNil)))) (aNil)))))) (sRet (eC (.bl false))) (sNext))
      (sSeq (sAsg 8 (eLst (lCons (eCall (lenOk 2 m__law_minus) [] (aSh (eOpO [((PySem.Str.ofString "Hands"), m_Hands___add__)] dAdd (eVarT 4) (eVarT 5)) (aVar 5 (aNil)))) (lCons (eAttr (PySem.Str.ofString "numbers") [((PySem.Str.ofString "Hands"), .prop m_Hands_numbers)] (eVarT 4)) (lCons (eAttr (PySem.Str.ofString "numbers") [((PySem.Str.ofString "Hands"), .prop m_Hands_numbers)] (eVarT 5)) (lNil))))))
      (sSeq (sIf (tNotC (tOf (eCall (lenOk 2 (m__law_same 8)) [] (aVar 8 (aSh (eLst (lCons (eCall (lenOk 1 m__law_trimmed) [] (aVar 1 (aNil))) (lCons (eCall (lenOk 1 m__law_trimmed) [] (aVar 1 (aNil))) (lCons (eCall (lenOk 1 m__law_trimmed) [] (aVar 2 (aNil))) (lNil))))) (aNil)))))) (sRet (eC (.bl false))) (sNext))
      (sSeq (sPar [(9, false, eCall (lenOk 2 m__law_take) [] (aVar 0 (aSh (eC (.int 12)) (aNil)))), (10, false, eCall (lenOk 2 m__law_of) [] (aVar 0 (aSh (eLst (lCons (eC (.int 0)) (lCons (eC (.int 1)) (lCons (eC (.int 3)) (lCons (eCall (lenOk 2 m__law_take) [] (aVar 0 (aSh (e2 dPow (eC (.int 10)) (eC (.int 30))) (aNil)))) (lNil)))))) (aNil))))])
      (sSeq (sAsg 11 (eIf (tOf (e2 dGtU (eVarT 10) (eC (.int 0)))) (eOpO [((PySem.Str.ofString "Hands"), m_Hands___add__)] dAdd (eTup (lCons (eVar 10) (lNil))) (e2 dMulT (eTup (lCons (eC (.int 0)) (lNil))) (eVarT 9))) (eTup (lNil))))
      (sSeq (sIf (tNotC (tOf (eCall (lenOk 2 (m__law_same 8)) [] (aSh (eAttr (PySem.Str.ofString "numbers") [((PySem.Str.ofString "Hands"), .prop m_Hands_numbers)] (eCallG (lenOk 2 m_hand) 2 0 [.p 0, .p 1] [.sh (.int 1)] (aVar 9 (aVar 10 (aNil))) (aNil))) (aVar 11 (aNil)))))) (sRet (eC (.bl false))) (sNext))
      (sRet (eAnd (eCall (lenOk 3 m__law_cut_right) [] (aVar 0 (aVar 4 (aVar 1 (aNil))))) (eCall (lenOk 3 m__law_cut_right) [] (aVar 0 (aVar 5 (aVar 2 (aNil)))))))))))))))))))))
def m__law_case_right : List Ar → M D := mOf 14 g__law_case_right
abbrev s__law_right : Stmt := topS 29
theorem sc__law_right : FnScope [(PySem.Str.ofString "_law_box_here"), (PySem.Str.ofString "_law_turn")] [(PySem.Str.ofString "_law_box_here")] (defScope s__law_right) := ⟨rfl, rfl, rfl, by decide +kernel, rfl, by decide +kernel, by decide +kernel⟩
def g__law_right : SC := sRet (eAnd (eCall (lenOk 0 m__law_by_hand_right) [] aNil) (eB dAll (lCons (eLc (iRange1 (lCons (eC (.int 6)) (lNil))) (gN 1) (tYesC) (eCall (lenOk 1 m__law_case_right) [] (aVar 0 (aNil))) [1]) (lNil))))
def m__law_right : List Ar → M D := mOf 2 g__law_right
abbrev s__law_box : Stmt := topS 14
theorem sc__law_box : FnScope [(PySem.Str.ofString "_law_script"), (PySem.Str.ofString "_law_k"), (PySem.Str.ofString "_law_cell")] [(PySem.Str.ofString "_law_script"), (PySem.Str.ofString "_law_k")] (defScope s__law_box) := ⟨rfl, rfl, rfl, by decide +kernel, rfl, by decide +kernel, by decide +kernel⟩
def m__law_box : List Ar → M D := mFr 3 (sAsg 2 (eIf (tOf (e2 dLtU (eVarT 1) (eB dLenD (lCons (eVarT 0) (lNil))))) (e2 dIxD (eVarT 0) (eVarT 1)) (eC (.int 0)))) (eLst (lCons (e2 dMul (eB dAbs (lCons (eVarT 2) (lNil))) (eB dIntOf (lCons (e2 dGeU (eB dAbs (lCons (eVarT 2) (lNil))) (e2 dPow (eC (.int 10)) (eC (.int 18)))) (lNil)))) (lCons (e2 dAdd (e2 dAdd (e2 dMod (eB dIntOf (lCons (eVarT 2) (lNil))) (eC (.int 2305843009213693951))) (e2 dMul (eC (.int 39373)) (eVarT 1))) (eC (.int 58822))) (lCons (eC (.int 0)) (lNil)))))
abbrev s_law : Stmt := topS 30
theorem sc_law : FnScope [(PySem.Str.ofString "_law_script"), (PySem.Str.ofString "_law_cells_so"), (PySem.Str.ofString "_law_k")] [(PySem.Str.ofString "_law_script")] (defScope s_law) := ⟨rfl, rfl, rfl, by decide +kernel, rfl, by decide +kernel, by decide +kernel⟩
def g_law : SC := sSeq (sAsg 1 (eCall (lenOk 2 m__law_cells) [] (aVar 0 (aSh (eC (.int 3)) (aNil)))))
      (sRet (eB dAll (lCons (eLc (iRange1 (lCons (eB dLenD (lCons (eVarT 1) (lNil))) (lNil))) (gN 2) (tYesC) (eBoxed m__law_right (lenOk 2 m__law_box) (aVar 1 (aVar 2 (aNil)))) [2]) (lNil))))
def m_law : List Ar → M D := mOf 3 g_law
/-- what the written part says -/
structure Txt (P : Program) (w : World) (K : PySem.W.Frag) (mg : Str → Option Value) (base : Heap) (ad : Nat → Addr) (fd : Nat → FuncData) : Prop where
  z_len : mg (PySem.Str.ofString "len") = none
  z_abs : mg (PySem.Str.ofString "abs") = none
  z_max : mg (PySem.Str.ofString "max") = none
  z_int : mg (PySem.Str.ofString "int") = none
  z_str : mg (PySem.Str.ofString "str") = none
  z_list : mg (PySem.Str.ofString "list") = none
  z_tuple : mg (PySem.Str.ofString "tuple") = none
  z_all : mg (PySem.Str.ofString "all") = none
  z_isinstance : mg (PySem.Str.ofString "isinstance") = none
  z_range : mg (PySem.Str.ofString "range") = none
  z_enumerate : mg (PySem.Str.ofString "enumerate") = none
  z_zip : mg (PySem.Str.ofString "zip") = none
  z_bool : mg (PySem.Str.ofString "bool") = none
  z_ValueError : mg (PySem.Str.ofString "ValueError") = none
  z_NotImplemented : mg (PySem.Str.ofString "NotImplemented") = none
  f__law_cells : FunD K (PySem.Str.ofString "_law_cells") (PySem.Str.ofString "_law_cells") (defArgs s__law_cells) (defBody s__law_cells) (defScope s__law_cells) [] [] (ad 16) (fd 16)
  g__law_cells : mg (PySem.Str.ofString "_law_cells") = some (.ref (ad 16))
  b__law_cells : Binds K (fd 16) [(PySem.Str.ofString "_law_script"), (PySem.Str.ofString "_law_most")] []
  f_Hands___init__ : FunD K (PySem.Str.ofString "__init__") (PySem.Str.ofString "Hands.__init__") (defArgs s_Hands___init__) (defBody s_Hands___init__) (defScope s_Hands___init__) [.ref (ad 4000)] [] (ad 2000) (fd 2000)
  me_Hands___init__ : Meth K (ad 9) (PySem.Str.ofString "__init__") (ad 2000)
  f_side_by_side : FunD K (PySem.Str.ofString "side_by_side") (PySem.Str.ofString "side_by_side") (defArgs s_side_by_side) (defBody s_side_by_side) (defScope s_side_by_side) [] [] (ad 10) (fd 10)
  g_side_by_side : mg (PySem.Str.ofString "side_by_side") = some (.ref (ad 10))
  b_side_by_side : Binds K (fd 10) [(PySem.Str.ofString "one"), (PySem.Str.ofString "two")] []
  f_Hands___add__ : FunD K (PySem.Str.ofString "__add__") (PySem.Str.ofString "Hands.__add__") (defArgs s_Hands___add__) (defBody s_Hands___add__) (defScope s_Hands___add__) [] [] (ad 2011) (fd 2011)
  b_Hands___add__ : Binds K (fd 2011) [(PySem.Str.ofString "self"), (PySem.Str.ofString "other")] []
  me_Hands___add__ : Meth K (ad 9) (PySem.Str.ofString "__add__") (ad 2011)
  f_Hands___sub__ : FunD K (PySem.Str.ofString "__sub__") (PySem.Str.ofString "Hands.__sub__") (defArgs s_Hands___sub__) (defBody s_Hands___sub__) (defScope s_Hands___sub__) [] [] (ad 2012) (fd 2012)
  b_Hands___sub__ : Binds K (fd 2012) [(PySem.Str.ofString "self"), (PySem.Str.ofString "other")] []
  me_Hands___sub__ : Meth K (ad 9) (PySem.Str.ofString "__sub__") (ad 2012)
  f__law_same : FunD K (PySem.Str.ofString "_law_same") (PySem.Str.ofString "_law_same") (defArgs s__law_same) (defBody s__law_same) (defScope s__law_same) [] [] (ad 18) (fd 18)
  g__law_same : mg (PySem.Str.ofString "_law_same") = some (.ref (ad 18))
  b__law_same : Binds K (fd 18) [(PySem.Str.ofString "_law_got"), (PySem.Str.ofString "_law_due")] []
  f_Hands_numbers : FunD K (PySem.Str.ofString "numbers") (PySem.Str.ofString "Hands.numbers") (defArgs s_Hands_numbers) (defBody s_Hands_numbers) (defScope s_Hands_numbers) [] [] (ad 2001) (fd 2001)
  b_Hands_numbers : Binds K (fd 2001) [(PySem.Str.ofString "self")] []
  pr_Hands_numbers : PropOf K (ad 9) (PySem.Str.ofString "numbers") (ad 3000) (ad 2001)
  f__law_minus : FunD K (PySem.Str.ofString "_law_minus") (PySem.Str.ofString "_law_minus") (defArgs s__law_minus) (defBody s__law_minus) (defScope s__law_minus) [] [] (ad 23) (fd 23)
  g__law_minus : mg (PySem.Str.ofString "_law_minus") = some (.ref (ad 23))
  b__law_minus : Binds K (fd 23) [(PySem.Str.ofString "_law_one_so"), (PySem.Str.ofString "_law_two_so")] []
  f_Hands___mul__ : FunD K (PySem.Str.ofString "__mul__") (PySem.Str.ofString "Hands.__mul__") (defArgs s_Hands___mul__) (defBody s_Hands___mul__) (defScope s_Hands___mul__) [] [] (ad 2013) (fd 2013)
  b_Hands___mul__ : Binds K (fd 2013) [(PySem.Str.ofString "self"), (PySem.Str.ofString "times")] []
  me_Hands___mul__ : Meth K (ad 9) (PySem.Str.ofString "__mul__") (ad 2013)
  f_Hands___rmul__ : FunD K (PySem.Str.ofString "__rmul__") (PySem.Str.ofString "Hands.__rmul__") (defArgs s_Hands___rmul__) (defBody s_Hands___rmul__) (defScope s_Hands___rmul__) [] [] (ad 2014) (fd 2014)
  b_Hands___rmul__ : Binds K (fd 2014) [(PySem.Str.ofString "self"), (PySem.Str.ofString "times")] []
  me_Hands___rmul__ : Meth K (ad 9) (PySem.Str.ofString "__rmul__") (ad 2014)
  f_Hands___eq__ : FunD K (PySem.Str.ofString "__eq__") (PySem.Str.ofString "Hands.__eq__") (defArgs s_Hands___eq__) (defBody s_Hands___eq__) (defScope s_Hands___eq__) [] [] (ad 2006) (fd 2006)
  b_Hands___eq__ : Binds K (fd 2006) [(PySem.Str.ofString "self"), (PySem.Str.ofString "other")] []
  me_Hands___eq__ : Meth K (ad 9) (PySem.Str.ofString "__eq__") (ad 2006)
  f_hand : FunD K (PySem.Str.ofString "hand") (PySem.Str.ofString "hand") (defArgs s_hand) (defBody s_hand) (defScope s_hand) [.int 1] [] (ad 12) (fd 12)
  g_hand : mg (PySem.Str.ofString "hand") = some (.ref (ad 12))
  f_Hands_cut : FunD K (PySem.Str.ofString "cut") (PySem.Str.ofString "Hands.cut") (defArgs s_Hands_cut) (defBody s_Hands_cut) (defScope s_Hands_cut) [] [] (ad 2015) (fd 2015)
  b_Hands_cut : Binds K (fd 2015) [(PySem.Str.ofString "self")] []
  me_Hands_cut : Meth K (ad 9) (PySem.Str.ofString "cut") (ad 2015)
  f__law_by_hand_right : FunD K (PySem.Str.ofString "_law_by_hand_right") (PySem.Str.ofString "_law_by_hand_right") (defArgs s__law_by_hand_right) (defBody s__law_by_hand_right) (defScope s__law_by_hand_right) [] [] (ad 27) (fd 27)
  g__law_by_hand_right : mg (PySem.Str.ofString "_law_by_hand_right") = some (.ref (ad 27))
  b__law_by_hand_right : Binds K (fd 27) [] []
  f__law_take : FunD K (PySem.Str.ofString "_law_take") (PySem.Str.ofString "_law_take") (defArgs s__law_take) (defBody s__law_take) (defScope s__law_take) [] [] (ad 15) (fd 15)
  g__law_take : mg (PySem.Str.ofString "_law_take") = some (.ref (ad 15))
  b__law_take : Binds K (fd 15) [(PySem.Str.ofString "_law_box_here"), (PySem.Str.ofString "_law_size_so")] []
  f__law_of : FunD K (PySem.Str.ofString "_law_of") (PySem.Str.ofString "_law_of") (defArgs s__law_of) (defBody s__law_of) (defScope s__law_of) [] [] (ad 17) (fd 17)
  g__law_of : mg (PySem.Str.ofString "_law_of") = some (.ref (ad 17))
  b__law_of : Binds K (fd 17) [(PySem.Str.ofString "_law_box_here"), (PySem.Str.ofString "_law_goods_so")] []
  f__law_trimmed : FunD K (PySem.Str.ofString "_law_trimmed") (PySem.Str.ofString "_law_trimmed") (defArgs s__law_trimmed) (defBody s__law_trimmed) (defScope s__law_trimmed) [] [] (ad 19) (fd 19)
  g__law_trimmed : mg (PySem.Str.ofString "_law_trimmed") = some (.ref (ad 19))
  b__law_trimmed : Binds K (fd 19) [(PySem.Str.ofString "_law_row")] []
  f__law_up : FunD K (PySem.Str.ofString "_law_up") (PySem.Str.ofString "_law_up") (defArgs s__law_up) (defBody s__law_up) (defScope s__law_up) [] [] (ad 21) (fd 21)
  g__law_up : mg (PySem.Str.ofString "_law_up") = some (.ref (ad 21))
  b__law_up : Binds K (fd 21) [(PySem.Str.ofString "_law_row")] []
  f_Hands___lt__ : FunD K (PySem.Str.ofString "__lt__") (PySem.Str.ofString "Hands.__lt__") (defArgs s_Hands___lt__) (defBody s_Hands___lt__) (defScope s_Hands___lt__) [] [] (ad 2007) (fd 2007)
  b_Hands___lt__ : Binds K (fd 2007) [(PySem.Str.ofString "self"), (PySem.Str.ofString "other")] []
  me_Hands___lt__ : Meth K (ad 9) (PySem.Str.ofString "__lt__") (ad 2007)
  f_Hands_plain : FunD K (PySem.Str.ofString "plain") (PySem.Str.ofString "Hands.plain") (defArgs s_Hands_plain) (defBody s_Hands_plain) (defScope s_Hands_plain) [] [] (ad 2003) (fd 2003)
  b_Hands_plain : Binds K (fd 2003) [(PySem.Str.ofString "self")] []
  pr_Hands_plain : PropOf K (ad 9) (PySem.Str.ofString "plain") (ad 3002) (ad 2003)
  f_Hands___ge__ : FunD K (PySem.Str.ofString "__ge__") (PySem.Str.ofString "Hands.__ge__") (defArgs s_Hands___ge__) (defBody s_Hands___ge__) (defScope s_Hands___ge__) [] [] (ad 2010) (fd 2010)
  b_Hands___ge__ : Binds K (fd 2010) [(PySem.Str.ofString "self"), (PySem.Str.ofString "other")] []
  me_Hands___ge__ : Meth K (ad 9) (PySem.Str.ofString "__ge__") (ad 2010)
  f__law_cut_due : FunD K (PySem.Str.ofString "_law_cut_due") (PySem.Str.ofString "_law_cut_due") (defArgs s__law_cut_due) (defBody s__law_cut_due) (defScope s__law_cut_due) [] [] (ad 25) (fd 25)
  g__law_cut_due : mg (PySem.Str.ofString "_law_cut_due") = some (.ref (ad 25))
  b__law_cut_due : Binds K (fd 25) [(PySem.Str.ofString "_law_row")] []
  f__law_cut_right : FunD K (PySem.Str.ofString "_law_cut_right") (PySem.Str.ofString "_law_cut_right") (defArgs s__law_cut_right) (defBody s__law_cut_right) (defScope s__law_cut_right) [] [] (ad 26) (fd 26)
  g__law_cut_right : mg (PySem.Str.ofString "_law_cut_right") = some (.ref (ad 26))
  b__law_cut_right : Binds K (fd 26) [(PySem.Str.ofString "_law_box_here"), (PySem.Str.ofString "_law_mine"), (PySem.Str.ofString "_law_row")] []
  f__law_line : FunD K (PySem.Str.ofString "_law_line") (PySem.Str.ofString "_law_line") (defArgs s__law_line) (defBody s__law_line) (defScope s__law_line) [] [] (ad 20) (fd 20)
  g__law_line : mg (PySem.Str.ofString "_law_line") = some (.ref (ad 20))
  b__law_line : Binds K (fd 20) [(PySem.Str.ofString "_law_box_here")] []
  f__law_side : FunD K (PySem.Str.ofString "_law_side") (PySem.Str.ofString "_law_side") (defArgs s__law_side) (defBody s__law_side) (defScope s__law_side) [] [] (ad 22) (fd 22)
  g__law_side : mg (PySem.Str.ofString "_law_side") = some (.ref (ad 22))
  b__law_side : Binds K (fd 22) [(PySem.Str.ofString "_law_row")] []
  f__law_due_minus : FunD K (PySem.Str.ofString "_law_due_minus") (PySem.Str.ofString "_law_due_minus") (defArgs s__law_due_minus) (defBody s__law_due_minus) (defScope s__law_due_minus) [] [] (ad 24) (fd 24)
  g__law_due_minus : mg (PySem.Str.ofString "_law_due_minus") = some (.ref (ad 24))
  b__law_due_minus : Binds K (fd 24) [(PySem.Str.ofString "_law_one"), (PySem.Str.ofString "_law_two")] []
  f__law_case_right : FunD K (PySem.Str.ofString "_law_case_right") (PySem.Str.ofString "_law_case_right") (defArgs s__law_case_right) (defBody s__law_case_right) (defScope s__law_case_right) [] [] (ad 28) (fd 28)
  g__law_case_right : mg (PySem.Str.ofString "_law_case_right") = some (.ref (ad 28))
  b__law_case_right : Binds K (fd 28) [(PySem.Str.ofString "_law_box_here")] []
  f__law_right : FunD K (PySem.Str.ofString "_law_right") (PySem.Str.ofString "_law_right") (defArgs s__law_right) (defBody s__law_right) (defScope s__law_right) [] [] (ad 29) (fd 29)
  g__law_right : mg (PySem.Str.ofString "_law_right") = some (.ref (ad 29))
  b__law_right : Binds K (fd 29) [(PySem.Str.ofString "_law_box_here")] []
  f__law_box : FunD K (PySem.Str.ofString "_law_box") (PySem.Str.ofString "_law_box") (defArgs s__law_box) (defBody s__law_box) (defScope s__law_box) [] [] (ad 14) (fd 14)
  g__law_box : mg (PySem.Str.ofString "_law_box") = some (.ref (ad 14))
  b__law_box : Binds K (fd 14) [(PySem.Str.ofString "_law_script"), (PySem.Str.ofString "_law_k")] []
  f_law : FunD K (PySem.Str.ofString "law") (PySem.Str.ofString "law") (defArgs s_law) (defBody s_law) (defScope s_law) [] [] (ad 30) (fd 30)
  g_law : mg (PySem.Str.ofString "law") = some (.ref (ad 30))
  b_law : Binds K (fd 30) [(PySem.Str.ofString "_law_script")] []
  g_LateError : mg (PySem.Str.ofString "LateError") = some (.ref (ad 1))
  g_BelowZero : mg (PySem.Str.ofString "BelowZero") = some (.ref (ad 2))
  g_BadLine : mg (PySem.Str.ofString "BadLine") = some (.ref (ad 3))
  g_Hands : mg (PySem.Str.ofString "Hands") = some (.ref (ad 9))
  cl_Hands : ClF K (ad 9)
  fl_Hands_own_key : FldOk (TT K ad) (PySem.Str.ofString "Hands") (PySem.Str.ofString "own_key")
  fl_Hands_own_numbers : FldOk (TT K ad) (PySem.Str.ofString "Hands") (PySem.Str.ofString "own_numbers")
  su_Hands : suB K (ad 9) = true
  au_Hands_Add : PySem.W.auB K (ad 9) (PySem.Str.ofString "__iadd__") = true
  au_Hands_Sub : PySem.W.auB K (ad 9) (PySem.Str.ofString "__isub__") = true
  x_BelowZero : XcOk P w K mg base (TT K ad) (PySem.Str.ofString "BelowZero") 0 Rl0 1 (ad 2) (ad 1002) (fd 1002) [(PySem.Str.ofString "self")]
  x_BadLine : XcOk P w K mg base (TT K ad) (PySem.Str.ofString "BadLine") 1 (RlN [(PySem.Str.ofString "number")]) 1 (ad 3) (ad 1003) (fd 1003) [(PySem.Str.ofString "self"), (PySem.Str.ofString "number")]
  k_BadLine : KIn K (fd 1003) [(PySem.Str.ofString "self"), (PySem.Str.ofString "number")] 1 [(PySem.Str.ofString "number")]
  is_Hands : IsiOk (TT K ad) (.ref (ad 9)) is_Hands
  is_bool : IsiOk (TT K ad) (.type "bool") is_bool
  is_int : IsiOk (TT K ad) (.type "int") is_int
  is_list : IsiOk (TT K ad) (.type "list") is_list
  is_tuple : IsiOk (TT K ad) (.type "tuple") is_tuple
  it_bool_str : IsiTk (TT K ad) [.type "bool", .type "str"] it_bool_str
  it_list_tuple : IsiTk (TT K ad) [.type "list", .type "tuple"] it_list_tuple
  xt_BelowZero : XtOk (TT K ad) (.ref (ad 2)) xt_BelowZero
  kb_Hands___init___1 : KBg K (fd 2000) [(PySem.Str.ofString "self"), (PySem.Str.ofString "numbers")] 2 [] [.p 0, .p 1] [.ref (ad 4000)]
  kb_Hands___init___0 : KBg K (fd 2000) [(PySem.Str.ofString "self"), (PySem.Str.ofString "numbers")] 1 [] [.p 0, .d 0] [.ref (ad 4000)]
  kb_hand_2 : KBg K (fd 12) [(PySem.Str.ofString "place"), (PySem.Str.ofString "count")] 2 [] [.p 0, .p 1] [.int 1]
  kb_hand_0_place_count : KBg K (fd 12) [(PySem.Str.ofString "place"), (PySem.Str.ofString "count")] 0 [(PySem.Str.ofString "place"), (PySem.Str.ofString "count")] [.k 0, .k 1] [.int 1]
  kb_hand_1 : KBg K (fd 12) [(PySem.Str.ofString "place"), (PySem.Str.ofString "count")] 1 [] [.p 0, .d 0] [.int 1]
  df_Hands___init__ : Dfl (TT K ad) [.ref (ad 4000)] [.sh (.tup [])]
  df_hand : Dfl (TT K ad) [.int 1] [.sh (.int 1)]
section
variable {P : Program} {w : World} {K : PySem.W.Frag} {mg : Str → Option Value} {base : Heap} {ad : Nat → Addr} {fd : Nat → FuncData}
theorem ok__law_cells (Z : Txt P w K mg base ad fd) : FnOk P w K mg base (L2.CX P w) 1 (ad 16) (fd 16) [(PySem.Str.ofString "_law_script"), (PySem.Str.ofString "_law_most")] (spD (TT K ad) 2 m__law_cells) :=
  Z.f__law_cells.okD (k := 0) sc__law_cells fun cdv A outer s H E hr => by
  exact pss_dcons (ps_down (i := 2) sc__law_cells.nd (by rfl) (by first | exact Or.inl rfl | exact Or.inr rfl) (pf_orL (pf_callTy (call_listU (by rfl)) cf_listU (by rfl) Z.z_list (by decide +kernel) (pq_cons (pd_tr (pd_slice (by rfl) (pq_var 0 (pv 0)) (po_dnone) (po_dsome (pq_var 1 (pv 1))))) (pq_nil))) (pf_one (pf_lst (pl_cons (pd_int) (pl_nil))))))
      (pss_dcons (ps_dfor (passes_of (by rfl)) (by rfl) (pi_denumU (by rfl) (by rfl) Z.z_enumerate (pi_of (pd_slice (by rfl) (pq_var 0 (pv 0)) (po_dsome (pq_var 1 (pv 1))) (po_dsome (pd_tr (pd_int)))))) (pg_dun (by rfl) (by rfl) (pgs_dcons (pg_dname (i := 3) sc__law_cells.nd (by rfl) (by first | exact Or.inl rfl | exact Or.inr rfl)) (pgs_dcons (pg_dname (i := 4) sc__law_cells.nd (by rfl) (by first | exact Or.inl rfl | exact Or.inr rfl)) (pgs_dnil)))) (pss_dcons (ps_dset (i := 5) sc__law_cells.nd (by rfl) (by first | exact Or.inl rfl | exact Or.inr rfl) (pd_op op_mod opd_mod (pd_tr (pd_callTy call_intU cd_int (by rfl) Z.z_int (by decide +kernel) (pq_cons (pq_var 3 (pv 3)) (pq_nil)))) (pq_var 1 (pv 1))))
      (pss_done (ps_dsetL (i := 2) (pv 2) (pq_var 5 (pv 5)) (pd_add (by rfl) (pd_tr (pd_dixD (by rfl) hr.units1 (pq_var 2 (pv 2)) (pq_var 5 (pv 5)))) (pd_tr (pd_op op_mulU opd_mulU (pq_var 4 (pv 4)) (pd_tr (pd_add (by rfl) (pq_var 3 (pv 3)) (pd_tr (pd_int)))))))))))
      (pss_done (ps_dfrz 2 (ps_dret (pd_var 2 (pv 2))))))
theorem ok_Hands___init__ (Z : Txt P w K mg base ad fd) : FnOk P w K mg base (L2.CX P w) 3 (ad 2000) (fd 2000) [(PySem.Str.ofString "self"), (PySem.Str.ofString "numbers")] (spI (TT K ad) (PySem.Str.ofString "Hands") 1 m_Hands___init__) :=
  Z.f_Hands___init__.okI (k := 2) sc_Hands___init__ (by decide) fun cdv A outer s H E hr => by
  exact pss_dcons (ps_dset (i := 2) sc_Hands___init__.nd (by rfl) (by first | exact Or.inl rfl | exact Or.inr rfl) (pd_new (pf_callTy (call_listU (by rfl)) cf_listU (by rfl) Z.z_list (by decide +kernel) (pq_cons (pq_var 1 (pv 1)) (pq_nil)))))
      (pss_dcons (ps_dwhile 1000 (passes_of (by rfl)) ((pw_dand (pt_dcmp (op_gtU hr.units) opd_ordU (pd_tr (pd_callB call_lenV cd_lenD (by rfl) Z.z_len boot_len (pq_cons (pq_var 2 (pv 2)) (pq_nil)))) (pd_tr (pd_int)) (nomark _)) (pw_and1 (pt_dcmp (op_eqU hr.units) opd_eqU (pd_tr (pd_dixD (by rfl) hr.units1 (pq_var 2 (pv 2)) (pd_tr (pd_int)))) (pd_tr (pd_int)) (nomark _)))).pt) (pss_done (ps_dset (i := 2) sc_Hands___init__.nd (by rfl) (by first | exact Or.inl rfl | exact Or.inr rfl) (pd_slice (by rfl) (pq_var 2 (pv 2)) (po_dsome (pd_tr (pd_int))) (po_dnone)))))
      (pss_dcons (ps_dif ((pw_dand (pt_dcmp (op_gtU hr.units) opd_ordU (pd_tr (pd_callB call_lenV cd_lenD (by rfl) Z.z_len boot_len (pq_cons (pq_var 2 (pv 2)) (pq_nil)))) (pd_tr (pd_int)) (nomark _)) (pw_and1 (pt_dcmp (op_ltU hr.units) opd_ordU (pd_tr (pd_dixD (by rfl) hr.units1 (pq_var 2 (pv 2)) (pd_tr (pd_int)))) (pd_tr (pd_int)) (nomark _)))).pt) (pss_done (ps_draise (by rfl) (takes_of (by rfl) (by rfl) (by rfl) (by rfl)) (pmk_0 Z.x_BelowZero (hr.mono (by decide)) (by rfl)))) (pss_dnil))
      (pss_dcons (ps_dfld (by rfl) Z.fl_Hands_own_numbers (pv 0) (pd_callTy call_tuple_of cd_tuple (by rfl) Z.z_tuple (by decide +kernel) (pq_cons (pq_var 2 (pv 2)) (pq_nil))))
      (pss_done (ps_dfld (by rfl) Z.fl_Hands_own_key (pv 0) (pd_tup (pl_cons (pd_callB call_lenV cd_lenD (by rfl) Z.z_len boot_len (pq_cons (pq_var 2 (pv 2)) (pq_nil))) (pl_cons (pd_attr (by rfl) (TabOk.cons (attr_fld Z.fl_Hands_own_numbers) (TabOk.nil)) (pq_var 0 (pv 0))) (pl_nil)))))))))
theorem ok_side_by_side (Z : Txt P w K mg base ad fd) : FnOk P w K mg base (L2.CX P w) 1 (ad 10) (fd 10) [(PySem.Str.ofString "one"), (PySem.Str.ofString "two")] (spD (TT K ad) 2 m_side_by_side) :=
  Z.f_side_by_side.okD (k := 0) sc_side_by_side fun cdv A outer s H E hr => by
  exact pss_dcons (ps_dset (i := 2) sc_side_by_side.nd (by rfl) (by first | exact Or.inl rfl | exact Or.inr rfl) (pd_callB (call_max2 (by rfl)) cd_max (by rfl) Z.z_max (by decide +kernel) (pq_cons (pd_tr (pd_callB call_lenV cd_lenD (by rfl) Z.z_len boot_len (pq_cons (pq_var 0 (pv 0)) (pq_nil)))) (pq_cons (pd_tr (pd_callB call_lenV cd_lenD (by rfl) Z.z_len boot_len (pq_cons (pq_var 1 (pv 1)) (pq_nil)))) (pq_nil)))))
      (pss_done (ps_dret (pd_new (pf_lzip (by rfl) (by rfl) (by rfl) Z.z_list (by rfl) Z.z_zip (pd_tr (pd_add (by rfl) (pd_tr (pd_op op_rep1 opd_mulT (pd_tr (pd_tup (pl_cons (pd_int) (pl_nil)))) (pd_tr (pd_op op_sub opd_sub (pq_var 2 (pv 2)) (pd_tr (pd_callB call_lenV cd_lenD (by rfl) Z.z_len boot_len (pq_cons (pq_var 0 (pv 0)) (pq_nil)))))))) (pq_var 0 (pv 0)))) (pd_tr (pd_add (by rfl) (pd_tr (pd_op op_rep1 opd_mulT (pd_tr (pd_tup (pl_cons (pd_int) (pl_nil)))) (pd_tr (pd_op op_sub opd_sub (pq_var 2 (pv 2)) (pd_tr (pd_callB call_lenV cd_lenD (by rfl) Z.z_len boot_len (pq_cons (pq_var 1 (pv 1)) (pq_nil)))))))) (pq_var 1 (pv 1))))))))
theorem ok_Hands___add__ (Z : Txt P w K mg base ad fd) : FnOk P w K mg base (L2.CX P w) 5 (ad 2011) (fd 2011) [(PySem.Str.ofString "self"), (PySem.Str.ofString "other")] (spD (TT K ad) 2 m_Hands___add__) :=
  Z.f_Hands___add__.okD (k := 4) sc_Hands___add__ fun cdv A outer s H E hr => by
  exact pss_dcons (ps_dif (pt_dnot (pt_of (pd_tr (pd_isi (by rfl) Z.is_Hands (.own _) (by rfl) Z.z_isinstance (pq_var 1 (pv 1)) (pe_glob (by rfl) Z.g_Hands (by rfl)))))) (pss_done (ps_dno)) (pss_dnil))
      (pss_done (ps_dret (pd_makeG (n := 1) (N := 1) (ks := []) (sel := [.p 0]) (das := [.sh (.tup [])]) ⟨_, _, _, _, _, _, (by rfl), Z.cl_Hands.mkOf Z.me_Hands___init__, ok_Hands___init__ Z, (hr.mono (by decide)), Z.g_Hands, Z.kb_Hands___init___1, Z.df_Hands___init__⟩ (by rfl) (takes_of (by rfl) (by rfl) (by rfl) (by rfl)) (pa_dsh (pd_new (pf_lc (by rfl) sc_Hands___add__.nd (pi_seq (by rfl) (pi_of (pd_call (ok_side_by_side Z) (hr.mono (by decide)) (by rfl) Z.g_side_by_side Z.f_side_by_side.kp Z.b_side_by_side .nil (fun _ _ _ => .nil) (takes_of (by rfl) (by rfl) (by rfl) (by rfl)) (pa_dsh (pd_attr (by rfl) (TabOk.cons (attr_fld Z.fl_Hands_own_numbers) (TabOk.nil)) (pq_var 0 (pv 0))) (pa_dsh (pd_attr (by rfl) (TabOk.cons (attr_fld Z.fl_Hands_own_numbers) (TabOk.nil)) (pq_var 1 (pv 1))) (pa_dnil)))))) (blkOk_by (own := [((PySem.Str.ofString "one"), 2), ((PySem.Str.ofString "two"), 3)]) (by rfl)) (fun _ _ _ _ _ => pg_dun (by rfl) (by rfl) (pgs_dcons (pg_dname (i := 2) sc_Hands___add__.nd (by rfl) (by first | exact Or.inl rfl | exact Or.inr rfl)) (pgs_dcons (pg_dname (i := 3) sc_Hands___add__.nd (by rfl) (by first | exact Or.inl rfl | exact Or.inr rfl)) (pgs_dnil)))) (fun _ _ _ _ _ => pts_dnil) (fun _ _ _ _ _ => pd_add (by rfl) (pq_var 2 (pv 2)) (pq_var 3 (pv 3))))) (pa_dnil)) (pk_dnil))))
theorem ok_Hands___sub__ (Z : Txt P w K mg base ad fd) : FnOk P w K mg base (L2.CX P w) 5 (ad 2012) (fd 2012) [(PySem.Str.ofString "self"), (PySem.Str.ofString "other")] (spD (TT K ad) 2 m_Hands___sub__) :=
  Z.f_Hands___sub__.okD (k := 4) sc_Hands___sub__ fun cdv A outer s H E hr => by
  exact pss_dcons (ps_dif (pt_dnot (pt_of (pd_tr (pd_isi (by rfl) Z.is_Hands (.own _) (by rfl) Z.z_isinstance (pq_var 1 (pv 1)) (pe_glob (by rfl) Z.g_Hands (by rfl)))))) (pss_done (ps_dno)) (pss_dnil))
      (pss_done (ps_dret (pd_makeG (n := 1) (N := 1) (ks := []) (sel := [.p 0]) (das := [.sh (.tup [])]) ⟨_, _, _, _, _, _, (by rfl), Z.cl_Hands.mkOf Z.me_Hands___init__, ok_Hands___init__ Z, (hr.mono (by decide)), Z.g_Hands, Z.kb_Hands___init___1, Z.df_Hands___init__⟩ (by rfl) (takes_of (by rfl) (by rfl) (by rfl) (by rfl)) (pa_dsh (pd_new (pf_lc (by rfl) sc_Hands___sub__.nd (pi_seq (by rfl) (pi_of (pd_call (ok_side_by_side Z) (hr.mono (by decide)) (by rfl) Z.g_side_by_side Z.f_side_by_side.kp Z.b_side_by_side .nil (fun _ _ _ => .nil) (takes_of (by rfl) (by rfl) (by rfl) (by rfl)) (pa_dsh (pd_attr (by rfl) (TabOk.cons (attr_fld Z.fl_Hands_own_numbers) (TabOk.nil)) (pq_var 0 (pv 0))) (pa_dsh (pd_attr (by rfl) (TabOk.cons (attr_fld Z.fl_Hands_own_numbers) (TabOk.nil)) (pq_var 1 (pv 1))) (pa_dnil)))))) (blkOk_by (own := [((PySem.Str.ofString "one"), 2), ((PySem.Str.ofString "two"), 3)]) (by rfl)) (fun _ _ _ _ _ => pg_dun (by rfl) (by rfl) (pgs_dcons (pg_dname (i := 2) sc_Hands___sub__.nd (by rfl) (by first | exact Or.inl rfl | exact Or.inr rfl)) (pgs_dcons (pg_dname (i := 3) sc_Hands___sub__.nd (by rfl) (by first | exact Or.inl rfl | exact Or.inr rfl)) (pgs_dnil)))) (fun _ _ _ _ _ => pts_dnil) (fun _ _ _ _ _ => pd_op op_sub opd_sub (pq_var 2 (pv 2)) (pq_var 3 (pv 3))))) (pa_dnil)) (pk_dnil))))
theorem ok__law_same (Z : Txt P w K mg base ad fd) : ∀ n : Nat, FnOk P w K mg base (L2.CX P w) (1 + n) (ad 18) (fd 18) [(PySem.Str.ofString "_law_got"), (PySem.Str.ofString "_law_due")] (spD (TT K ad) 2 (m__law_same n))
  | 0 => ⟨fun vs H Q E ⟨_, _, _, _, _, z⟩ => z.elim, fun A outer s H args us vs Q E _ _ _ _ ⟨_, _, _, _, _, z⟩ => z.elim⟩
  | n + 1 => Z.f__law_same.okD (k := 1 + n) sc__law_same fun cdv A outer s H E hr => by
    have hself := ok__law_same Z n
    have hr0 : Room (1 + n) _ := hr
    exact pss_dcons (ps_dif (pt_of (pd_tr (pd_isiT (by rfl) Z.it_list_tuple (.cons (.ty _) (.cons (.ty _) .nil)) (by rfl) Z.z_isinstance (pq_var 1 (pv 1)) (pe_bltn (u := .type "list") (by rfl) Z.z_list (by decide +kernel) (by rfl)) (pe_bltn (u := .type "tuple") (by rfl) Z.z_tuple (by decide +kernel) (by rfl))))) (pss_dcons (ps_dif (pt_dcmp (op_neU hr.units) opd_neU (pd_tr (pd_isi (by rfl) Z.is_list (.ty _) (by rfl) Z.z_isinstance (pq_var 0 (pv 0)) (pe_bltn (u := .type "list") (by rfl) Z.z_list (by decide +kernel) (by rfl)))) (pd_tr (pd_isi (by rfl) Z.is_list (.ty _) (by rfl) Z.z_isinstance (pq_var 1 (pv 1)) (pe_bltn (u := .type "list") (by rfl) Z.z_list (by decide +kernel) (by rfl)))) (nomark _)) (pss_done (ps_dret (pd_bl))) (pss_dnil))
      (pss_dcons (ps_dif (pt_dcmp (op_neU hr.units) opd_neU (pd_tr (pd_isi (by rfl) Z.is_tuple (.ty _) (by rfl) Z.z_isinstance (pq_var 0 (pv 0)) (pe_bltn (u := .type "tuple") (by rfl) Z.z_tuple (by decide +kernel) (by rfl)))) (pd_tr (pd_isi (by rfl) Z.is_tuple (.ty _) (by rfl) Z.z_isinstance (pq_var 1 (pv 1)) (pe_bltn (u := .type "tuple") (by rfl) Z.z_tuple (by decide +kernel) (by rfl)))) (nomark _)) (pss_done (ps_dret (pd_bl))) (pss_dnil))
      (pss_done (ps_dret (pd_and (pd_tr (pd_cmp (op_eqU hr.units) opd_eqU (pd_tr (pd_callB call_lenV cd_lenD (by rfl) Z.z_len boot_len (pq_cons (pq_var 0 (pv 0)) (pq_nil)))) (pd_tr (pd_callB call_lenV cd_lenD (by rfl) Z.z_len boot_len (pq_cons (pq_var 1 (pv 1)) (pq_nil)))) (nomark _))) (pd_one (pd_callB (cr_all (by rfl)) cd_all rfl Z.z_all (by decide +kernel) (pq_cons (pd_tr (pd_new (pf_lc (by rfl) sc__law_same.nd (pi_dzip (by rfl) (by rfl) Z.z_zip (pi_var 0 (pv 0)) (pi_var 1 (pv 1))) (blkOk_by (own := [((PySem.Str.ofString "_law_mine"), 2), ((PySem.Str.ofString "_law_its"), 3)]) (by rfl)) (fun _ _ _ _ _ => pg_dun (by rfl) (by rfl) (pgs_dcons (pg_dname (i := 2) sc__law_same.nd (by rfl) (by first | exact Or.inl rfl | exact Or.inr rfl)) (pgs_dcons (pg_dname (i := 3) sc__law_same.nd (by rfl) (by first | exact Or.inl rfl | exact Or.inr rfl)) (pgs_dnil)))) (fun _ _ _ _ _ => pts_dnil) (fun _ _ _ _ _ => pd_call hself (hr.mono (by omega)) (by rfl) Z.g__law_same Z.f__law_same.kp Z.b__law_same .nil (fun _ _ _ => .nil) takes0 (pa_dvar 2 (pv 2) (pa_dvar 3 (pv 3) (pa_dnil))))))) (pq_nil))))))))) (pss_dnil))
      (pss_dcons (ps_dif ((pw_dor (pt_dcmp op_isN opd_isN (pq_var 1 (pv 1)) (pd_tr (pd_non)) (nomark _)) (pw_or1 (pt_of (pd_tr (pd_isiT (by rfl) Z.it_bool_str (.cons (.ty _) (.cons (.ty _) .nil)) (by rfl) Z.z_isinstance (pq_var 1 (pv 1)) (pe_bltn (u := .type "bool") (by rfl) Z.z_bool (by decide +kernel) (by rfl)) (pe_bltn (u := .type "str") (by rfl) Z.z_str (by decide +kernel) (by rfl))))))).pt) (pss_done (ps_dret (pd_and (pd_tr (pd_cmp (op_eqU hr.units) opd_eqU (pq_var 0 (pv 0)) (pq_var 1 (pv 1)) (nomark _))) (pd_and (pd_tr (pd_cmp (op_eqU hr.units) opd_eqU (pd_tr (pd_isi (by rfl) Z.is_bool (.ty _) (by rfl) Z.z_isinstance (pq_var 0 (pv 0)) (pe_bltn (u := .type "bool") (by rfl) Z.z_bool (by decide +kernel) (by rfl)))) (pd_tr (pd_isi (by rfl) Z.is_bool (.ty _) (by rfl) Z.z_isinstance (pq_var 1 (pv 1)) (pe_bltn (u := .type "bool") (by rfl) Z.z_bool (by decide +kernel) (by rfl)))) (nomark _))) (pd_one (pd_cmp (op_eqU hr.units) opd_eqU (pd_tr (pd_cmp op_isN opd_isN (pq_var 0 (pv 0)) (pd_tr (pd_non)) (nomark _))) (pd_tr (pd_cmp op_isN opd_isN (pq_var 1 (pv 1)) (pd_tr (pd_non)) (nomark _))) (nomark _))))))) (pss_dnil))
      (pss_done (ps_dret (pd_and (pd_tr (pd_isi (by rfl) Z.is_int (.ty _) (by rfl) Z.z_isinstance (pq_var 0 (pv 0)) (pe_bltn (u := .type "int") (by rfl) Z.z_int (by decide +kernel) (by rfl)))) (pd_and (pd_tr (pd_not (pd_tr (pd_isi (by rfl) Z.is_bool (.ty _) (by rfl) Z.z_isinstance (pq_var 0 (pv 0)) (pe_bltn (u := .type "bool") (by rfl) Z.z_bool (by decide +kernel) (by rfl)))))) (pd_one (pd_cmp (op_eqU hr.units) opd_eqU (pq_var 0 (pv 0)) (pq_var 1 (pv 1)) (nomark _))))))))
theorem ok_Hands_numbers (Z : Txt P w K mg base ad fd) : FnOk P w K mg base (L2.CX P w) 1 (ad 2001) (fd 2001) [(PySem.Str.ofString "self")] (spD (TT K ad) 1 m_Hands_numbers) :=
  Z.f_Hands_numbers.okD (k := 0) sc_Hands_numbers fun cdv A outer s H E hr => by
  exact pss_done (ps_dret (pd_attr (by rfl) (TabOk.cons (attr_fld Z.fl_Hands_own_numbers) (TabOk.nil)) (pq_var 0 (pv 0))))
theorem ok__law_minus (Z : Txt P w K mg base ad fd) : FnOk P w K mg base (L2.CX P w) 7 (ad 23) (fd 23) [(PySem.Str.ofString "_law_one_so"), (PySem.Str.ofString "_law_two_so")] (spD (TT K ad) 2 m__law_minus) :=
  Z.f__law_minus.okD (k := 6) sc__law_minus fun cdv A outer s H E hr => by
  exact pss_dcons (ps_dasg (pd_tup (pl_cons (pd_non) (pl_cons (pd_non) (pl_nil)))) (pg_dun (by rfl) (by rfl) (pgs_dcons (pg_dname (i := 2) sc__law_minus.nd (by rfl) (by first | exact Or.inl rfl | exact Or.inr rfl)) (pgs_dcons (pg_dname (i := 3) sc__law_minus.nd (by rfl) (by first | exact Or.inl rfl | exact Or.inr rfl)) (pgs_dnil)))))
      (pss_dcons (ps_dtry (i := 4) (j := 2) (L := xt_BelowZero) (by rfl) (by rfl) (by rfl) (by rfl) sc__law_minus.nd (by rfl) (by rfl) (by rfl) (by first | exact Or.inl rfl | exact Or.inr rfl) (by first | exact Or.inl rfl | exact Or.inr rfl) ⟨(by rfl), by decide, .inl Z.g_BelowZero⟩ Z.xt_BelowZero (takes_of (by rfl) (by rfl) (by rfl) (by rfl)) (fun W1 pn1 xe1 tk1 po1 => pss_done (ps_dset (i := 3) sc__law_minus.nd (by rfl) (by first | exact Or.inl rfl | exact Or.inr rfl) (pd_opO op_sub opd_sub tk1 (TabOk.cons (ownOk_mk (by rfl) Z.cl_Hands Z.me_Hands___sub__ (ok_Hands___sub__ Z) (hr.mono (by decide)) Z.b_Hands___sub__) (TabOk.nil)) (pq_var 0 (pv 0)) (pq_var 1 (pv 1))))) (fun _ _ _ => pss_one (ps_set (i := 2) sc__law_minus.nd (by rfl) (by first | exact Or.inl rfl | exact Or.inr rfl) (pv 4))))
      (pss_done (ps_dret (pd_if (pt_dcmp op_isN opd_isN (pq_var 2 (pv 2)) (pd_tr (pd_non)) (nomark _)) (pd_attr (by rfl) (TabOk.cons (attr_prop (by rfl) Z.cl_Hands Z.pr_Hands_numbers (ok_Hands_numbers Z) (hr.mono (by decide)) Z.b_Hands_numbers) (TabOk.nil)) (pq_var 3 (pv 3))) (pd_str)))))
theorem ok_Hands___mul__ (Z : Txt P w K mg base ad fd) : FnOk P w K mg base (L2.CX P w) 5 (ad 2013) (fd 2013) [(PySem.Str.ofString "self"), (PySem.Str.ofString "times")] (spD (TT K ad) 2 m_Hands___mul__) :=
  Z.f_Hands___mul__.okD (k := 4) sc_Hands___mul__ fun cdv A outer s H E hr => by
  exact pss_done (ps_dret (pd_makeG (n := 1) (N := 1) (ks := []) (sel := [.p 0]) (das := [.sh (.tup [])]) ⟨_, _, _, _, _, _, (by rfl), Z.cl_Hands.mkOf Z.me_Hands___init__, ok_Hands___init__ Z, (hr.mono (by decide)), Z.g_Hands, Z.kb_Hands___init___1, Z.df_Hands___init__⟩ (by rfl) (takes_of (by rfl) (by rfl) (by rfl) (by rfl)) (pa_dsh (pd_new (pf_lc (by rfl) sc_Hands___mul__.nd (pi_seq (by rfl) (pi_of (pd_attr (by rfl) (TabOk.cons (attr_fld Z.fl_Hands_own_numbers) (TabOk.nil)) (pq_var 0 (pv 0))))) (blkOk_by (own := [((PySem.Str.ofString "number"), 2)]) (by rfl)) (fun _ _ _ _ _ => pg_dname (i := 2) sc_Hands___mul__.nd (by rfl) (by first | exact Or.inl rfl | exact Or.inr rfl)) (fun _ _ _ _ _ => pts_dnil) (fun _ _ _ _ _ => pd_op op_mulU opd_mulU (pq_var 2 (pv 2)) (pq_var 1 (pv 1))))) (pa_dnil)) (pk_dnil)))
theorem ok_Hands___rmul__ (Z : Txt P w K mg base ad fd) : FnOk P w K mg base (L2.CX P w) 5 (ad 2014) (fd 2014) [(PySem.Str.ofString "self"), (PySem.Str.ofString "times")] (spD (TT K ad) 2 m_Hands___rmul__) :=
  Z.f_Hands___rmul__.okD (k := 4) sc_Hands___rmul__ fun cdv A outer s H E hr => by
  exact pss_done (ps_dret (pd_makeG (n := 1) (N := 1) (ks := []) (sel := [.p 0]) (das := [.sh (.tup [])]) ⟨_, _, _, _, _, _, (by rfl), Z.cl_Hands.mkOf Z.me_Hands___init__, ok_Hands___init__ Z, (hr.mono (by decide)), Z.g_Hands, Z.kb_Hands___init___1, Z.df_Hands___init__⟩ (by rfl) (takes_of (by rfl) (by rfl) (by rfl) (by rfl)) (pa_dsh (pd_new (pf_lc (by rfl) sc_Hands___rmul__.nd (pi_seq (by rfl) (pi_of (pd_attr (by rfl) (TabOk.cons (attr_fld Z.fl_Hands_own_numbers) (TabOk.nil)) (pq_var 0 (pv 0))))) (blkOk_by (own := [((PySem.Str.ofString "number"), 2)]) (by rfl)) (fun _ _ _ _ _ => pg_dname (i := 2) sc_Hands___rmul__.nd (by rfl) (by first | exact Or.inl rfl | exact Or.inr rfl)) (fun _ _ _ _ _ => pts_dnil) (fun _ _ _ _ _ => pd_op op_mulU opd_mulU (pq_var 2 (pv 2)) (pq_var 1 (pv 1))))) (pa_dnil)) (pk_dnil)))
theorem ok_Hands___eq__ (Z : Txt P w K mg base ad fd) : FnOk P w K mg base (L2.CX P w) 1 (ad 2006) (fd 2006) [(PySem.Str.ofString "self"), (PySem.Str.ofString "other")] (spD (TT K ad) 2 m_Hands___eq__) :=
  Z.f_Hands___eq__.okD (k := 0) sc_Hands___eq__ fun cdv A outer s H E hr => by
  exact pss_dcons (ps_dif (pt_dnot (pt_of (pd_tr (pd_isi (by rfl) Z.is_Hands (.own _) (by rfl) Z.z_isinstance (pq_var 1 (pv 1)) (pe_glob (by rfl) Z.g_Hands (by rfl)))))) (pss_done (ps_dno)) (pss_dnil))
      (pss_done (ps_dret (pd_cmp (op_eqU hr.units) opd_eqU (pd_tr (pd_attr (by rfl) (TabOk.cons (attr_fld Z.fl_Hands_own_key) (TabOk.nil)) (pq_var 0 (pv 0)))) (pd_tr (pd_attr (by rfl) (TabOk.cons (attr_fld Z.fl_Hands_own_key) (TabOk.nil)) (pq_var 1 (pv 1)))) (nomark _))))
def nt_Hands : List Ar → M Bool := fun as => (tNotC (tOf (e1 (dIsi is_Hands) (eVarT 1)))) (as.map arSl ++ List.replicate (2 - as.length) .no)
theorem nit_Hands (fs : List (Str × D)) (y : D) (x : Bx) (h : frn y = true) : nt_Hands [.bo (.obj (PySem.Str.ofString "Hands") fs), .bo y] x = .ok true x := by cases y <;> first | rfl | cases h
theorem ni_Hands (Z : Txt P w K mg base ad fd) : FnNI P w K mg base (TT K ad) 1 (ad 2006) (fd 2006) [(PySem.Str.ofString "self"), (PySem.Str.ofString "other")] nt_Hands :=
  Z.f_Hands___eq__.okNI (k := 0) sc_Hands___eq__ rfl Z.z_NotImplemented fun cdv A outer s H E hr => ⟨by exact pt_dnot (pt_of (pd_tr (pd_isi (by rfl) Z.is_Hands (.own _) (by rfl) Z.z_isinstance (pq_var 1 (pv 1)) (pe_glob (by rfl) Z.g_Hands (by rfl))))), rfl⟩
theorem ok_hand (Z : Txt P w K mg base ad fd) : FnOk P w K mg base (L2.CX P w) 5 (ad 12) (fd 12) [(PySem.Str.ofString "place"), (PySem.Str.ofString "count")] (spD (TT K ad) 2 m_hand) :=
  Z.f_hand.okD (k := 4) sc_hand fun cdv A outer s H E hr => by
  exact pss_done (ps_dret (pd_makeG (n := 1) (N := 1) (ks := []) (sel := [.p 0]) (das := [.sh (.tup [])]) ⟨_, _, _, _, _, _, (by rfl), Z.cl_Hands.mkOf Z.me_Hands___init__, ok_Hands___init__ Z, (hr.mono (by decide)), Z.g_Hands, Z.kb_Hands___init___1, Z.df_Hands___init__⟩ (by rfl) (takes_of (by rfl) (by rfl) (by rfl) (by rfl)) (pa_dsh (pd_add (by rfl) (pd_tr (pd_new (pf_lst (pl_cons (pd_var 1 (pv 1)) (pl_nil))))) (pd_tr (pd_op op_mulU opd_mulU (pd_tr (pd_new (pf_lst (pl_cons (pd_int) (pl_nil))))) (pq_var 0 (pv 0))))) (pa_dnil)) (pk_dnil)))
theorem ok_Hands_cut (Z : Txt P w K mg base ad fd) : FnOk P w K mg base (L2.CX P w) 5 (ad 2015) (fd 2015) [(PySem.Str.ofString "self")] (spD (TT K ad) 1 m_Hands_cut) :=
  Z.f_Hands_cut.okD (k := 4) sc_Hands_cut fun cdv A outer s H E hr => by
  exact pss_dcons (ps_down (i := 1) sc_Hands_cut.nd (by rfl) (by first | exact Or.inl rfl | exact Or.inr rfl) (pf_lst (pl_nil)))
      (pss_dcons (ps_dfor (passes_of (by rfl)) (by rfl) (pi_seq (by rfl) (pi_of (pd_attr (by rfl) (TabOk.cons (attr_fld Z.fl_Hands_own_numbers) (TabOk.nil)) (pq_var 0 (pv 0))))) (pg_dname (i := 2) sc_Hands_cut.nd (by rfl) (by first | exact Or.inl rfl | exact Or.inr rfl)) (pss_dcons (ps_dif (pt_dcmp (op_ltU hr.units) opd_ordU (pq_var 2 (pv 2)) (pd_tr (pd_int)) (nomark _)) (pss_done (ps_dbreak)) (pss_dnil))
      (pss_done (ps_dapp (by rfl) (pv 1) (pd_var 2 (pv 2))))))
      (pss_done (ps_dfrz 1 (ps_dret (pd_makeG (n := 1) (N := 1) (ks := []) (sel := [.p 0]) (das := [.sh (.tup [])]) ⟨_, _, _, _, _, _, (by rfl), Z.cl_Hands.mkOf Z.me_Hands___init__, ok_Hands___init__ Z, (hr.mono (by decide)), Z.g_Hands, Z.kb_Hands___init___1, Z.df_Hands___init__⟩ (by rfl) (takes_of (by rfl) (by rfl) (by rfl) (by rfl)) (pa_dsh (pd_add (by rfl) (pq_var 1 (pv 1)) (pd_tr (pd_op op_mulU opd_mulU (pd_tr (pd_new (pf_lst (pl_cons (pd_int) (pl_nil))))) (pd_tr (pd_op op_sub opd_sub (pd_tr (pd_callB call_lenV cd_lenD (by rfl) Z.z_len boot_len (pq_cons (pd_tr (pd_attr (by rfl) (TabOk.cons (attr_fld Z.fl_Hands_own_numbers) (TabOk.nil)) (pq_var 0 (pv 0)))) (pq_nil)))) (pd_tr (pd_callB call_lenV cd_lenD (by rfl) Z.z_len boot_len (pq_cons (pq_var 1 (pv 1)) (pq_nil))))))))) (pa_dnil)) (pk_dnil))))))
theorem ok__law_by_hand_right (Z : Txt P w K mg base ad fd) : FnOk P w K mg base (L2.CX P w) 11 (ad 27) (fd 27) [] (spD (TT K ad) 0 m__law_by_hand_right) :=
  Z.f__law_by_hand_right.okD (k := 10) sc__law_by_hand_right fun cdv A outer s H E hr => by
  exact pss_dcons (ps_dpar (by rfl) sc__law_by_hand_right.nd (by rfl) (by rfl) (by decide) (by rfl) (by rfl) (par_cons (.sh (pd_makeG (n := 1) (N := 1) (ks := []) (sel := [.p 0]) (das := [.sh (.tup [])]) ⟨_, _, _, _, _, _, (by rfl), Z.cl_Hands.mkOf Z.me_Hands___init__, ok_Hands___init__ Z, (hr.mono (by decide)), Z.g_Hands, Z.kb_Hands___init___1, Z.df_Hands___init__⟩ (by rfl) (takes_of (by rfl) (by rfl) (by rfl) (by rfl)) (pa_dsh (pd_tup (pl_cons (pd_int) (pl_cons (pd_int) (pl_cons (pd_int) (pl_nil))))) (pa_dnil)) (pk_dnil))) (par_cons (.sh (pd_makeG (n := 1) (N := 1) (ks := []) (sel := [.p 0]) (das := [.sh (.tup [])]) ⟨_, _, _, _, _, _, (by rfl), Z.cl_Hands.mkOf Z.me_Hands___init__, ok_Hands___init__ Z, (hr.mono (by decide)), Z.g_Hands, Z.kb_Hands___init___1, Z.df_Hands___init__⟩ (by rfl) (takes_of (by rfl) (by rfl) (by rfl) (by rfl)) (pa_dsh (pd_tup (pl_cons (pd_int) (pl_cons (pd_int) (pl_nil)))) (pa_dnil)) (pk_dnil))) (par_nil) (by decide)) (by decide)) (by rfl))
      (pss_dcons (ps_dset (i := 2) sc__law_by_hand_right.nd (by rfl) (by first | exact Or.inl rfl | exact Or.inr rfl) (pd_new (pf_lst (pl_cons (pd_attr (by rfl) (TabOk.cons (attr_prop (by rfl) Z.cl_Hands Z.pr_Hands_numbers (ok_Hands_numbers Z) (hr.mono (by decide)) Z.b_Hands_numbers) (TabOk.nil)) (pd_tr (pd_addO (by rfl) (takes_of (by rfl) (by rfl) (by rfl) (by rfl)) (TabOk.cons (ownOk_mk (by rfl) Z.cl_Hands Z.me_Hands___add__ (ok_Hands___add__ Z) (hr.mono (by decide)) Z.b_Hands___add__) (TabOk.nil)) (pq_var 0 (pv 0)) (pq_var 1 (pv 1))))) (pl_cons (pd_call (ok__law_minus Z) (hr.mono (by decide)) (by rfl) Z.g__law_minus Z.f__law_minus.kp Z.b__law_minus .nil (fun _ _ _ => .nil) (takes_of (by rfl) (by rfl) (by rfl) (by rfl)) (pa_dvar 0 (pv 0) (pa_dvar 1 (pv 1) (pa_dnil)))) (pl_cons (pd_call (ok__law_minus Z) (hr.mono (by decide)) (by rfl) Z.g__law_minus Z.f__law_minus.kp Z.b__law_minus .nil (fun _ _ _ => .nil) (takes_of (by rfl) (by rfl) (by rfl) (by rfl)) (pa_dvar 1 (pv 1) (pa_dvar 0 (pv 0) (pa_dnil)))) (pl_cons (pd_attr (by rfl) (TabOk.cons (attr_prop (by rfl) Z.cl_Hands Z.pr_Hands_numbers (ok_Hands_numbers Z) (hr.mono (by decide)) Z.b_Hands_numbers) (TabOk.nil)) (pd_tr (pd_mulO op_mulU opd_mulU (takes_of (by rfl) (by rfl) (by rfl) (by rfl)) (mulTab (mulOk_mk (k := 5) (by rfl) Z.cl_Hands Z.su_Hands Z.me_Hands___mul__ Z.me_Hands___rmul__ ((ok_Hands___mul__ Z).mono (by decide)) ((ok_Hands___rmul__ Z).mono (by decide)) (hr.mono (by decide)) Z.b_Hands___mul__ Z.b_Hands___rmul__)) (pd_tr (pd_int)) (pq_var 1 (pv 1))))) (pl_cons (pd_attr (by rfl) (TabOk.cons (attr_prop (by rfl) Z.cl_Hands Z.pr_Hands_numbers (ok_Hands_numbers Z) (hr.mono (by decide)) Z.b_Hands_numbers) (TabOk.nil)) (pd_tr (pd_mulO op_mulU opd_mulU (takes_of (by rfl) (by rfl) (by rfl) (by rfl)) (mulTab (mulOk_mk (k := 5) (by rfl) Z.cl_Hands Z.su_Hands Z.me_Hands___mul__ Z.me_Hands___rmul__ ((ok_Hands___mul__ Z).mono (by decide)) ((ok_Hands___rmul__ Z).mono (by decide)) (hr.mono (by decide)) Z.b_Hands___mul__ Z.b_Hands___rmul__)) (pq_var 1 (pv 1)) (pd_tr (pd_int))))) (pl_nil)))))))))
      (pss_dcons (ps_dset (i := 3) sc__law_by_hand_right.nd (by rfl) (by first | exact Or.inl rfl | exact Or.inr rfl) (pd_new (pf_lst (pl_cons (pd_tup (pl_cons (pd_int) (pl_cons (pd_int) (pl_cons (pd_int) (pl_nil))))) (pl_cons (pd_tup (pl_cons (pd_int) (pl_cons (pd_neg (pd_tr (pd_int))) (pl_cons (pd_neg (pd_tr (pd_int))) (pl_nil))))) (pl_cons (pd_str) (pl_cons (pd_tup (pl_cons (pd_int) (pl_cons (pd_int) (pl_nil)))) (pl_cons (pd_tup (pl_nil)) (pl_nil)))))))))
      (pss_dcons (ps_dset (i := 2) sc__law_by_hand_right.nd (by rfl) (by first | exact Or.inl rfl | exact Or.inr rfl) (pd_addO (by rfl) (takes_of (by rfl) (by rfl) (by rfl) (by rfl)) (TabOk.cons (ownOk_mk (by rfl) Z.cl_Hands Z.me_Hands___add__ (ok_Hands___add__ Z) (hr.mono (by decide)) Z.b_Hands___add__) (TabOk.nil)) (pq_var 2 (pv 2)) (pd_tr (pd_new (pf_lst (pl_cons (pd_attr (by rfl) (TabOk.cons (attr_prop (by rfl) Z.cl_Hands Z.pr_Hands_numbers (ok_Hands_numbers Z) (hr.mono (by decide)) Z.b_Hands_numbers) (TabOk.nil)) (pd_tr (pd_methU0 (TabOk.cons (meth_mk (by rfl) Z.cl_Hands Z.me_Hands_cut (ok_Hands_cut Z) (hr.mono (by decide)) Z.b_Hands_cut) (TabOk.nil)) (takes_of (by rfl) (by rfl) (by rfl) (by rfl)) (pd_tr (pd_opO op_sub opd_sub (takes_of (by rfl) (by rfl) (by rfl) (by rfl)) (TabOk.cons (ownOk_mk (by rfl) Z.cl_Hands Z.me_Hands___sub__ (ok_Hands___sub__ Z) (hr.mono (by decide)) Z.b_Hands___sub__) (TabOk.nil)) (pq_var 0 (pv 0)) (pq_var 1 (pv 1))))))) (pl_cons (pd_attr (by rfl) (TabOk.cons (attr_prop (by rfl) Z.cl_Hands Z.pr_Hands_numbers (ok_Hands_numbers Z) (hr.mono (by decide)) Z.b_Hands_numbers) (TabOk.nil)) (pd_tr (pd_methU0 (TabOk.cons (meth_mk (by rfl) Z.cl_Hands Z.me_Hands_cut (ok_Hands_cut Z) (hr.mono (by decide)) Z.b_Hands_cut) (TabOk.nil)) (takes_of (by rfl) (by rfl) (by rfl) (by rfl)) (pd_tr (pd_makeG (n := 1) (N := 1) (ks := []) (sel := [.p 0]) (das := [.sh (.tup [])]) ⟨_, _, _, _, _, _, (by rfl), Z.cl_Hands.mkOf Z.me_Hands___init__, ok_Hands___init__ Z, (hr.mono (by decide)), Z.g_Hands, Z.kb_Hands___init___1, Z.df_Hands___init__⟩ (by rfl) (takes_of (by rfl) (by rfl) (by rfl) (by rfl)) (pa_dsh (pd_tup (pl_cons (pd_int) (pl_cons (pd_int) (pl_cons (pd_neg (pd_tr (pd_int))) (pl_cons (pd_int) (pl_nil)))))) (pa_dnil)) (pk_dnil)))))) (pl_cons (pd_eqO (by rfl) (op_eqU hr.units) opd_eqU hr.units0 (takes_of (by rfl) (by rfl) (by rfl) (by rfl)) (TabOk.cons (ownOk_mk (by rfl) Z.cl_Hands Z.me_Hands___eq__ (ok_Hands___eq__ Z) (hr.mono (by decide)) Z.b_Hands___eq__) (TabOk.nil)) (ni_cons (niOk_mk (by rfl) Z.me_Hands___eq__ Z.su_Hands (ni_Hands Z) (hr.mono (by decide)) Z.b_Hands___eq__ (by rfl) nit_Hands) (ni_nil)) (pd_tr (pd_addO (by rfl) (takes_of (by rfl) (by rfl) (by rfl) (by rfl)) (TabOk.cons (ownOk_mk (by rfl) Z.cl_Hands Z.me_Hands___add__ (ok_Hands___add__ Z) (hr.mono (by decide)) Z.b_Hands___add__) (TabOk.nil)) (pd_tr (pd_opO op_sub opd_sub (takes_of (by rfl) (by rfl) (by rfl) (by rfl)) (TabOk.cons (ownOk_mk (by rfl) Z.cl_Hands Z.me_Hands___sub__ (ok_Hands___sub__ Z) (hr.mono (by decide)) Z.b_Hands___sub__) (TabOk.nil)) (pq_var 0 (pv 0)) (pq_var 1 (pv 1)))) (pq_var 1 (pv 1)))) (pq_var 0 (pv 0)) (nomark _)) (pl_cons (pd_call (ok__law_minus Z) (hr.mono (by decide)) (by rfl) Z.g__law_minus Z.f__law_minus.kp Z.b__law_minus .nil (fun _ _ _ => .nil) (takes_of (by rfl) (by rfl) (by rfl) (by rfl)) (pa_dvar 1 (pv 1) (pa_dvar 1 (pv 1) (pa_dnil)))) (pl_nil))))))))))
      (pss_dcons (ps_dset (i := 3) sc__law_by_hand_right.nd (by rfl) (by first | exact Or.inl rfl | exact Or.inr rfl) (pd_addO (by rfl) (takes_of (by rfl) (by rfl) (by rfl) (by rfl)) (TabOk.cons (ownOk_mk (by rfl) Z.cl_Hands Z.me_Hands___add__ (ok_Hands___add__ Z) (hr.mono (by decide)) Z.b_Hands___add__) (TabOk.nil)) (pq_var 3 (pv 3)) (pd_tr (pd_new (pf_lst (pl_cons (pd_tup (pl_cons (pd_int) (pl_cons (pd_int) (pl_cons (pd_int) (pl_nil))))) (pl_cons (pd_tup (pl_cons (pd_int) (pl_cons (pd_int) (pl_cons (pd_int) (pl_cons (pd_int) (pl_nil)))))) (pl_cons (pd_bl) (pl_cons (pd_tup (pl_nil)) (pl_nil))))))))))
      (pss_dcons (ps_dset (i := 2) sc__law_by_hand_right.nd (by rfl) (by first | exact Or.inl rfl | exact Or.inr rfl) (pd_addO (by rfl) (takes_of (by rfl) (by rfl) (by rfl) (by rfl)) (TabOk.cons (ownOk_mk (by rfl) Z.cl_Hands Z.me_Hands___add__ (ok_Hands___add__ Z) (hr.mono (by decide)) Z.b_Hands___add__) (TabOk.nil)) (pq_var 2 (pv 2)) (pd_tr (pd_new (pf_lst (pl_cons (pd_attr (by rfl) (TabOk.cons (attr_prop (by rfl) Z.cl_Hands Z.pr_Hands_numbers (ok_Hands_numbers Z) (hr.mono (by decide)) Z.b_Hands_numbers) (TabOk.nil)) (pd_tr (pd_callG (n := 1) (N := 2) (ks := []) (sel := [.p 0, .d 0]) (das := [.sh (.int 1)]) ⟨_, _, _, _, _, (ok_hand Z), (hr.mono (by decide)), Z.g_hand, Z.f_hand.kp, Z.kb_hand_1, Z.df_hand⟩ (by rfl) (takes_of (by rfl) (by rfl) (by rfl) (by rfl)) (pa_dsh (pd_int) (pa_dnil)) (pk_dnil)))) (pl_cons (pd_attr (by rfl) (TabOk.cons (attr_prop (by rfl) Z.cl_Hands Z.pr_Hands_numbers (ok_Hands_numbers Z) (hr.mono (by decide)) Z.b_Hands_numbers) (TabOk.nil)) (pd_tr (pd_callG (n := 2) (N := 2) (ks := []) (sel := [.p 0, .p 1]) (das := [.sh (.int 1)]) ⟨_, _, _, _, _, (ok_hand Z), (hr.mono (by decide)), Z.g_hand, Z.f_hand.kp, Z.kb_hand_2, Z.df_hand⟩ (by rfl) (takes_of (by rfl) (by rfl) (by rfl) (by rfl)) (pa_dsh (pd_int) (pa_dsh (pd_int) (pa_dnil))) (pk_dnil)))) (pl_cons (pd_attr (by rfl) (TabOk.cons (attr_prop (by rfl) Z.cl_Hands Z.pr_Hands_numbers (ok_Hands_numbers Z) (hr.mono (by decide)) Z.b_Hands_numbers) (TabOk.nil)) (pd_tr (pd_callG0 (n := 0) (N := 2) (ks := [(PySem.Str.ofString "place"), (PySem.Str.ofString "count")]) (sel := [.k 0, .k 1]) (das := [.sh (.int 1)]) ⟨_, _, _, _, _, (ok_hand Z), (hr.mono (by decide)), Z.g_hand, Z.f_hand.kp, Z.kb_hand_0_place_count, Z.df_hand⟩ (by rfl) (takes_of (by rfl) (by rfl) (by rfl) (by rfl)) (pk_dsh (pd_int) (pk_dsh (pd_int) (pk_dnil)))))) (pl_cons (pd_attr (by rfl) (TabOk.cons (attr_prop (by rfl) Z.cl_Hands Z.pr_Hands_numbers (ok_Hands_numbers Z) (hr.mono (by decide)) Z.b_Hands_numbers) (TabOk.nil)) (pd_tr (pd_callG (n := 2) (N := 2) (ks := []) (sel := [.p 0, .p 1]) (das := [.sh (.int 1)]) ⟨_, _, _, _, _, (ok_hand Z), (hr.mono (by decide)), Z.g_hand, Z.f_hand.kp, Z.kb_hand_2, Z.df_hand⟩ (by rfl) (takes_of (by rfl) (by rfl) (by rfl) (by rfl)) (pa_dsh (pd_int) (pa_dsh (pd_int) (pa_dnil))) (pk_dnil)))) (pl_cons (pd_attr (by rfl) (TabOk.cons (attr_prop (by rfl) Z.cl_Hands Z.pr_Hands_numbers (ok_Hands_numbers Z) (hr.mono (by decide)) Z.b_Hands_numbers) (TabOk.nil)) (pd_tr (pd_methU0 (TabOk.cons (meth_mk (by rfl) Z.cl_Hands Z.me_Hands_cut (ok_Hands_cut Z) (hr.mono (by decide)) Z.b_Hands_cut) (TabOk.nil)) (takes_of (by rfl) (by rfl) (by rfl) (by rfl)) (pd_tr (pd_makeG0 (n := 0) (N := 1) (ks := []) (sel := [.d 0]) (das := [.sh (.tup [])]) ⟨_, _, _, _, _, _, (by rfl), Z.cl_Hands.mkOf Z.me_Hands___init__, ok_Hands___init__ Z, (hr.mono (by decide)), Z.g_Hands, Z.kb_Hands___init___0, Z.df_Hands___init__⟩ (by rfl) (takes_of (by rfl) (by rfl) (by rfl) (by rfl)) (pk_dnil)))))) (pl_nil)))))))))))
      (pss_dcons (ps_dset (i := 3) sc__law_by_hand_right.nd (by rfl) (by first | exact Or.inl rfl | exact Or.inr rfl) (pd_addO (by rfl) (takes_of (by rfl) (by rfl) (by rfl) (by rfl)) (TabOk.cons (ownOk_mk (by rfl) Z.cl_Hands Z.me_Hands___add__ (ok_Hands___add__ Z) (hr.mono (by decide)) Z.b_Hands___add__) (TabOk.nil)) (pq_var 3 (pv 3)) (pd_tr (pd_new (pf_lst (pl_cons (pd_tup (pl_cons (pd_int) (pl_cons (pd_int) (pl_cons (pd_int) (pl_nil))))) (pl_cons (pd_tup (pl_cons (pd_int) (pl_nil))) (pl_cons (pd_tup (pl_nil)) (pl_cons (pd_tup (pl_cons (pd_int) (pl_cons (pd_int) (pl_nil)))) (pl_cons (pd_tup (pl_nil)) (pl_nil)))))))))))
      (pss_dcons (ps_dset (i := 4) sc__law_by_hand_right.nd (by rfl) (by first | exact Or.inl rfl | exact Or.inr rfl) (pd_var 0 (pv 0)))
      (pss_dcons (ps_daug (i := 4) sc__law_by_hand_right.nd (by rfl) (by first | exact Or.inl rfl | exact Or.inr rfl) (takes_of (by rfl) (by rfl) (by rfl) (by rfl)) (TabOk.cons (augOk_mk (by rfl) (ownOk_mk (by rfl) Z.cl_Hands Z.me_Hands___add__ (ok_Hands___add__ Z) (hr.mono (by decide)) Z.b_Hands___add__) (by rfl) Z.au_Hands_Add) (TabOk.nil)) ip_add opd_ipAdd (pq_var 1 (pv 1)))
      (pss_dcons (ps_daug (i := 4) sc__law_by_hand_right.nd (by rfl) (by first | exact Or.inl rfl | exact Or.inr rfl) (takes_of (by rfl) (by rfl) (by rfl) (by rfl)) (TabOk.cons (augOk_mk (by rfl) (ownOk_mk (by rfl) Z.cl_Hands Z.me_Hands___sub__ (ok_Hands___sub__ Z) (hr.mono (by decide)) Z.b_Hands___sub__) (by rfl) Z.au_Hands_Sub) (TabOk.nil)) ip_sub opd_ipSub (pq_var 0 (pv 0)))
      (pss_dcons (ps_dset (i := 2) sc__law_by_hand_right.nd (by rfl) (by first | exact Or.inl rfl | exact Or.inr rfl) (pd_addO (by rfl) (takes_of (by rfl) (by rfl) (by rfl) (by rfl)) (TabOk.cons (ownOk_mk (by rfl) Z.cl_Hands Z.me_Hands___add__ (ok_Hands___add__ Z) (hr.mono (by decide)) Z.b_Hands___add__) (TabOk.nil)) (pq_var 2 (pv 2)) (pd_tr (pd_new (pf_lst (pl_cons (pd_attr (by rfl) (TabOk.cons (attr_prop (by rfl) Z.cl_Hands Z.pr_Hands_numbers (ok_Hands_numbers Z) (hr.mono (by decide)) Z.b_Hands_numbers) (TabOk.nil)) (pq_var 4 (pv 4))) (pl_cons (pd_attr (by rfl) (TabOk.cons (attr_prop (by rfl) Z.cl_Hands Z.pr_Hands_numbers (ok_Hands_numbers Z) (hr.mono (by decide)) Z.b_Hands_numbers) (TabOk.nil)) (pq_var 0 (pv 0))) (pl_cons (pd_attr (by rfl) (TabOk.cons (attr_prop (by rfl) Z.cl_Hands Z.pr_Hands_numbers (ok_Hands_numbers Z) (hr.mono (by decide)) Z.b_Hands_numbers) (TabOk.nil)) (pd_tr (pd_addO (by rfl) (takes_of (by rfl) (by rfl) (by rfl) (by rfl)) (TabOk.cons (ownOk_mk (by rfl) Z.cl_Hands Z.me_Hands___add__ (ok_Hands___add__ Z) (hr.mono (by decide)) Z.b_Hands___add__) (TabOk.nil)) (pd_tr (pd_makeG (n := 1) (N := 1) (ks := []) (sel := [.p 0]) (das := [.sh (.tup [])]) ⟨_, _, _, _, _, _, (by rfl), Z.cl_Hands.mkOf Z.me_Hands___init__, ok_Hands___init__ Z, (hr.mono (by decide)), Z.g_Hands, Z.kb_Hands___init___1, Z.df_Hands___init__⟩ (by rfl) (takes_of (by rfl) (by rfl) (by rfl) (by rfl)) (pa_dsh (pd_tup (pl_cons (pd_int) (pl_cons (pd_neg (pd_tr (pd_int))) (pl_nil)))) (pa_dnil)) (pk_dnil))) (pd_tr (pd_makeG (n := 1) (N := 1) (ks := []) (sel := [.p 0]) (das := [.sh (.tup [])]) ⟨_, _, _, _, _, _, (by rfl), Z.cl_Hands.mkOf Z.me_Hands___init__, ok_Hands___init__ Z, (hr.mono (by decide)), Z.g_Hands, Z.kb_Hands___init___1, Z.df_Hands___init__⟩ (by rfl) (takes_of (by rfl) (by rfl) (by rfl) (by rfl)) (pa_dsh (pd_tup (pl_cons (pd_int) (pl_nil))) (pa_dnil)) (pk_dnil)))))) (pl_cons (pd_eqO (by rfl) (op_eqU hr.units) opd_eqU hr.units0 (takes_of (by rfl) (by rfl) (by rfl) (by rfl)) (TabOk.cons (ownOk_mk (by rfl) Z.cl_Hands Z.me_Hands___eq__ (ok_Hands___eq__ Z) (hr.mono (by decide)) Z.b_Hands___eq__) (TabOk.nil)) (ni_cons (niOk_mk (by rfl) Z.me_Hands___eq__ Z.su_Hands (ni_Hands Z) (hr.mono (by decide)) Z.b_Hands___eq__ (by rfl) nit_Hands) (ni_nil)) (pd_tr (pd_mulO op_mulU opd_mulU (takes_of (by rfl) (by rfl) (by rfl) (by rfl)) (mulTab (mulOk_mk (k := 5) (by rfl) Z.cl_Hands Z.su_Hands Z.me_Hands___mul__ Z.me_Hands___rmul__ ((ok_Hands___mul__ Z).mono (by decide)) ((ok_Hands___rmul__ Z).mono (by decide)) (hr.mono (by decide)) Z.b_Hands___mul__ Z.b_Hands___rmul__)) (pd_tr (pd_int)) (pq_var 0 (pv 0)))) (pd_tr (pd_makeG0 (n := 0) (N := 1) (ks := []) (sel := [.d 0]) (das := [.sh (.tup [])]) ⟨_, _, _, _, _, _, (by rfl), Z.cl_Hands.mkOf Z.me_Hands___init__, ok_Hands___init__ Z, (hr.mono (by decide)), Z.g_Hands, Z.kb_Hands___init___0, Z.df_Hands___init__⟩ (by rfl) (takes_of (by rfl) (by rfl) (by rfl) (by rfl)) (pk_dnil))) (nomark _)) (pl_nil))))))))))
      (pss_done (ps_dret (pd_call (ok__law_same Z 8) (hr.mono (by decide)) (by rfl) Z.g__law_same Z.f__law_same.kp Z.b__law_same .nil (fun _ _ _ => .nil) (takes_of (by rfl) (by rfl) (by rfl) (by rfl)) (pa_dvar 2 (pv 2) (pa_dsh (pd_addO (by rfl) (takes_of (by rfl) (by rfl) (by rfl) (by rfl)) (TabOk.cons (ownOk_mk (by rfl) Z.cl_Hands Z.me_Hands___add__ (ok_Hands___add__ Z) (hr.mono (by decide)) Z.b_Hands___add__) (TabOk.nil)) (pq_var 3 (pv 3)) (pd_tr (pd_new (pf_lst (pl_cons (pd_tup (pl_cons (pd_int) (pl_cons (pd_int) (pl_nil)))) (pl_cons (pd_tup (pl_cons (pd_int) (pl_cons (pd_int) (pl_cons (pd_int) (pl_nil))))) (pl_cons (pd_tup (pl_cons (pd_int) (pl_cons (pd_int) (pl_nil)))) (pl_cons (pd_bl) (pl_nil))))))))) (pa_dnil))))))))))))))))
theorem ok__law_take (Z : Txt P w K mg base ad fd) : FnOk P w K mg base (L2.CX P w) 1 (ad 15) (fd 15) [(PySem.Str.ofString "_law_box_here"), (PySem.Str.ofString "_law_size_so")] (spD (TT K ad) 2 m__law_take) :=
  Z.f__law_take.okD (k := 0) sc__law_take fun cdv A outer s H E hr => by
  exact pss_dcons (ps_dif (pt_dcmp (op_gtU hr.units) opd_ordU (pd_tr (pd_bget (i := 0) (k := 0) (pv 0))) (pd_tr (pd_int)) (nomark _)) (pss_dcons (ps_dset (i := 2) sc__law_take.nd (by rfl) (by first | exact Or.inl rfl | exact Or.inr rfl) (pd_op op_mod opd_mod (pd_tr (pd_callTy call_intU cd_int (by rfl) Z.z_int (by decide +kernel) (pq_cons (pd_tr (pd_bget (i := 0) (k := 0) (pv 0))) (pq_nil)))) (pq_var 1 (pv 1))))
      (pss_dcons (ps_dbset (i := 0) (k := 0) (pv 0) (pd_op op_fdivW opd_fdiv (pd_tr (pd_bget (i := 0) (k := 0) (pv 0))) (pq_var 1 (pv 1))))
      (pss_done (ps_dret (pd_var 2 (pv 2)))))) (pss_dnil))
      (pss_dcons (ps_dbset (i := 0) (k := 2) (pv 0) (pd_add (by rfl) (pd_tr (pd_bget (i := 0) (k := 2) (pv 0))) (pd_tr (pd_int))))
      (pss_dcons (ps_dset (i := 3) sc__law_take.nd (by rfl) (by first | exact Or.inl rfl | exact Or.inr rfl) (pd_op op_mod opd_mod (pd_tr (pd_callTy call_intU cd_int (by rfl) Z.z_int (by decide +kernel) (pq_cons (pd_tr (pd_op op_mulU opd_mulU (pd_tr (pd_add (by rfl) (pd_tr (pd_bget (i := 0) (k := 1) (pv 0))) (pd_tr (pd_op op_mulU opd_mulU (pd_tr (pd_int)) (pd_tr (pd_bget (i := 0) (k := 2) (pv 0))))))) (pd_tr (pd_add (by rfl) (pd_tr (pd_int)) (pd_tr (pd_bget (i := 0) (k := 2) (pv 0))))))) (pq_nil)))) (pd_tr (pd_int))))
      (pss_dcons (ps_dset (i := 4) sc__law_take.nd (by rfl) (by first | exact Or.inl rfl | exact Or.inr rfl) (pd_add (by rfl) (pd_tr (pd_op op_mod opd_mod (pd_tr (pd_callTy call_intU cd_int (by rfl) Z.z_int (by decide +kernel) (pq_cons (pq_var 3 (pv 3)) (pq_nil)))) (pd_tr (pd_int)))) (pd_tr (pd_int))))
      (pss_dcons (ps_dset (i := 5) sc__law_take.nd (by rfl) (by first | exact Or.inl rfl | exact Or.inr rfl) (pd_op op_mod opd_mod (pd_tr (pd_callTy call_intU cd_int (by rfl) Z.z_int (by decide +kernel) (pq_cons (pd_tr (pd_op op_mulU opd_mulU (pd_tr (pd_add (by rfl) (pd_tr (pd_add (by rfl) (pq_var 3 (pv 3)) (pd_tr (pd_bget (i := 0) (k := 2) (pv 0))))) (pd_tr (pd_op op_fdivW opd_fdiv (pd_tr (pd_bget (i := 0) (k := 1) (pv 0))) (pd_tr (pd_int)))))) (pq_var 4 (pv 4)))) (pq_nil)))) (pd_tr (pd_int))))
      (pss_done (ps_dret (pd_op op_mod opd_mod (pd_tr (pd_callTy call_intU cd_int (by rfl) Z.z_int (by decide +kernel) (pq_cons (pd_tr (pd_op op_fdivW opd_fdiv (pd_tr (pd_op op_mod opd_mod (pd_tr (pd_callTy call_intU cd_int (by rfl) Z.z_int (by decide +kernel) (pq_cons (pd_tr (pd_add (by rfl) (pd_tr (pd_op op_mulU opd_mulU (pq_var 5 (pv 5)) (pd_tr (pd_int)))) (pq_var 3 (pv 3)))) (pq_nil)))) (pd_tr (pd_int)))) (pd_tr (pd_int)))) (pq_nil)))) (pq_var 1 (pv 1)))))))))
theorem ok__law_of (Z : Txt P w K mg base ad fd) : FnOk P w K mg base (L2.CX P w) 3 (ad 17) (fd 17) [(PySem.Str.ofString "_law_box_here"), (PySem.Str.ofString "_law_goods_so")] (spD (TT K ad) 2 m__law_of) :=
  Z.f__law_of.okD (k := 2) sc__law_of fun cdv A outer s H E hr => by
  exact pss_done (ps_dret (pd_dixD (by rfl) hr.units1 (pq_var 1 (pv 1)) (pd_tr (pd_call (ok__law_take Z) (hr.mono (by decide)) (by rfl) Z.g__law_take Z.f__law_take.kp Z.b__law_take .nil (fun _ _ _ => .nil) (takes_of (by rfl) (by rfl) (by rfl) (by rfl)) (pa_dvar 0 (pv 0) (pa_dsh (pd_callB call_lenV cd_lenD (by rfl) Z.z_len boot_len (pq_cons (pq_var 1 (pv 1)) (pq_nil))) (pa_dnil)))))))
theorem ok__law_trimmed (Z : Txt P w K mg base ad fd) : FnOk P w K mg base (L2.CX P w) 1 (ad 19) (fd 19) [(PySem.Str.ofString "_law_row")] (spD (TT K ad) 1 m__law_trimmed) :=
  Z.f__law_trimmed.okD (k := 0) sc__law_trimmed fun cdv A outer s H E hr => by
  exact pss_dcons (ps_dset (i := 1) sc__law_trimmed.nd (by rfl) (by first | exact Or.inl rfl | exact Or.inr rfl) (pd_new (pf_callTy (call_listU (by rfl)) cf_listU (by rfl) Z.z_list (by decide +kernel) (pq_cons (pq_var 0 (pv 0)) (pq_nil)))))
      (pss_dcons (ps_dwhile 1000 (passes_of (by rfl)) ((pw_dand (pt_dcmp (op_neU hr.units) opd_neU (pq_var 1 (pv 1)) (pd_tr (pd_new (pf_lst (pl_nil)))) (nomark _)) (pw_and1 (pt_dcmp (op_eqU hr.units) opd_eqU (pd_tr (pd_dixD (by rfl) hr.units1 (pq_var 1 (pv 1)) (pd_tr (pd_int)))) (pd_tr (pd_int)) (nomark _)))).pt) (pss_done (ps_dset (i := 1) sc__law_trimmed.nd (by rfl) (by first | exact Or.inl rfl | exact Or.inr rfl) (pd_slice (by rfl) (pq_var 1 (pv 1)) (po_dsome (pd_tr (pd_int))) (po_dnone)))))
      (pss_done (ps_dret (pd_callTy call_tuple_of cd_tuple (by rfl) Z.z_tuple (by decide +kernel) (pq_cons (pq_var 1 (pv 1)) (pq_nil))))))
theorem ok__law_up (Z : Txt P w K mg base ad fd) : FnOk P w K mg base (L2.CX P w) 3 (ad 21) (fd 21) [(PySem.Str.ofString "_law_row")] (spD (TT K ad) 1 m__law_up) :=
  Z.f__law_up.okD (k := 2) sc__law_up fun cdv A outer s H E hr => by
  exact pss_dcons (ps_dset (i := 1) sc__law_up.nd (by rfl) (by first | exact Or.inl rfl | exact Or.inr rfl) (pd_call (ok__law_trimmed Z) (hr.mono (by decide)) (by rfl) Z.g__law_trimmed Z.f__law_trimmed.kp Z.b__law_trimmed .nil (fun _ _ _ => .nil) (takes_of (by rfl) (by rfl) (by rfl) (by rfl)) (pa_dvar 0 (pv 0) (pa_dnil))))
      (pss_done (ps_dret (pd_if ((pw_dand (pt_dcmp (op_neU hr.units) opd_neU (pq_var 1 (pv 1)) (pd_tr (pd_tup (pl_nil))) (nomark _)) (pw_and1 (pt_dcmp (op_ltU hr.units) opd_ordU (pd_tr (pd_dixD (by rfl) hr.units1 (pq_var 1 (pv 1)) (pd_tr (pd_int)))) (pd_tr (pd_int)) (nomark _)))).pt) (pd_new (pf_lc (by rfl) sc__law_up.nd (pi_seq (by rfl) (pi_var 0 (pv 0))) (blkOk_by (own := [((PySem.Str.ofString "_law_one"), 2)]) (by rfl)) (fun _ _ _ _ _ => pg_dname (i := 2) sc__law_up.nd (by rfl) (by first | exact Or.inl rfl | exact Or.inr rfl)) (fun _ _ _ _ _ => pts_dnil) (fun _ _ _ _ _ => pd_op op_sub opd_sub (pd_tr (pd_int)) (pq_var 2 (pv 2))))) (pd_new (pf_callTy (call_listU (by rfl)) cf_listU (by rfl) Z.z_list (by decide +kernel) (pq_cons (pq_var 0 (pv 0)) (pq_nil)))))))
theorem ok_Hands___lt__ (Z : Txt P w K mg base ad fd) : FnOk P w K mg base (L2.CX P w) 1 (ad 2007) (fd 2007) [(PySem.Str.ofString "self"), (PySem.Str.ofString "other")] (spD (TT K ad) 2 m_Hands___lt__) :=
  Z.f_Hands___lt__.okD (k := 0) sc_Hands___lt__ fun cdv A outer s H E hr => by
  exact pss_dcons (ps_dif (pt_dnot (pt_of (pd_tr (pd_isi (by rfl) Z.is_Hands (.own _) (by rfl) Z.z_isinstance (pq_var 1 (pv 1)) (pe_glob (by rfl) Z.g_Hands (by rfl)))))) (pss_done (ps_dno)) (pss_dnil))
      (pss_done (ps_dret (pd_cmp (op_ltU hr.units) opd_ordU (pd_tr (pd_attr (by rfl) (TabOk.cons (attr_fld Z.fl_Hands_own_key) (TabOk.nil)) (pq_var 0 (pv 0)))) (pd_tr (pd_attr (by rfl) (TabOk.cons (attr_fld Z.fl_Hands_own_key) (TabOk.nil)) (pq_var 1 (pv 1)))) (nomark _))))
theorem ok_Hands_plain (Z : Txt P w K mg base ad fd) : FnOk P w K mg base (L2.CX P w) 1 (ad 2003) (fd 2003) [(PySem.Str.ofString "self")] (spD (TT K ad) 1 m_Hands_plain) :=
  Z.f_Hands_plain.okD (k := 0) sc_Hands_plain fun cdv A outer s H E hr => by
  exact pss_done (ps_dret (pd_callB (cr_all (by rfl)) cd_all rfl Z.z_all (by decide +kernel) (pq_cons (pd_tr (pd_new (pf_lc (by rfl) sc_Hands_plain.nd (pi_seq (by rfl) (pi_of (pd_attr (by rfl) (TabOk.cons (attr_fld Z.fl_Hands_own_numbers) (TabOk.nil)) (pq_var 0 (pv 0))))) (blkOk_by (own := [((PySem.Str.ofString "number"), 1)]) (by rfl)) (fun _ _ _ _ _ => pg_dname (i := 1) sc_Hands_plain.nd (by rfl) (by first | exact Or.inl rfl | exact Or.inr rfl)) (fun _ _ _ _ _ => pts_dnil) (fun _ _ _ _ _ => pd_cmp (op_geU hr.units) opd_ordU (pq_var 1 (pv 1)) (pd_tr (pd_int)) (nomark _))))) (pq_nil))))
theorem ok_Hands___ge__ (Z : Txt P w K mg base ad fd) : FnOk P w K mg base (L2.CX P w) 1 (ad 2010) (fd 2010) [(PySem.Str.ofString "self"), (PySem.Str.ofString "other")] (spD (TT K ad) 2 m_Hands___ge__) :=
  Z.f_Hands___ge__.okD (k := 0) sc_Hands___ge__ fun cdv A outer s H E hr => by
  exact pss_dcons (ps_dif (pt_dnot (pt_of (pd_tr (pd_isi (by rfl) Z.is_Hands (.own _) (by rfl) Z.z_isinstance (pq_var 1 (pv 1)) (pe_glob (by rfl) Z.g_Hands (by rfl)))))) (pss_done (ps_dno)) (pss_dnil))
      (pss_done (ps_dret (pd_cmp (op_geU hr.units) opd_ordU (pd_tr (pd_attr (by rfl) (TabOk.cons (attr_fld Z.fl_Hands_own_key) (TabOk.nil)) (pq_var 0 (pv 0)))) (pd_tr (pd_attr (by rfl) (TabOk.cons (attr_fld Z.fl_Hands_own_key) (TabOk.nil)) (pq_var 1 (pv 1)))) (nomark _))))
theorem ok__law_cut_due (Z : Txt P w K mg base ad fd) : FnOk P w K mg base (L2.CX P w) 3 (ad 25) (fd 25) [(PySem.Str.ofString "_law_row")] (spD (TT K ad) 1 m__law_cut_due) :=
  Z.f__law_cut_due.okD (k := 2) sc__law_cut_due fun cdv A outer s H E hr => by
  exact pss_dcons (ps_dpar (by rfl) sc__law_cut_due.nd (by rfl) (by rfl) (by decide) (by rfl) (by rfl) (par_cons (.ow (pf_lst (pl_nil))) (par_cons (.sh (pd_bl)) (par_nil) (by decide)) (by decide)) (by rfl))
      (pss_dcons (ps_dfor (passes_of (by rfl)) (by rfl) (pi_seq (by rfl) (pi_of (pd_call (ok__law_trimmed Z) (hr.mono (by decide)) (by rfl) Z.g__law_trimmed Z.f__law_trimmed.kp Z.b__law_trimmed .nil (fun _ _ _ => .nil) (takes_of (by rfl) (by rfl) (by rfl) (by rfl)) (pa_dvar 0 (pv 0) (pa_dnil))))) (pg_dname (i := 3) sc__law_cut_due.nd (by rfl) (by first | exact Or.inl rfl | exact Or.inr rfl)) (pss_dcons (ps_dset (i := 2) sc__law_cut_due.nd (by rfl) (by first | exact Or.inl rfl | exact Or.inr rfl) (pd_or (pq_var 2 (pv 2)) (pd_one (pd_cmp (op_ltU hr.units) opd_ordU (pq_var 3 (pv 3)) (pd_tr (pd_int)) (nomark _)))))
      (pss_done (ps_dapp (by rfl) (pv 1) (pd_if (pt_of (pq_var 2 (pv 2))) (pd_int) (pd_var 3 (pv 3)))))))
      (pss_done (ps_dfrz 1 (ps_dret (pd_callTy call_tuple_of cd_tuple (by rfl) Z.z_tuple (by decide +kernel) (pq_cons (pq_var 1 (pv 1)) (pq_nil)))))))
theorem ok__law_cut_right (Z : Txt P w K mg base ad fd) : FnOk P w K mg base (L2.CX P w) 11 (ad 26) (fd 26) [(PySem.Str.ofString "_law_box_here"), (PySem.Str.ofString "_law_mine"), (PySem.Str.ofString "_law_row")] (spD (TT K ad) 3 m__law_cut_right) :=
  Z.f__law_cut_right.okD (k := 10) sc__law_cut_right fun cdv A outer s H E hr => by
  exact pss_dcons (ps_dset (i := 3) sc__law_cut_right.nd (by rfl) (by first | exact Or.inl rfl | exact Or.inr rfl) (pd_methU0 (TabOk.cons (meth_mk (by rfl) Z.cl_Hands Z.me_Hands_cut (ok_Hands_cut Z) (hr.mono (by decide)) Z.b_Hands_cut) (TabOk.nil)) (takes_of (by rfl) (by rfl) (by rfl) (by rfl)) (pq_var 1 (pv 1))))
      (pss_dcons (ps_dif (pt_dnot (pt_of (pd_tr (pd_call (ok__law_same Z 8) (hr.mono (by decide)) (by rfl) Z.g__law_same Z.f__law_same.kp Z.b__law_same .nil (fun _ _ _ => .nil) (takes_of (by rfl) (by rfl) (by rfl) (by rfl)) (pa_dsh (pd_new (pf_lst (pl_cons (pd_attr (by rfl) (TabOk.cons (attr_prop (by rfl) Z.cl_Hands Z.pr_Hands_numbers (ok_Hands_numbers Z) (hr.mono (by decide)) Z.b_Hands_numbers) (TabOk.nil)) (pq_var 3 (pv 3))) (pl_cons (pd_attr (by rfl) (TabOk.cons (attr_prop (by rfl) Z.cl_Hands Z.pr_Hands_plain (ok_Hands_plain Z) (hr.mono (by decide)) Z.b_Hands_plain) (TabOk.nil)) (pq_var 3 (pv 3))) (pl_cons (pd_cmpO (op := .GtE) (op_geU hr.units) opd_ordU hr.units0 (takes_of (by rfl) (by rfl) (by rfl) (by rfl)) (TabOk.cons (ownOk_mk (by rfl) Z.cl_Hands Z.me_Hands___ge__ (ok_Hands___ge__ Z) (hr.mono (by decide)) Z.b_Hands___ge__) (TabOk.nil)) (fun _ _ => (by rfl)) (pq_var 3 (pv 3)) (pq_var 1 (pv 1)) (nomark _)) (pl_nil)))))) (pa_dsh (pd_new (pf_lst (pl_cons (pd_call (ok__law_cut_due Z) (hr.mono (by decide)) (by rfl) Z.g__law_cut_due Z.f__law_cut_due.kp Z.b__law_cut_due .nil (fun _ _ _ => .nil) (takes_of (by rfl) (by rfl) (by rfl) (by rfl)) (pa_dvar 2 (pv 2) (pa_dnil))) (pl_cons (pd_bl) (pl_cons (pd_bl) (pl_nil)))))) (pa_dnil))))))) (pss_done (ps_dret (pd_bl))) (pss_dnil))
      (pss_dcons (ps_dsetLc (i := 4) (by rfl) sc__law_cut_right.nd (by rfl) (by rfl) (by rfl) (pi_denumU (by rfl) (by rfl) Z.z_enumerate (pi_of (pd_attr (by rfl) (TabOk.cons (attr_prop (by rfl) Z.cl_Hands Z.pr_Hands_numbers (ok_Hands_numbers Z) (hr.mono (by decide)) Z.b_Hands_numbers) (TabOk.nil)) (pq_var 3 (pv 3))))) (blkOk_by (own := [((PySem.Str.ofString "_law_k"), 7), ((PySem.Str.ofString "_law_bit"), 8)]) (by rfl)) (fun _ _ _ _ _ => pg_dun (by rfl) (by rfl) (pgs_dcons (pg_dname (i := 7) sc__law_cut_right.nd (by rfl) (by first | exact Or.inl rfl | exact Or.inr rfl)) (pgs_dcons (pg_dname (i := 8) sc__law_cut_right.nd (by rfl) (by first | exact Or.inl rfl | exact Or.inr rfl)) (pgs_dnil)))) (fun _ _ _ _ _ => pts_one (pt_dcmp (op_gtU hr.units) opd_ordU (pq_var 8 (pv 8)) (pd_tr (pd_int)) (nomark _))) (fun _ _ _ _ _ => pd_var 7 (pv 7)))
      (pss_dcons (ps_dfrz 4 (ps_dif ((pw_dor (pt_of (pd_tr (pd_attr (by rfl) (TabOk.cons (attr_prop (by rfl) Z.cl_Hands Z.pr_Hands_plain (ok_Hands_plain Z) (hr.mono (by decide)) Z.b_Hands_plain) (TabOk.nil)) (pq_var 1 (pv 1))))) (pw_or1 (pt_dcmp (op_eqU hr.units) opd_eqU (pq_var 4 (pv 4)) (pd_tr (pd_new (pf_lst (pl_nil)))) (nomark _)))).pt) (pss_done (ps_dret (pd_if (pt_of (pd_tr (pd_attr (by rfl) (TabOk.cons (attr_prop (by rfl) Z.cl_Hands Z.pr_Hands_plain (ok_Hands_plain Z) (hr.mono (by decide)) Z.b_Hands_plain) (TabOk.nil)) (pq_var 1 (pv 1))))) (pd_eqO (by rfl) (op_eqU hr.units) opd_eqU hr.units0 (takes_of (by rfl) (by rfl) (by rfl) (by rfl)) (TabOk.cons (ownOk_mk (by rfl) Z.cl_Hands Z.me_Hands___eq__ (ok_Hands___eq__ Z) (hr.mono (by decide)) Z.b_Hands___eq__) (TabOk.nil)) (ni_cons (niOk_mk (by rfl) Z.me_Hands___eq__ Z.su_Hands (ni_Hands Z) (hr.mono (by decide)) Z.b_Hands___eq__ (by rfl) nit_Hands) (ni_nil)) (pd_tr (pd_methU0 (TabOk.cons (meth_mk (by rfl) Z.cl_Hands Z.me_Hands_cut (ok_Hands_cut Z) (hr.mono (by decide)) Z.b_Hands_cut) (TabOk.nil)) (takes_of (by rfl) (by rfl) (by rfl) (by rfl)) (pq_var 1 (pv 1)))) (pq_var 1 (pv 1)) (nomark _)) (pd_bl)))) (pss_dnil)))
      (pss_dcons (ps_dfrz 4 (ps_dset (i := 5) sc__law_cut_right.nd (by rfl) (by first | exact Or.inl rfl | exact Or.inr rfl) (pd_dixD (by rfl) hr.units1 (pq_var 4 (pv 4)) (pd_tr (pd_neg (pd_tr (pd_int)))))))
      (pss_dcons (ps_dset (i := 6) sc__law_cut_right.nd (by rfl) (by first | exact Or.inl rfl | exact Or.inr rfl) (pd_add (by rfl) (pd_tr (pd_slice (by rfl) (pd_tr (pd_attr (by rfl) (TabOk.cons (attr_prop (by rfl) Z.cl_Hands Z.pr_Hands_numbers (ok_Hands_numbers Z) (hr.mono (by decide)) Z.b_Hands_numbers) (TabOk.nil)) (pq_var 3 (pv 3)))) (po_dnone) (po_dsome (pq_var 5 (pv 5))))) (pd_tr (pd_tup (pl_cons (pd_op op_sub opd_sub (pd_tr (pd_dixD (by rfl) hr.units1 (pd_tr (pd_attr (by rfl) (TabOk.cons (attr_prop (by rfl) Z.cl_Hands Z.pr_Hands_numbers (ok_Hands_numbers Z) (hr.mono (by decide)) Z.b_Hands_numbers) (TabOk.nil)) (pq_var 3 (pv 3)))) (pq_var 5 (pv 5)))) (pd_tr (pd_int))) (pl_nil))))))
      (pss_dcons (ps_dset (i := 6) sc__law_cut_right.nd (by rfl) (by first | exact Or.inl rfl | exact Or.inr rfl) (pd_add (by rfl) (pq_var 6 (pv 6)) (pd_tr (pd_callTy call_tuple_of cd_tuple (by rfl) Z.z_tuple (by decide +kernel) (pq_cons (pd_tr (pd_new (pf_lc (by rfl) sc__law_cut_right.nd (pi_seq (by rfl) (pi_of (pd_slice (by rfl) (pd_tr (pd_attr (by rfl) (TabOk.cons (attr_prop (by rfl) Z.cl_Hands Z.pr_Hands_numbers (ok_Hands_numbers Z) (hr.mono (by decide)) Z.b_Hands_numbers) (TabOk.nil)) (pq_var 3 (pv 3)))) (po_dsome (pd_tr (pd_add (by rfl) (pq_var 5 (pv 5)) (pd_tr (pd_int))))) (po_dnone)))) (blkOk_by (own := [((PySem.Str.ofString "_law_bit"), 8)]) (by rfl)) (fun _ _ _ _ _ => pg_dname (i := 8) sc__law_cut_right.nd (by rfl) (by first | exact Or.inl rfl | exact Or.inr rfl)) (fun _ _ _ _ _ => pts_dnil) (fun _ _ _ _ _ => pd_call (ok__law_of Z) (hr.mono (by decide)) (by rfl) Z.g__law_of Z.f__law_of.kp Z.b__law_of .nil (fun _ _ _ => .nil) takes0 (pa_dvar 0 (pv 0) (pa_dsh (pd_new (pf_lst (pl_cons (pd_int) (pl_cons (pd_int) (pl_cons (pd_op op_pow opd_pow (pd_tr (pd_int)) (pd_tr (pd_int))) (pl_nil)))))) (pa_dnil))))))) (pq_nil))))))
      (pss_done (ps_dret (pd_cmpO (op := .Lt) (op_ltU hr.units) opd_ordU hr.units0 (takes_of (by rfl) (by rfl) (by rfl) (by rfl)) (TabOk.cons (ownOk_mk (by rfl) Z.cl_Hands Z.me_Hands___lt__ (ok_Hands___lt__ Z) (hr.mono (by decide)) Z.b_Hands___lt__) (TabOk.nil)) (fun _ _ => (by rfl)) (pd_tr (pd_makeG (n := 1) (N := 1) (ks := []) (sel := [.p 0]) (das := [.sh (.tup [])]) ⟨_, _, _, _, _, _, (by rfl), Z.cl_Hands.mkOf Z.me_Hands___init__, ok_Hands___init__ Z, (hr.mono (by decide)), Z.g_Hands, Z.kb_Hands___init___1, Z.df_Hands___init__⟩ (by rfl) (takes_of (by rfl) (by rfl) (by rfl) (by rfl)) (pa_dvar 6 (pv 6) (pa_dnil)) (pk_dnil))) (pq_var 1 (pv 1)) (nomark _))))))))))
theorem ok__law_line (Z : Txt P w K mg base ad fd) : FnOk P w K mg base (L2.CX P w) 5 (ad 20) (fd 20) [(PySem.Str.ofString "_law_box_here")] (spD (TT K ad) 1 m__law_line) :=
  Z.f__law_line.okD (k := 4) sc__law_line fun cdv A outer s H E hr => by
  exact pss_dcons (ps_down (i := 1) sc__law_line.nd (by rfl) (by first | exact Or.inl rfl | exact Or.inr rfl) (pf_lst (pl_nil)))
      (pss_dcons (ps_dfor (passes_of (by rfl)) (by rfl) (pi_drange1 (by rfl) Z.z_range (pl_cons (pd_call (ok__law_take Z) (hr.mono (by decide)) (by rfl) Z.g__law_take Z.f__law_take.kp Z.b__law_take .nil (fun _ _ _ => .nil) (takes_of (by rfl) (by rfl) (by rfl) (by rfl)) (pa_dvar 0 (pv 0) (pa_dsh (pd_int) (pa_dnil)))) (pl_nil))) (pg_dname (i := 2) sc__law_line.nd (by rfl) (by first | exact Or.inl rfl | exact Or.inr rfl)) (pss_dcons (ps_dset (i := 3) sc__law_line.nd (by rfl) (by first | exact Or.inl rfl | exact Or.inr rfl) (pd_new (pf_lst (pl_cons (pd_int) (pl_cons (pd_int) (pl_cons (pd_int) (pl_cons (pd_int) (pl_cons (pd_call (ok__law_take Z) (hr.mono (by decide)) (by rfl) Z.g__law_take Z.f__law_take.kp Z.b__law_take .nil (fun _ _ _ => .nil) (takes_of (by rfl) (by rfl) (by rfl) (by rfl)) (pa_dvar 0 (pv 0) (pa_dsh (pd_int) (pa_dnil)))) (pl_cons (pd_call (ok__law_take Z) (hr.mono (by decide)) (by rfl) Z.g__law_take Z.f__law_take.kp Z.b__law_take .nil (fun _ _ _ => .nil) (takes_of (by rfl) (by rfl) (by rfl) (by rfl)) (pa_dvar 0 (pv 0) (pa_dsh (pd_op op_pow opd_pow (pd_tr (pd_int)) (pd_tr (pd_int))) (pa_dnil)))) (pl_nil))))))))))
      (pss_done (ps_dapp (by rfl) (pv 1) (pd_op op_mulU opd_mulU (pd_tr (pd_call (ok__law_of Z) (hr.mono (by decide)) (by rfl) Z.g__law_of Z.f__law_of.kp Z.b__law_of .nil (fun _ _ _ => .nil) (takes_of (by rfl) (by rfl) (by rfl) (by rfl)) (pa_dvar 0 (pv 0) (pa_dvar 3 (pv 3) (pa_dnil))))) (pd_tr (pd_call (ok__law_of Z) (hr.mono (by decide)) (by rfl) Z.g__law_of Z.f__law_of.kp Z.b__law_of .nil (fun _ _ _ => .nil) (takes_of (by rfl) (by rfl) (by rfl) (by rfl)) (pa_dvar 0 (pv 0) (pa_dsh (pd_new (pf_lst (pl_cons (pd_int) (pl_cons (pd_int) (pl_cons (pd_int) (pl_cons (pd_neg (pd_tr (pd_int))) (pl_nil))))))) (pa_dnil))))))))))
      (pss_done (ps_dfrz 1 (ps_dret (pd_var 1 (pv 1))))))
theorem ok__law_side (Z : Txt P w K mg base ad fd) : FnOk P w K mg base (L2.CX P w) 1 (ad 22) (fd 22) [(PySem.Str.ofString "_law_row")] (spD (TT K ad) 1 m__law_side) :=
  Z.f__law_side.okD (k := 0) sc__law_side fun cdv A outer s H E hr => by
  exact pss_done (ps_dret (pd_add (by rfl) (pd_tr (pd_op op_mulU opd_mulU (pd_tr (pd_new (pf_lst (pl_cons (pd_int) (pl_nil))))) (pd_tr (pd_op op_sub opd_sub (pd_tr (pd_int)) (pd_tr (pd_callB call_lenV cd_lenD (by rfl) Z.z_len boot_len (pq_cons (pq_var 0 (pv 0)) (pq_nil)))))))) (pd_tr (pd_new (pf_callTy (call_listU (by rfl)) cf_listU (by rfl) Z.z_list (by decide +kernel) (pq_cons (pq_var 0 (pv 0)) (pq_nil)))))))
theorem ok__law_due_minus (Z : Txt P w K mg base ad fd) : FnOk P w K mg base (L2.CX P w) 3 (ad 24) (fd 24) [(PySem.Str.ofString "_law_one"), (PySem.Str.ofString "_law_two")] (spD (TT K ad) 2 m__law_due_minus) :=
  Z.f__law_due_minus.okD (k := 2) sc__law_due_minus fun cdv A outer s H E hr => by
  exact pss_dcons (ps_dset (i := 2) sc__law_due_minus.nd (by rfl) (by first | exact Or.inl rfl | exact Or.inr rfl) (pd_call (ok__law_trimmed Z) (hr.mono (by decide)) (by rfl) Z.g__law_trimmed Z.f__law_trimmed.kp Z.b__law_trimmed .nil (fun _ _ _ => .nil) (takes_of (by rfl) (by rfl) (by rfl) (by rfl)) (pa_dsh (pd_new (pf_lc (by rfl) sc__law_due_minus.nd (pi_dzip (by rfl) (by rfl) Z.z_zip (pi_of (pd_call (ok__law_side Z) (hr.mono (by decide)) (by rfl) Z.g__law_side Z.f__law_side.kp Z.b__law_side .nil (fun _ _ _ => .nil) (takes_of (by rfl) (by rfl) (by rfl) (by rfl)) (pa_dvar 0 (pv 0) (pa_dnil)))) (pi_of (pd_call (ok__law_side Z) (hr.mono (by decide)) (by rfl) Z.g__law_side Z.f__law_side.kp Z.b__law_side .nil (fun _ _ _ => .nil) (takes_of (by rfl) (by rfl) (by rfl) (by rfl)) (pa_dvar 1 (pv 1) (pa_dnil))))) (blkOk_by (own := [((PySem.Str.ofString "_law_mine"), 3), ((PySem.Str.ofString "_law_its"), 4)]) (by rfl)) (fun _ _ _ _ _ => pg_dun (by rfl) (by rfl) (pgs_dcons (pg_dname (i := 3) sc__law_due_minus.nd (by rfl) (by first | exact Or.inl rfl | exact Or.inr rfl)) (pgs_dcons (pg_dname (i := 4) sc__law_due_minus.nd (by rfl) (by first | exact Or.inl rfl | exact Or.inr rfl)) (pgs_dnil)))) (fun _ _ _ _ _ => pts_dnil) (fun _ _ _ _ _ => pd_op op_sub opd_sub (pq_var 3 (pv 3)) (pq_var 4 (pv 4))))) (pa_dnil))))
      (pss_done (ps_dret (pd_if ((pw_dand (pt_dcmp (op_neU hr.units) opd_neU (pq_var 2 (pv 2)) (pd_tr (pd_tup (pl_nil))) (nomark _)) (pw_and1 (pt_dcmp (op_ltU hr.units) opd_ordU (pd_tr (pd_dixD (by rfl) hr.units1 (pq_var 2 (pv 2)) (pd_tr (pd_int)))) (pd_tr (pd_int)) (nomark _)))).pt) (pd_str) (pd_var 2 (pv 2)))))
theorem ok__law_case_right (Z : Txt P w K mg base ad fd) : FnOk P w K mg base (L2.CX P w) 13 (ad 28) (fd 28) [(PySem.Str.ofString "_law_box_here")] (spD (TT K ad) 1 m__law_case_right) :=
  Z.f__law_case_right.okD (k := 12) sc__law_case_right fun cdv A outer s H E hr => by
  exact pss_dcons (ps_dpar (by rfl) sc__law_case_right.nd (by rfl) (by rfl) (by decide) (by rfl) (by rfl) (par_cons (.sh (pd_call (ok__law_up Z) (hr.mono (by decide)) (by rfl) Z.g__law_up Z.f__law_up.kp Z.b__law_up .nil (fun _ _ _ => .nil) (takes_of (by rfl) (by rfl) (by rfl) (by rfl)) (pa_dsh (pd_call (ok__law_line Z) (hr.mono (by decide)) (by rfl) Z.g__law_line Z.f__law_line.kp Z.b__law_line .nil (fun _ _ _ => .nil) (takes_of (by rfl) (by rfl) (by rfl) (by rfl)) (pa_dvar 0 (pv 0) (pa_dnil))) (pa_dnil)))) (par_cons (.sh (pd_call (ok__law_up Z) (hr.mono (by decide)) (by rfl) Z.g__law_up Z.f__law_up.kp Z.b__law_up .nil (fun _ _ _ => .nil) (takes_of (by rfl) (by rfl) (by rfl) (by rfl)) (pa_dsh (pd_call (ok__law_line Z) (hr.mono (by decide)) (by rfl) Z.g__law_line Z.f__law_line.kp Z.b__law_line .nil (fun _ _ _ => .nil) (takes_of (by rfl) (by rfl) (by rfl) (by rfl)) (pa_dvar 0 (pv 0) (pa_dnil))) (pa_dnil)))) (par_nil) (by decide)) (by decide)) (by rfl))
      (pss_dcons (ps_dset (i := 3) sc__law_case_right.nd (by rfl) (by first | exact Or.inl rfl | exact Or.inr rfl) (pd_call (ok__law_of Z) (hr.mono (by decide)) (by rfl) Z.g__law_of Z.f__law_of.kp Z.b__law_of .nil (fun _ _ _ => .nil) (takes_of (by rfl) (by rfl) (by rfl) (by rfl)) (pa_dvar 0 (pv 0) (pa_dsh (pd_new (pf_lst (pl_cons (pd_int) (pl_cons (pd_int) (pl_cons (pd_int) (pl_cons (pd_call (ok__law_take Z) (hr.mono (by decide)) (by rfl) Z.g__law_take Z.f__law_take.kp Z.b__law_take .nil (fun _ _ _ => .nil) (takes_of (by rfl) (by rfl) (by rfl) (by rfl)) (pa_dvar 0 (pv 0) (pa_dsh (pd_op op_pow opd_pow (pd_tr (pd_int)) (pd_tr (pd_int))) (pa_dnil)))) (pl_nil))))))) (pa_dnil)))))
      (pss_dcons (ps_dif (pt_dcmp (op_eqU hr.units) opd_eqU (pd_tr (pd_call (ok__law_take Z) (hr.mono (by decide)) (by rfl) Z.g__law_take Z.f__law_take.kp Z.b__law_take .nil (fun _ _ _ => .nil) (takes_of (by rfl) (by rfl) (by rfl) (by rfl)) (pa_dvar 0 (pv 0) (pa_dsh (pd_int) (pa_dnil))))) (pd_tr (pd_int)) (nomark _)) (pss_done (ps_dset (i := 2) sc__law_case_right.nd (by rfl) (by first | exact Or.inl rfl | exact Or.inr rfl) (pd_new (pf_callTy (call_listU (by rfl)) cf_listU (by rfl) Z.z_list (by decide +kernel) (pq_cons (pq_var 1 (pv 1)) (pq_nil)))))) (pss_dnil))
      (pss_dcons (ps_dpar (by rfl) sc__law_case_right.nd (by rfl) (by rfl) (by decide) (by rfl) (by rfl) (par_cons (.sh (pd_makeG (n := 1) (N := 1) (ks := []) (sel := [.p 0]) (das := [.sh (.tup [])]) ⟨_, _, _, _, _, _, (by rfl), Z.cl_Hands.mkOf Z.me_Hands___init__, ok_Hands___init__ Z, (hr.mono (by decide)), Z.g_Hands, Z.kb_Hands___init___1, Z.df_Hands___init__⟩ (by rfl) (takes_of (by rfl) (by rfl) (by rfl) (by rfl)) (pa_dvar 1 (pv 1) (pa_dnil)) (pk_dnil))) (par_cons (.sh (pd_makeG (n := 1) (N := 1) (ks := []) (sel := [.p 0]) (das := [.sh (.tup [])]) ⟨_, _, _, _, _, _, (by rfl), Z.cl_Hands.mkOf Z.me_Hands___init__, ok_Hands___init__ Z, (hr.mono (by decide)), Z.g_Hands, Z.kb_Hands___init___1, Z.df_Hands___init__⟩ (by rfl) (takes_of (by rfl) (by rfl) (by rfl) (by rfl)) (pa_dvar 2 (pv 2) (pa_dnil)) (pk_dnil))) (par_nil) (by decide)) (by decide)) (by rfl))
      (pss_dcons (ps_dset (i := 6) sc__law_case_right.nd (by rfl) (by first | exact Or.inl rfl | exact Or.inr rfl) (pd_call (ok__law_trimmed Z) (hr.mono (by decide)) (by rfl) Z.g__law_trimmed Z.f__law_trimmed.kp Z.b__law_trimmed .nil (fun _ _ _ => .nil) (takes_of (by rfl) (by rfl) (by rfl) (by rfl)) (pa_dsh (pd_new (pf_lc (by rfl) sc__law_case_right.nd (pi_dzip (by rfl) (by rfl) Z.z_zip (pi_of (pd_call (ok__law_side Z) (hr.mono (by decide)) (by rfl) Z.g__law_side Z.f__law_side.kp Z.b__law_side .nil (fun _ _ _ => .nil) (takes_of (by rfl) (by rfl) (by rfl) (by rfl)) (pa_dvar 1 (pv 1) (pa_dnil)))) (pi_of (pd_call (ok__law_side Z) (hr.mono (by decide)) (by rfl) Z.g__law_side Z.f__law_side.kp Z.b__law_side .nil (fun _ _ _ => .nil) (takes_of (by rfl) (by rfl) (by rfl) (by rfl)) (pa_dvar 2 (pv 2) (pa_dnil))))) (blkOk_by (own := [((PySem.Str.ofString "_law_bit"), 12), ((PySem.Str.ofString "_law_far_so"), 13)]) (by rfl)) (fun _ _ _ _ _ => pg_dun (by rfl) (by rfl) (pgs_dcons (pg_dname (i := 12) sc__law_case_right.nd (by rfl) (by first | exact Or.inl rfl | exact Or.inr rfl)) (pgs_dcons (pg_dname (i := 13) sc__law_case_right.nd (by rfl) (by first | exact Or.inl rfl | exact Or.inr rfl)) (pgs_dnil)))) (fun _ _ _ _ _ => pts_dnil) (fun _ _ _ _ _ => pd_addO (by rfl) takes0 (TabOk.cons (ownOk_mk (by rfl) Z.cl_Hands Z.me_Hands___add__ (ok_Hands___add__ Z) (hr.mono (by decide)) Z.b_Hands___add__) (TabOk.nil)) (pq_var 12 (pv 12)) (pq_var 13 (pv 13))))) (pa_dnil))))
      (pss_dcons (ps_dset (i := 7) sc__law_case_right.nd (by rfl) (by first | exact Or.inl rfl | exact Or.inr rfl) (pd_call (ok__law_trimmed Z) (hr.mono (by decide)) (by rfl) Z.g__law_trimmed Z.f__law_trimmed.kp Z.b__law_trimmed .nil (fun _ _ _ => .nil) (takes_of (by rfl) (by rfl) (by rfl) (by rfl)) (pa_dsh (pd_new (pf_lc (by rfl) sc__law_case_right.nd (pi_seq (by rfl) (pi_var 1 (pv 1))) (blkOk_by (own := [((PySem.Str.ofString "_law_bit"), 12)]) (by rfl)) (fun _ _ _ _ _ => pg_dname (i := 12) sc__law_case_right.nd (by rfl) (by first | exact Or.inl rfl | exact Or.inr rfl)) (fun _ _ _ _ _ => pts_dnil) (fun _ _ _ _ _ => pd_mulO op_mulU opd_mulU takes0 (mulTab (mulOk_mk (k := 5) (by rfl) Z.cl_Hands Z.su_Hands Z.me_Hands___mul__ Z.me_Hands___rmul__ ((ok_Hands___mul__ Z).mono (by decide)) ((ok_Hands___rmul__ Z).mono (by decide)) (hr.mono (by decide)) Z.b_Hands___mul__ Z.b_Hands___rmul__)) (pq_var 12 (pv 12)) (pq_var 3 (pv 3))))) (pa_dnil))))
      (pss_dcons (ps_dset (i := 8) sc__law_case_right.nd (by rfl) (by first | exact Or.inl rfl | exact Or.inr rfl) (pd_new (pf_lst (pl_cons (pd_attr (by rfl) (TabOk.cons (attr_prop (by rfl) Z.cl_Hands Z.pr_Hands_numbers (ok_Hands_numbers Z) (hr.mono (by decide)) Z.b_Hands_numbers) (TabOk.nil)) (pd_tr (pd_addO (by rfl) (takes_of (by rfl) (by rfl) (by rfl) (by rfl)) (TabOk.cons (ownOk_mk (by rfl) Z.cl_Hands Z.me_Hands___add__ (ok_Hands___add__ Z) (hr.mono (by decide)) Z.b_Hands___add__) (TabOk.nil)) (pq_var 4 (pv 4)) (pq_var 5 (pv 5))))) (pl_cons (pd_attr (by rfl) (TabOk.cons (attr_prop (by rfl) Z.cl_Hands Z.pr_Hands_numbers (ok_Hands_numbers Z) (hr.mono (by decide)) Z.b_Hands_numbers) (TabOk.nil)) (pd_tr (pd_addO (by rfl) (takes_of (by rfl) (by rfl) (by rfl) (by rfl)) (TabOk.cons (ownOk_mk (by rfl) Z.cl_Hands Z.me_Hands___add__ (ok_Hands___add__ Z) (hr.mono (by decide)) Z.b_Hands___add__) (TabOk.nil)) (pq_var 5 (pv 5)) (pq_var 4 (pv 4))))) (pl_cons (pd_attr (by rfl) (TabOk.cons (attr_prop (by rfl) Z.cl_Hands Z.pr_Hands_numbers (ok_Hands_numbers Z) (hr.mono (by decide)) Z.b_Hands_numbers) (TabOk.nil)) (pd_tr (pd_mulO op_mulU opd_mulU (takes_of (by rfl) (by rfl) (by rfl) (by rfl)) (mulTab (mulOk_mk (k := 5) (by rfl) Z.cl_Hands Z.su_Hands Z.me_Hands___mul__ Z.me_Hands___rmul__ ((ok_Hands___mul__ Z).mono (by decide)) ((ok_Hands___rmul__ Z).mono (by decide)) (hr.mono (by decide)) Z.b_Hands___mul__ Z.b_Hands___rmul__)) (pq_var 3 (pv 3)) (pq_var 4 (pv 4))))) (pl_cons (pd_attr (by rfl) (TabOk.cons (attr_prop (by rfl) Z.cl_Hands Z.pr_Hands_numbers (ok_Hands_numbers Z) (hr.mono (by decide)) Z.b_Hands_numbers) (TabOk.nil)) (pd_tr (pd_mulO op_mulU opd_mulU (takes_of (by rfl) (by rfl) (by rfl) (by rfl)) (mulTab (mulOk_mk (k := 5) (by rfl) Z.cl_Hands Z.su_Hands Z.me_Hands___mul__ Z.me_Hands___rmul__ ((ok_Hands___mul__ Z).mono (by decide)) ((ok_Hands___rmul__ Z).mono (by decide)) (hr.mono (by decide)) Z.b_Hands___mul__ Z.b_Hands___rmul__)) (pq_var 4 (pv 4)) (pq_var 3 (pv 3))))) (pl_nil))))))))
      (pss_dcons (ps_dif (pt_dnot (pt_of (pd_tr (pd_call (ok__law_same Z 8) (hr.mono (by decide)) (by rfl) Z.g__law_same Z.f__law_same.kp Z.b__law_same .nil (fun _ _ _ => .nil) (takes_of (by rfl) (by rfl) (by rfl) (by rfl)) (pa_dvar 8 (pv 8) (pa_dsh (pd_new (pf_lst (pl_cons (pd_var 6 (pv 6)) (pl_cons (pd_var 6 (pv 6)) (pl_cons (pd_var 7 (pv 7)) (pl_cons (pd_var 7 (pv 7)) (pl_nil))))))) (pa_dnil))))))) (pss_done (ps_dret (pd_bl))) (pss_dnil))
      (pss_dcons (ps_dset (i := 8) sc__law_case_right.nd (by rfl) (by first | exact Or.inl rfl | exact Or.inr rfl) (pd_new (pf_lst (pl_cons (pd_call (ok__law_minus Z) (hr.mono (by decide)) (by rfl) Z.g__law_minus Z.f__law_minus.kp Z.b__law_minus .nil (fun _ _ _ => .nil) (takes_of (by rfl) (by rfl) (by rfl) (by rfl)) (pa_dvar 4 (pv 4) (pa_dvar 5 (pv 5) (pa_dnil)))) (pl_cons (pd_call (ok__law_minus Z) (hr.mono (by decide)) (by rfl) Z.g__law_minus Z.f__law_minus.kp Z.b__law_minus .nil (fun _ _ _ => .nil) (takes_of (by rfl) (by rfl) (by rfl) (by rfl)) (pa_dvar 5 (pv 5) (pa_dvar 4 (pv 4) (pa_dnil)))) (pl_nil))))))
      (pss_dcons (ps_dif (pt_dnot (pt_of (pd_tr (pd_call (ok__law_same Z 8) (hr.mono (by decide)) (by rfl) Z.g__law_same Z.f__law_same.kp Z.b__law_same .nil (fun _ _ _ => .nil) (takes_of (by rfl) (by rfl) (by rfl) (by rfl)) (pa_dvar 8 (pv 8) (pa_dsh (pd_new (pf_lst (pl_cons (pd_call (ok__law_due_minus Z) (hr.mono (by decide)) (by rfl) Z.g__law_due_minus Z.f__law_due_minus.kp Z.b__law_due_minus .nil (fun _ _ _ => .nil) (takes_of (by rfl) (by rfl) (by rfl) (by rfl)) (pa_dvar 1 (pv 1) (pa_dvar 2 (pv 2) (pa_dnil)))) (pl_cons (pd_call (ok__law_due_minus Z) (hr.mono (by decide)) (by rfl) Z.g__law_due_minus Z.f__law_due_minus.kp Z.b__law_due_minus .nil (fun _ _ _ => .nil) (takes_of (by rfl) (by rfl) (by rfl) (by rfl)) (pa_dvar 2 (pv 2) (pa_dvar 1 (pv 1) (pa_dnil)))) (pl_nil))))) (pa_dnil))))))) (pss_done (ps_dret (pd_bl))) (pss_dnil))
      (pss_dcons (ps_dset (i := 8) sc__law_case_right.nd (by rfl) (by first | exact Or.inl rfl | exact Or.inr rfl) (pd_new (pf_lst (pl_cons (pd_call (ok__law_minus Z) (hr.mono (by decide)) (by rfl) Z.g__law_minus Z.f__law_minus.kp Z.b__law_minus .nil (fun _ _ _ => .nil) (takes_of (by rfl) (by rfl) (by rfl) (by rfl)) (pa_dsh (pd_addO (by rfl) (takes_of (by rfl) (by rfl) (by rfl) (by rfl)) (TabOk.cons (ownOk_mk (by rfl) Z.cl_Hands Z.me_Hands___add__ (ok_Hands___add__ Z) (hr.mono (by decide)) Z.b_Hands___add__) (TabOk.nil)) (pq_var 4 (pv 4)) (pq_var 5 (pv 5))) (pa_dvar 5 (pv 5) (pa_dnil)))) (pl_cons (pd_attr (by rfl) (TabOk.cons (attr_prop (by rfl) Z.cl_Hands Z.pr_Hands_numbers (ok_Hands_numbers Z) (hr.mono (by decide)) Z.b_Hands_numbers) (TabOk.nil)) (pq_var 4 (pv 4))) (pl_cons (pd_attr (by rfl) (TabOk.cons (attr_prop (by rfl) Z.cl_Hands Z.pr_Hands_numbers (ok_Hands_numbers Z) (hr.mono (by decide)) Z.b_Hands_numbers) (TabOk.nil)) (pq_var 5 (pv 5))) (pl_nil)))))))
      (pss_dcons (ps_dif (pt_dnot (pt_of (pd_tr (pd_call (ok__law_same Z 8) (hr.mono (by decide)) (by rfl) Z.g__law_same Z.f__law_same.kp Z.b__law_same .nil (fun _ _ _ => .nil) (takes_of (by rfl) (by rfl) (by rfl) (by rfl)) (pa_dvar 8 (pv 8) (pa_dsh (pd_new (pf_lst (pl_cons (pd_call (ok__law_trimmed Z) (hr.mono (by decide)) (by rfl) Z.g__law_trimmed Z.f__law_trimmed.kp Z.b__law_trimmed .nil (fun _ _ _ => .nil) (takes_of (by rfl) (by rfl) (by rfl) (by rfl)) (pa_dvar 1 (pv 1) (pa_dnil))) (pl_cons (pd_call (ok__law_trimmed Z) (hr.mono (by decide)) (by rfl) Z.g__law_trimmed Z.f__law_trimmed.kp Z.b__law_trimmed .nil (fun _ _ _ => .nil) (takes_of (by rfl) (by rfl) (by rfl) (by rfl)) (pa_dvar 1 (pv 1) (pa_dnil))) (pl_cons (pd_call (ok__law_trimmed Z) (hr.mono (by decide)) (by rfl) Z.g__law_trimmed Z.f__law_trimmed.kp Z.b__law_trimmed .nil (fun _ _ _ => .nil) (takes_of (by rfl) (by rfl) (by rfl) (by rfl)) (pa_dvar 2 (pv 2) (pa_dnil))) (pl_nil)))))) (pa_dnil))))))) (pss_done (ps_dret (pd_bl))) (pss_dnil))
      (pss_dcons (ps_dpar (by rfl) sc__law_case_right.nd (by rfl) (by rfl) (by decide) (by rfl) (by rfl) (par_cons (.sh (pd_call (ok__law_take Z) (hr.mono (by decide)) (by rfl) Z.g__law_take Z.f__law_take.kp Z.b__law_take .nil (fun _ _ _ => .nil) (takes_of (by rfl) (by rfl) (by rfl) (by rfl)) (pa_dvar 0 (pv 0) (pa_dsh (pd_int) (pa_dnil))))) (par_cons (.sh (pd_call (ok__law_of Z) (hr.mono (by decide)) (by rfl) Z.g__law_of Z.f__law_of.kp Z.b__law_of .nil (fun _ _ _ => .nil) (takes_of (by rfl) (by rfl) (by rfl) (by rfl)) (pa_dvar 0 (pv 0) (pa_dsh (pd_new (pf_lst (pl_cons (pd_int) (pl_cons (pd_int) (pl_cons (pd_int) (pl_cons (pd_call (ok__law_take Z) (hr.mono (by decide)) (by rfl) Z.g__law_take Z.f__law_take.kp Z.b__law_take .nil (fun _ _ _ => .nil) (takes_of (by rfl) (by rfl) (by rfl) (by rfl)) (pa_dvar 0 (pv 0) (pa_dsh (pd_op op_pow opd_pow (pd_tr (pd_int)) (pd_tr (pd_int))) (pa_dnil)))) (pl_nil))))))) (pa_dnil))))) (par_nil) (by decide)) (by decide)) (by rfl))
      (pss_dcons (ps_dset (i := 11) sc__law_case_right.nd (by rfl) (by first | exact Or.inl rfl | exact Or.inr rfl) (pd_if (pt_dcmp (op_gtU hr.units) opd_ordU (pq_var 10 (pv 10)) (pd_tr (pd_int)) (nomark _)) (pd_addO (by rfl) (takes_of (by rfl) (by rfl) (by rfl) (by rfl)) (TabOk.cons (ownOk_mk (by rfl) Z.cl_Hands Z.me_Hands___add__ (ok_Hands___add__ Z) (hr.mono (by decide)) Z.b_Hands___add__) (TabOk.nil)) (pd_tr (pd_tup (pl_cons (pd_var 10 (pv 10)) (pl_nil)))) (pd_tr (pd_op op_rep1 opd_mulT (pd_tr (pd_tup (pl_cons (pd_int) (pl_nil)))) (pq_var 9 (pv 9))))) (pd_tup (pl_nil))))
      (pss_dcons (ps_dif (pt_dnot (pt_of (pd_tr (pd_call (ok__law_same Z 8) (hr.mono (by decide)) (by rfl) Z.g__law_same Z.f__law_same.kp Z.b__law_same .nil (fun _ _ _ => .nil) (takes_of (by rfl) (by rfl) (by rfl) (by rfl)) (pa_dsh (pd_attr (by rfl) (TabOk.cons (attr_prop (by rfl) Z.cl_Hands Z.pr_Hands_numbers (ok_Hands_numbers Z) (hr.mono (by decide)) Z.b_Hands_numbers) (TabOk.nil)) (pd_tr (pd_callG (n := 2) (N := 2) (ks := []) (sel := [.p 0, .p 1]) (das := [.sh (.int 1)]) ⟨_, _, _, _, _, (ok_hand Z), (hr.mono (by decide)), Z.g_hand, Z.f_hand.kp, Z.kb_hand_2, Z.df_hand⟩ (by rfl) (takes_of (by rfl) (by rfl) (by rfl) (by rfl)) (pa_dvar 9 (pv 9) (pa_dvar 10 (pv 10) (pa_dnil))) (pk_dnil)))) (pa_dvar 11 (pv 11) (pa_dnil))))))) (pss_done (ps_dret (pd_bl))) (pss_dnil))
      (pss_done (ps_dret (pd_and (pd_tr (pd_call (ok__law_cut_right Z) (hr.mono (by decide)) (by rfl) Z.g__law_cut_right Z.f__law_cut_right.kp Z.b__law_cut_right .nil (fun _ _ _ => .nil) (takes_of (by rfl) (by rfl) (by rfl) (by rfl)) (pa_dvar 0 (pv 0) (pa_dvar 4 (pv 4) (pa_dvar 1 (pv 1) (pa_dnil)))))) (pd_one (pd_call (ok__law_cut_right Z) (hr.mono (by decide)) (by rfl) Z.g__law_cut_right Z.f__law_cut_right.kp Z.b__law_cut_right .nil (fun _ _ _ => .nil) (takes_of (by rfl) (by rfl) (by rfl) (by rfl)) (pa_dvar 0 (pv 0) (pa_dvar 5 (pv 5) (pa_dvar 2 (pv 2) (pa_dnil)))))))))))))))))))))))
theorem ok__law_right (Z : Txt P w K mg base ad fd) : FnOk P w K mg base (L2.CX P w) 15 (ad 29) (fd 29) [(PySem.Str.ofString "_law_box_here")] (spD (TT K ad) 1 m__law_right) :=
  Z.f__law_right.okD (k := 14) sc__law_right fun cdv A outer s H E hr => by
  exact pss_done (ps_dret (pd_and (pd_tr (pd_call0 (ok__law_by_hand_right Z) (hr.mono (by decide)) (by rfl) Z.g__law_by_hand_right Z.f__law_by_hand_right.kp Z.b__law_by_hand_right .nil (fun _ _ _ => .nil) (takes_of (by rfl) (by rfl) (by rfl) (by rfl)))) (pd_one (pd_callB (cr_all (by rfl)) cd_all rfl Z.z_all (by decide +kernel) (pq_cons (pd_tr (pd_new (pf_lc (by rfl) sc__law_right.nd (pi_drange1 (by rfl) Z.z_range (pl_cons (pd_int) (pl_nil))) (blkOk_by (own := [((PySem.Str.ofString "_law_turn"), 1)]) (by rfl)) (fun _ _ _ _ _ => pg_dname (i := 1) sc__law_right.nd (by rfl) (by first | exact Or.inl rfl | exact Or.inr rfl)) (fun _ _ _ _ _ => pts_dnil) (fun _ _ _ _ _ => pd_call (ok__law_case_right Z) (hr.mono (by decide)) (by rfl) Z.g__law_case_right Z.f__law_case_right.kp Z.b__law_case_right .nil (fun _ _ _ => .nil) takes0 (pa_dvar 0 (pv 0) (pa_dnil)))))) (pq_nil))))))
theorem ok__law_box (Z : Txt P w K mg base ad fd) : FnOk P w K mg base (L2.CX P w) 1 (ad 14) (fd 14) [(PySem.Str.ofString "_law_script"), (PySem.Str.ofString "_law_k")] (spF (TT K ad) 2 m__law_box) :=
  Z.f__law_box.okF (k := 0) sc__law_box fun cdv A outer s H E hr => by
  exact pss_cons (ps_dset (i := 2) sc__law_box.nd (by rfl) (by first | exact Or.inl rfl | exact Or.inr rfl) (pd_if (pt_dcmp (op_ltU hr.units) opd_ordU (pq_var 1 (pv 1)) (pd_tr (pd_callB call_lenV cd_lenD (by rfl) Z.z_len boot_len (pq_cons (pq_var 0 (pv 0)) (pq_nil)))) (nomark _)) (pd_dixD (by rfl) hr.units1 (pq_var 0 (pv 0)) (pq_var 1 (pv 1))) (pd_int)))
      (pss_one (ps_ret (pf_lst (pl_cons (pd_op op_mulU opd_mulU (pd_tr (pd_callB call_abs cd_abs (by rfl) Z.z_abs (by decide +kernel) (pq_cons (pq_var 2 (pv 2)) (pq_nil)))) (pd_tr (pd_callTy call_intU cd_int (by rfl) Z.z_int (by decide +kernel) (pq_cons (pd_tr (pd_cmp (op_geU hr.units) opd_ordU (pd_tr (pd_callB call_abs cd_abs (by rfl) Z.z_abs (by decide +kernel) (pq_cons (pq_var 2 (pv 2)) (pq_nil)))) (pd_tr (pd_op op_pow opd_pow (pd_tr (pd_int)) (pd_tr (pd_int)))) (nomark _))) (pq_nil))))) (pl_cons (pd_add (by rfl) (pd_tr (pd_add (by rfl) (pd_tr (pd_op op_mod opd_mod (pd_tr (pd_callTy call_intU cd_int (by rfl) Z.z_int (by decide +kernel) (pq_cons (pq_var 2 (pv 2)) (pq_nil)))) (pd_tr (pd_int)))) (pd_tr (pd_op op_mulU opd_mulU (pd_tr (pd_int)) (pq_var 1 (pv 1)))))) (pd_tr (pd_int))) (pl_cons (pd_int) (pl_nil)))))))
theorem ok_law (Z : Txt P w K mg base ad fd) : FnOk P w K mg base (L2.CX P w) 17 (ad 30) (fd 30) [(PySem.Str.ofString "_law_script")] (spD (TT K ad) 1 m_law) :=
  Z.f_law.okD (k := 16) sc_law fun cdv A outer s H E hr => by
  exact pss_dcons (ps_dset (i := 1) sc_law.nd (by rfl) (by first | exact Or.inl rfl | exact Or.inr rfl) (pd_call (ok__law_cells Z) (hr.mono (by decide)) (by rfl) Z.g__law_cells Z.f__law_cells.kp Z.b__law_cells .nil (fun _ _ _ => .nil) (takes_of (by rfl) (by rfl) (by rfl) (by rfl)) (pa_dvar 0 (pv 0) (pa_dsh (pd_int) (pa_dnil)))))
      (pss_done (ps_dret (pd_callB (cr_all (by rfl)) cd_all rfl Z.z_all (by decide +kernel) (pq_cons (pd_tr (pd_new (pf_lc (by rfl) sc_law.nd (pi_drange1 (by rfl) Z.z_range (pl_cons (pd_callB call_lenV cd_lenD (by rfl) Z.z_len boot_len (pq_cons (pq_var 1 (pv 1)) (pq_nil))) (pl_nil))) (blkOk_by (own := [((PySem.Str.ofString "_law_k"), 2)]) (by rfl)) (fun _ _ _ _ _ => pg_dname (i := 2) sc_law.nd (by rfl) (by first | exact Or.inl rfl | exact Or.inr rfl)) (fun _ _ _ _ _ => pts_dnil) (fun _ _ _ _ _ => pd_boxed (ok__law_right Z) (hr.mono (by decide)) (by rfl) Z.g__law_right Z.f__law_right.kp Z.b__law_right (ok__law_box Z) (hr.mono (by decide)) (by rfl) Z.g__law_box Z.f__law_box.kp Z.b__law_box takes0 (pa_dvar 1 (pv 1) (pa_dvar 2 (pv 2) (pa_dnil))))))) (pq_nil)))))
end
end LW

namespace LW
open PySem PySem.Spec PyProof.Rows L2 DL
/-- a box, good for b more draws -/
def BG (x : Bx) (b : Int) : Prop := 0 ≤ x.1 ∧ 0 ≤ x.2.1 ∧ x.2.1 < 2 ^ 62 ∧ 0 ≤ x.2.2 ∧ 0 ≤ b ∧ x.2.2 + b ≤ 2 ^ 40
theorem BG.mono {x : Bx} {b b' : Int} (h : BG x b) (h0 : 0 ≤ b') (h1 : b' ≤ b) : BG x b' := ⟨h.1, h.2.1, h.2.2.1, h.2.2.2.1, h0, by have := h.2.2.2.2.2; omega⟩
theorem divW {j : Int} (h : 0 < j) (h2 : j < 2 ^ 400) (i : Int) : CDivW i j := ⟨h, by
  have h3 : j.natAbs < 2 ^ 400 := by omega
  have h4 : j.natAbs.log2 < 400 := (Nat.log2_lt (by omega)).mpr h3
  omega⟩
theorem take_ok {n : Int} {x : Bx} {b : Int} (h0 : 0 < n) (h1 : n < 2 ^ 400) (hb : BG x (b + 1)) (hb0 : 0 ≤ b) : ∃ r x', m__law_take [.sh .box, .sh (.int n)] x = .ok (.int r) x' ∧ 0 ≤ r ∧ r < n ∧ BG x' b := by
  obtain ⟨c, s, k⟩ := x
  obtain ⟨b1, b2, b3, b4, b5, b6⟩ := hb
  dsimp only at b1 b2 b3 b4 b6
  by_cases hc : 0 < c
  · refine ⟨c % n, (c / n, s, k), ?_, Int.emod_nonneg _ (by omega), Int.emod_lt_of_pos _ h0, ⟨Int.ediv_nonneg b1 (by omega), b2, b3, b4, hb0, by show k + b ≤ _; omega⟩⟩
    refine m_rt (sq_rt (st_ift (x1 := (c, s, k)) (ev_tof ?_) ?_))
    · show R.ok (D.bl (decide (0 < c))) (c, s, k) = _
      rw [decide_eq_true hc]
    · refine sq_nx (st_asg (d := .int (c % n)) (x1 := (c, s, k)) (ev_e2 (a := .int c) (b := .int n) rfl rfl (mod_is h0))) (sq_nx (Γ1 := [.sh .box, .sh (.int n), .sh (.int (c % n)), .no, .no, .no]) (x1 := (c / n, s, k)) (st_bset (v := c / n) (x1 := (c, s, k)) rfl (ev_e2 (a := .int c) (b := .int n) (x1 := (c, s, k)) rfl rfl (div_is (divW h0 h1 c))) rfl) rfl)
  · have once0 : 0 ≤ ((s + 48271 * (k + 1)) * (39373 + (k + 1))) % 2147483647 := Int.emod_nonneg _ (by omega)
    have once1 : ((s + 48271 * (k + 1)) * (39373 + (k + 1))) % 2147483647 < 2147483647 := Int.emod_lt_of_pos _ (by omega)
    generalize hon : ((s + 48271 * (k + 1)) * (39373 + (k + 1))) % 2147483647 = on at once0 once1
    have far0 : 0 ≤ on % 40009 := Int.emod_nonneg _ (by omega)
    have far1 : on % 40009 < 40009 := Int.emod_lt_of_pos _ (by omega)
    generalize hfa : on % 40009 = fa at far0 far1
    have ag0 : 0 ≤ ((on + (k + 1) + s / 1000003) * (fa + 7)) % 2147483629 := Int.emod_nonneg _ (by omega)
    have ag1 : ((on + (k + 1) + s / 1000003) * (fa + 7)) % 2147483629 < 2147483629 := Int.emod_lt_of_pos _ (by omega)
    generalize hag : ((on + (k + 1) + s / 1000003) * (fa + 7)) % 2147483629 = ag at ag0 ag1
    refine ⟨((ag * 48271 + on) % 2147483587 / 64) % n, (c, s, k + 1), ?_, Int.emod_nonneg _ (by omega), Int.emod_lt_of_pos _ h0, ⟨b1, b2, b3, by show 0 ≤ k + 1; omega, hb0, by show k + 1 + b ≤ _; omega⟩⟩
    refine m_rt (sq_nx (st_iff (x1 := (c, s, k)) (ev_tof ?_) rfl) (sq_nx (Γ1 := [.sh .box, .sh (.int n), .no, .no, .no, .no]) (x1 := (c, s, k + 1)) rfl ?_))
    · show R.ok (D.bl (decide (0 < c))) (c, s, k) = _
      rw [decide_eq_false hc]
    · refine sq_nx (st_asg (d := .int on) (x1 := (c, s, k + 1)) (ev_e2 (a := .int ((s + 48271 * (k + 1)) * (39373 + (k + 1)))) (b := .int 2147483647) (x1 := (c, s, k + 1)) (ev_B (ev_lc (ev_e2 (a := .int (s + 48271 * (k + 1))) (b := .int (39373 + (k + 1))) (x1 := (c, s, k + 1)) (ev_e2 (a := .int s) (b := .int (48271 * (k + 1))) (x1 := (c, s, k + 1)) rfl (ev_e2 (a := .int 48271) (b := .int (k + 1)) (x1 := (c, s, k + 1)) rfl rfl (mul_l (by omega))) rfl) rfl (mul_r (by omega))) rfl) rfl) rfl (by rw [← hon]; exact mod_is (by omega)))) ?_
      refine sq_nx (st_asg (d := .int (fa + 7)) (x1 := (c, s, k + 1)) (ev_e2 (a := .int fa) (b := .int 7) (x1 := (c, s, k + 1)) (ev_e2 (a := .int on) (b := .int 40009) (x1 := (c, s, k + 1)) rfl rfl (by rw [← hfa]; exact mod_is (by omega))) rfl rfl)) ?_
      refine sq_nx (st_asg (d := .int ag) (x1 := (c, s, k + 1)) (ev_e2 (a := .int ((on + (k + 1) + s / 1000003) * (fa + 7))) (b := .int 2147483629) (x1 := (c, s, k + 1)) (ev_B (ev_lc (ev_e2 (a := .int (on + (k + 1) + s / 1000003)) (b := .int (fa + 7)) (x1 := (c, s, k + 1)) (ev_e2 (a := .int (on + (k + 1))) (b := .int (s / 1000003)) (x1 := (c, s, k + 1)) rfl (ev_e2 (a := .int s) (b := .int 1000003) (x1 := (c, s, k + 1)) rfl rfl (div_is (divW (by omega) (by omega) s))) rfl) rfl (mul_r (by omega))) rfl) rfl) rfl (by rw [← hag]; exact mod_is (by omega)))) ?_
      refine st_ret (ev_e2 (a := .int ((ag * 48271 + on) % 2147483587 / 64)) (b := .int n) (x1 := (c, s, k + 1)) (ev_B (ev_lc (ev_e2 (a := .int ((ag * 48271 + on) % 2147483587)) (b := .int 64) (x1 := (c, s, k + 1)) (ev_e2 (a := .int (ag * 48271 + on)) (b := .int 2147483587) (x1 := (c, s, k + 1)) (ev_B (ev_lc (ev_e2 (a := .int (ag * 48271)) (b := .int on) (x1 := (c, s, k + 1)) (ev_e2 (a := .int ag) (b := .int 48271) (x1 := (c, s, k + 1)) rfl rfl (mul_r (by omega))) rfl rfl) rfl) rfl) rfl (mod_is (by omega))) rfl (div_is (divW (by omega) (by omega) _))) rfl) rfl) rfl (mod_is h0))
theorem atI_ok {α : Type} {xs : List α} {r : Int} (h0 : 0 ≤ r) (h1 : r < xs.length) : ∃ d, xs[r.toNat]? = some d ∧ atI xs r = some d := by
  have hl : r.toNat < xs.length := by omega
  refine ⟨xs[r.toNat], List.getElem?_eq_getElem hl, ?_⟩
  unfold atI ixN
  rw [if_pos h0, if_pos h1]
  exact List.getElem?_eq_getElem hl
theorem of_lst {gs : List D} {x : Bx} {b : Int} (h0 : 0 < gs.length) (h1 : gs.length ≤ 100000) (hb : BG x (b + 1)) (hb0 : 0 ≤ b) : ∃ d x', m__law_of [.sh .box, .sh (.lst gs)] x = .ok d x' ∧ d ∈ gs ∧ BG x' b := by
  obtain ⟨r, x', ht, r0, r1, hg⟩ := take_ok (n := (gs.length : Nat)) (by omega) (by omega) hb hb0
  obtain ⟨d, hd, ha⟩ := atI_ok r0 r1
  refine ⟨d, x', m_rt (st_ret (ev_e2 (a := .lst gs) (b := .int r) (x1 := x) rfl (ev_call (as := [.sh .box, .sh (.int (gs.length : Nat))]) (x1 := x) rfl rfl ht) ha)), List.mem_of_getElem? hd, hg⟩
theorem of_str {z : Str} {x : Bx} {b : Int} (h0 : 0 < z.length) (h1 : z.length ≤ 100000) (hb : BG x (b + 1)) (hb0 : 0 ≤ b) : ∃ c x', m__law_of [.sh .box, .sh (.str z)] x = .ok (.str ⟨#[c]⟩) x' ∧ c ∈ z.cps.toList ∧ BG x' b := by
  obtain ⟨r, x', ht, r0, r1, hg⟩ := take_ok (n := (z.length : Nat)) (by omega) (by omega) hb hb0
  have hz : z.cps.toList.length = z.length := Array.length_toList
  obtain ⟨d, hd, ha⟩ := atI_ok (xs := z.cps.toList) r0 (by rw [hz]; exact r1)
  refine ⟨d, x', m_rt (st_ret (ev_e2 (a := .str z) (b := .int r) (x1 := x) rfl (ev_call (as := [.sh .box, .sh (.int (z.length : Nat))]) (x1 := x) (ev_avar rfl (ev_ash (ev_B (ds := [.str z]) rfl (if_pos h1)) rfl)) rfl ht) ?_)), List.mem_of_getElem? hd, hg⟩
  show (if z.length ≤ 100000 then _ else _) = _
  rw [if_pos h1, ha]
  rfl
theorem seqIx {r : Int} {n : Nat} (h0 : 0 ≤ r) (h1 : r < n) : seqIndex? r n = some r.toNat := by
  unfold seqIndex?
  have hn : ¬ r < 0 := by omega
  simp [hn, h0, h1]
theorem for_cons {t : GC} {g : SC} {d : D} {ds : List D} {Γ Γ1 Γ2 : Gm} {x x2 : Bx} {r : SR} (h1 : t d Γ = some Γ1) (h2 : g Γ1 x = .nx Γ2 x2) (h3 : forGo t g ds Γ2 x2 = r) : forGo t g (d :: ds) Γ x = r := by
  unfold forGo
  rw [h1]
  dsimp only
  rw [h2]
  exact h3
theorem lc_nil {t : GC} {tst : TC} {fe : EC} {Γ : Gm} {x : Bx} : lcGo t tst fe Γ [] x = .ok [] x := rfl
theorem lc_cons {t : GC} {fe : EC} {Γ Γ1 : Gm} {x x1 x2 : Bx} {d y : D} {ds ys : List D} (h1 : t d Γ = some Γ1) (h2 : fe Γ1 x = .ok y x1) (h3 : lcGo t tYesC fe Γ ds x1 = .ok ys x2) : lcGo t tYesC fe Γ (d :: ds) x = .ok (y :: ys) x2 := by
  unfold lcGo
  rw [h1]
  dsimp only
  have e1 : bnd (noEr (tYesC Γ1)) (fun k => if k = true then bnd (noEr (fe Γ1)) fun y => bnd (lcGo t tYesC fe Γ ds) fun ys => M.pure (y :: ys) else lcGo t tYesC fe Γ ds) x = bnd (noEr (fe Γ1)) (fun y => bnd (lcGo t tYesC fe Γ ds) fun ys => M.pure (y :: ys)) x := rfl
  rw [e1, bnd_ok (a := y) (y := x1) (by unfold noEr; rw [h2]), bnd_ok h3]
  rfl
theorem ev_lcomp {fi : AC} {t : GC} {tst : TC} {fe : EC} {vs : List Nat} {Γ : Gm} {x x1 x2 : Bx} {ds ys : List D} (h1 : fi Γ x = .ok ds x1) (h2 : ds.length ≤ 100000) (h3 : lcGo t tst fe (wipeG Γ vs) ds x1 = .ok ys x2) : eLc fi t tst fe vs Γ x = .ok (.lst ys) x2 := by
  show bnd (fi Γ) _ x = _
  rw [bnd_ok h1, if_pos h2, bnd_ok h3]
  rfl
theorem dAdd_l {a b : List D} (h : a.length + b.length ≤ 100000) : dAdd (.lst a) (.lst b) = some (.lst (a ++ b)) := if_pos h
theorem dAdd_s {a b : Str} (h : a.length + b.length ≤ 100000) : dAdd (.str a) (.str b) = some (.str (a ++ b)) := if_pos h
theorem sl_len (a b : Str) : (a ++ b).length = a.length + b.length := Array.size_append
theorem dEq_int (i j : Int) : dEqU id (.int i) (.int j) = some (.bl (decide (i = j))) := rfl
theorem dEq_str (a b : Str) : dEqU id (.str a) (.str b) = some (.bl (decide (a = b))) := rfl
/-- alike, by the law's own word -/
def Sm (n : Nat) (d : D) : Prop := ∀ x, m__law_same n [.sh d, .sh d] x = .ok (.bl true) x
theorem sm_non {n : Nat} : Sm (n + 1) .non := fun x => rfl
theorem sm_bl {n : Nat} {k : Bool} : Sm (n + 1) (.bl k) := fun x => by cases k <;> rfl
theorem ev_and {fa fb : EC} {Γ : Gm} {x x1 : Bx} {r : R D} (ha : fa Γ x = .ok (.bl true) x1) (hb : fb Γ x1 = r) : eAnd fa fb Γ x = r := by
  show bnd (tOf fa Γ) _ x = _
  rw [bnd_ok (ev_tof ha)]
  exact hb
theorem sm_int {n : Nat} {i : Int} : Sm (n + 1) (.int i) := fun x => m_rt (sq_nx (x1 := x) (st_iff (x1 := x) rfl rfl) (sq_nx (x1 := x) (st_iff (x1 := x) rfl rfl) (st_ret (ev_and (x1 := x) rfl (ev_and (x1 := x) rfl (ev_e2 (a := .int i) (b := .int i) (x1 := x) rfl rfl (by rw [dEq_int, decide_eq_true rfl])))))))
theorem sm_str {n : Nat} {i : Str} : Sm (n + 1) (.str i) := fun x => m_rt (sq_nx (x1 := x) (st_iff (x1 := x) rfl rfl) (sq_rt (st_ift (x1 := x) rfl (st_ret (ev_and (x1 := x) (ev_e2 (a := .str i) (b := .str i) (x1 := x) rfl rfl (by rw [dEq_str, decide_eq_true rfl])) (ev_and (x1 := x) rfl rfl))))))
def smE (n : Nat) : EC := eCall (lenOk 2 (m__law_same n)) [] (aVar 2 (aVar 3 (aNil)))
theorem sm_go {n : Nat} {g0 g1 : Sl} {x : Bx} : ∀ ds : List D, (∀ d ∈ ds, Sm n d) → lcGo (gU 2 (gsC (gN 2) (gsC (gN 3) (gsN)))) tYesC (smE n) [g0, g1, .no, .no] (zipD ds ds) x = .ok (ds.map fun _ => .bl true) x
  | [], _ => rfl
  | d :: ds, h => lc_cons (Γ1 := [g0, g1, .sh d, .sh d]) rfl (ev_call (as := [.sh d, .sh d]) (x1 := x) rfl rfl (h d List.mem_cons_self x)) (sm_go ds fun q hq => h q (List.mem_cons_of_mem _ hq))
theorem bls_true : ∀ ds : List D, blsD (ds.map fun _ => D.bl true) = some (ds.map fun _ => true)
  | [] => rfl
  | d :: ds => by
    show (blsD (ds.map fun _ => D.bl true)).map _ = _
    rw [bls_true ds]
    rfl
theorem all_true (ds : List D) : dAll [.lst (ds.map fun _ => D.bl true)] = some (.bl true) := by
  show (blsD _).map _ = _
  rw [bls_true]
  simp
theorem sm_lst {n : Nat} {ds : List D} (h : ∀ d ∈ ds, Sm n d) (hl : ds.length ≤ 100000) : Sm (n + 1) (.lst ds) := fun x =>
  m_rt (sq_rt (st_ift (x1 := x) rfl (sq_nx (x1 := x) (st_iff (x1 := x) rfl rfl) (sq_nx (x1 := x) (st_iff (x1 := x) rfl rfl) (st_ret (ev_and (x1 := x) (ev_e2 (a := .int ds.length) (b := .int ds.length) (x1 := x) rfl rfl (by rw [dEq_int, decide_eq_true rfl])) (ev_B (x1 := x) (ev_lc (x1 := x) (ev_lcomp (ds := zipD ds ds) (x1 := x) rfl (by rw [zipD_len]; omega) (sm_go ds h)) rfl) (all_true ds))))))))
theorem sm_tup {n : Nat} {ds : List D} (h : ∀ d ∈ ds, Sm n d) (hl : ds.length ≤ 100000) : Sm (n + 1) (.tup ds) := fun x =>
  m_rt (sq_rt (st_ift (x1 := x) rfl (sq_nx (x1 := x) (st_iff (x1 := x) rfl rfl) (sq_nx (x1 := x) (st_iff (x1 := x) rfl rfl) (st_ret (ev_and (x1 := x) (ev_e2 (a := .int ds.length) (b := .int ds.length) (x1 := x) rfl rfl (by rw [dEq_int, decide_eq_true rfl])) (ev_B (x1 := x) (ev_lc (x1 := x) (ev_lcomp (ds := zipD ds ds) (x1 := x) rfl (by rw [zipD_len]; omega) (sm_go ds h)) rfl) (all_true ds))))))))
theorem absI (c : Int) : 0 ≤ (if c < 0 then -c else c) := by
  by_cases h : c < 0
  · rw [if_pos h]; omega
  · rw [if_neg h]; omega
theorem box_ok {cs : List Int} {k : Nat} (hk : k < cs.length) (hl : cs.length ≤ 3) (x : Bx) : ∃ i j : Int, m__law_box [.sh (.lst (cs.map D.int)), .sh (.int (k : Nat))] x = .ok (.lst [.int i, .int j, .int 0]) x ∧ BG (i, j, 0) (2 ^ 40) := by
  have hg : (cs.map D.int)[k]? = some (.int cs[k]) := by rw [List.getElem?_map, List.getElem?_eq_getElem hk]; rfl
  have hat : atI (cs.map D.int) (k : Int) = some (.int cs[k]) := by
    unfold atI ixN
    rw [if_pos (by omega), if_pos (by rw [List.length_map]; omega)]
    simpa using hg
  generalize cs[k] = c at hat
  have m0 : 0 ≤ c % 2305843009213693951 := Int.emod_nonneg _ (by omega)
  have m1 : c % 2305843009213693951 < 2305843009213693951 := Int.emod_lt_of_pos _ (by omega)
  have hi : ∃ i : Int, dMul (.int (if c < 0 then -c else c)) (.int (if decide (10 ^ 18 ≤ (if c < 0 then -c else c)) then 1 else 0)) = some (.int i) ∧ 0 ≤ i := by
    refine ⟨_, mul_r ?_, ?_⟩
    · by_cases h : decide ((10 : Int) ^ 18 ≤ (if c < 0 then -c else c)) = true
      · rw [if_pos h]; omega
      · rw [if_neg h]; omega
    · refine Int.mul_nonneg (absI c) ?_
      by_cases h : decide ((10 : Int) ^ 18 ≤ (if c < 0 then -c else c)) = true
      · rw [if_pos h]; omega
      · rw [if_neg h]; omega
  obtain ⟨i, hi1, hi2⟩ := hi
  refine ⟨i, c % 2305843009213693951 + 39373 * (k : Int) + 58822, ?_, ⟨hi2, by show 0 ≤ c % 2305843009213693951 + 39373 * (k : Int) + 58822; omega, by show c % 2305843009213693951 + 39373 * (k : Int) + 58822 < 2 ^ 62; omega, by show (0 : Int) ≤ 0; decide, by decide, by show (0 : Int) + 2 ^ 40 ≤ 2 ^ 40; decide⟩⟩
  unfold m__law_box mFr
  have s1 : sAsg 2 (eIf (tOf (e2 dLtU (eVarT 1) (eB dLenD (lCons (eVarT 0) (lNil))))) (e2 dIxD (eVarT 0) (eVarT 1)) (eC (.int 0))) [.sh (.lst (cs.map D.int)), .sh (.int (k : Nat)), .no] x = .nx [.sh (.lst (cs.map D.int)), .sh (.int (k : Nat)), .sh (.int c)] x :=
    st_asg (ev_if (k := true) (x1 := x) (ev_tof (ev_e2 (a := .int (k : Nat)) (b := .int ((cs.map D.int).length : Nat)) (x1 := x) rfl rfl (show some (D.bl (decide ((k : Int) < (((cs.map D.int).length : Nat) : Int)))) = _ by rw [decide_eq_true (by rw [List.length_map]; omega)]))) (by rw [if_pos rfl]; exact ev_e2 (a := .lst (cs.map D.int)) (b := .int (k : Nat)) (x1 := x) rfl rfl hat))
  show (match sAsg 2 _ [.sh (.lst (cs.map D.int)), .sh (.int (k : Nat)), .no] x with | .nx Γ x => _ | .er e _ x => _ | _ => _) = _
  rw [s1]
  refine ev_lst (ev_lc (x1 := x) (ev_e2 (x1 := x) rfl rfl hi1) (ev_lc (x1 := x) (ev_e2 (a := .int (c % 2305843009213693951 + 39373 * (k : Int))) (b := .int 58822) (x1 := x) (ev_e2 (a := .int (c % 2305843009213693951)) (b := .int (39373 * (k : Int))) (x1 := x) (ev_e2 (a := .int c) (b := .int 2305843009213693951) (x1 := x) rfl rfl (mod_is (by omega))) (ev_e2 (a := .int 39373) (b := .int (k : Nat)) (x1 := x) rfl rfl (mul_l (by omega))) rfl) rfl rfl) rfl))
/-- the cells: up to n numbers -/
def Ints (ds : List D) : Prop := ∃ cs : List Int, ds = cs.map D.int
def clG (ns : List Int) (cs : List Int) (s3 s4 s5 : Sl) : Gm := [.sh (.scr ns), .sh (.int 3), .ow (.lst (cs.map D.int)), s3, s4, s5]
def clS : SC := sSeq (sAsg 5 (e2 dMod (eB dIntOf (lCons (eVarT 3) (lNil))) (eVarT 1)))
      (sSetL 2 (eVarT 5) (e2 dAdd (e2 dIxD (eVarT 2) (eVarT 5)) (e2 dMul (eVarT 4) (e2 dAdd (eVarT 3) (eC (.int 2))))))
theorem st_setL {Γ : Gm} {x x1 x2 : Bx} {i n : Nat} {fk fe : EC} {ds : List D} {d : D} {k : Int} (ho : ownL Γ i = some ds) (hf : fe Γ x = .ok d x1) (hk : fk Γ x1 = .ok (.int k) x2) (hn : ixN ds.length k = some n) : sSetL i fk fe Γ x = .nx (Γ.set i (.ow (.lst (ds.set n d)))) x2 := by
  unfold sSetL sE
  rw [ho]
  dsimp only
  rw [hf]
  dsimp only
  rw [hk]
  dsimp only
  rw [hn]
theorem cl_step {ns cs : List Int} (hl : cs.length = 3) {k : Nat} {c : Int} (hk : k < 2 ^ 40) {s5 : Sl} {x : Bx} : ∃ cs' s5', clS (clG ns cs (.sh (.int (k : Nat))) (.sh (.int c)) s5) x = .nx (clG ns cs' (.sh (.int (k : Nat))) (.sh (.int c)) s5') x ∧ cs'.length = 3 := by
  have r0 : 0 ≤ (k : Int) % 3 := Int.emod_nonneg _ (by omega)
  have r1 : (k : Int) % 3 < 3 := Int.emod_lt_of_pos _ (by omega)
  generalize hr : (k : Int) % 3 = r at r0 r1
  have hlm : (cs.map D.int).length = 3 := by rw [List.length_map]; exact hl
  have hlt : r.toNat < cs.length := by omega
  have hix : ixN (cs.map D.int).length r = some r.toNat := by
    unfold ixN
    rw [if_pos r0, hlm, if_pos (by omega)]
  have hat : atI (cs.map D.int) r = some (.int cs[r.toNat]) := by
    unfold atI
    rw [hix]
    show (cs.map D.int)[r.toNat]? = _
    rw [List.getElem?_map, List.getElem?_eq_getElem hlt]
    rfl
  refine ⟨cs.set r.toNat (cs[r.toNat] + c * ((k : Int) + 2)), .sh (.int r), sq_nx (x1 := x) (st_asg (d := .int r) (ev_e2 (a := .int (k : Nat)) (b := .int 3) (x1 := x) rfl rfl (by rw [← hr]; exact mod_is (by omega)))) ?_, by rw [List.length_set]; exact hl⟩
  rw [st_setL (ds := cs.map D.int) (n := r.toNat) (k := r) (d := .int (cs[r.toNat] + c * ((k : Int) + 2))) (x1 := x) (x2 := x) rfl (ev_e2 (a := .int cs[r.toNat]) (b := .int (c * ((k : Int) + 2))) (x1 := x) (ev_e2 (a := .lst (cs.map D.int)) (b := .int r) (x1 := x) rfl rfl hat) (ev_e2 (a := .int c) (b := .int ((k : Int) + 2)) (x1 := x) rfl (ev_e2 (a := .int (k : Nat)) (b := .int 2) (x1 := x) rfl rfl rfl) (mul_r (by omega))) rfl) rfl hix]
  show SR.nx [_, _, .ow (.lst ((cs.map D.int).set r.toNat _)), _, _, _] x = _
  rw [← List.map_set]
  rfl
theorem cl_go {ns : List Int} : ∀ (ms : List (Nat × Int)) (cs : List Int) (s3 s4 s5 : Sl) (x : Bx), (∀ m ∈ ms, m.1 < 2 ^ 40) → cs.length = 3 →
    ∃ cs' s3' s4' s5', forGo (gU 2 (gsC (gN 3) (gsC (gN 4) (gsN)))) clS (ms.map fun m => .tup [.int (m.1 : Nat), .int m.2]) (clG ns cs s3 s4 s5) x = .nx (clG ns cs' s3' s4' s5') x ∧ cs'.length = 3
  | [], cs, s3, s4, s5, x, _, hl => ⟨cs, s3, s4, s5, rfl, hl⟩
  | m :: ms, cs, s3, s4, s5, x, hm, hl => by
    obtain ⟨cs1, s51, e1, l1⟩ := cl_step (ns := ns) hl (k := m.1) (c := m.2) (hm m List.mem_cons_self) (s5 := s5) (x := x)
    obtain ⟨cs', s3', s4', s5', e2, l2⟩ := cl_go ms cs1 (.sh (.int (m.1 : Nat))) (.sh (.int m.2)) s51 x (fun q hq => hm q (List.mem_cons_of_mem _ hq)) l1
    exact ⟨cs', s3', s4', s5', for_cons (Γ1 := clG ns cs (.sh (.int (m.1 : Nat))) (.sh (.int m.2)) s5) rfl e1 e2, l2⟩
theorem enum_ints (cs : List Int) : enumD (cs.map D.int) = ((List.range cs.length).map fun i => (i, cs.getD i 0)).map fun m => .tup [.int (m.1 : Nat), .int m.2] := by
  unfold enumD
  rw [List.length_map, List.map_map]
  apply List.map_congr_left
  intro i hi
  have h : i < cs.length := List.mem_range.mp hi
  show D.tup [_, (cs.map D.int).getD i .non] = D.tup [_, .int (cs.getD i 0)]
  rw [List.getD_eq_getElem?_getD, List.getD_eq_getElem?_getD, List.getElem?_map, List.getElem?_eq_getElem h]
  rfl
theorem cut_map (ns : List Int) (lo hi : Option Int) : DL.cutD (ns.map D.int) lo hi = (((ns.drop (HT.sIx ns.length 0 lo)).take (HT.sIx ns.length ns.length hi - HT.sIx ns.length 0 lo))).map D.int := by
  unfold DL.cutD
  rw [List.length_map, ← List.map_drop, ← List.map_take]
theorem cells_ok (ns : List Int) (hn : ns.length ≤ 63) (x : Bx) : ∃ cs : List Int, m__law_cells [.sh (.scr ns), .sh (.int 3)] x = .ok (.lst (cs.map D.int)) x ∧ 0 < cs.length ∧ cs.length ≤ 3 := by
  have h3 : DL.cutD (ns.map D.int) none (some 3) = (ns.take 3).map D.int := by
    rw [cut_map]
    show (((ns.drop 0).take (min (3 : Int).toNat ns.length - 0))).map D.int = _
    rw [List.drop_zero, Nat.sub_zero, show (3 : Int).toNat = 3 from rfl]
    congr 1
    by_cases h : ns.length ≤ 3
    · rw [Nat.min_eq_right h, List.take_of_length_le (Nat.le_refl _), List.take_of_length_le h]
    · rw [Nat.min_eq_left (by omega)]
  obtain ⟨rest, hr⟩ : ∃ rest : List Int, DL.cutD (ns.map D.int) (some 3) (some 63) = rest.map D.int ∧ (ns.length ≤ 3 → rest = []) ∧ rest.length ≤ 63 := by
    refine ⟨_, cut_map ns (some 3) (some 63), fun h => ?_, ?_⟩
    · have e : HT.sIx ns.length 0 (some 3) = ns.length := by
        show min (3 : Int).toNat ns.length = _
        rw [show (3 : Int).toNat = 3 from rfl, Nat.min_eq_right h]
      rw [e, List.drop_length, List.take_nil]
    · rw [List.length_take, List.length_drop]
      omega
  obtain ⟨hr1, hr2, hr3⟩ := hr
  -- the first cells
  have first : ∃ c0 : List Int, eOrL (eB dListU (lCons (eSl dSl (eVarT 0) (oNo) (oYes (eVarT 1))) (lNil))) (eLst (lCons (eC (.int 0)) (lNil))) [.sh (.scr ns), .sh (.int 3), .no, .no, .no, .no] x = .ok (.lst (c0.map D.int)) x ∧ 0 < c0.length ∧ c0.length ≤ 3 ∧ (3 < ns.length → c0.length = 3) := by
    have hb : eB dListU (lCons (eSl dSl (eVarT 0) (oNo) (oYes (eVarT 1))) (lNil)) [.sh (.scr ns), .sh (.int 3), .no, .no, .no, .no] x = .ok (.lst ((ns.take 3).map D.int)) x :=
      ev_B (ds := [.lst ((ns.take 3).map D.int)]) (ev_lc (x1 := x) (ev_sl (a := .scr ns) (p := none) (q := some 3) (x1 := x) (x2 := x) rfl rfl rfl (by show some (D.lst (DL.cutD (ns.map D.int) none (some 3))) = _; rw [h3])) rfl) rfl
    cases ns with
    | nil => exact ⟨[0], rfl, by decide, by decide, fun h => by simp at h⟩
    | cons n r =>
      refine ⟨(n :: r).take 3, ?_, by simp, by rw [List.length_take]; omega, fun h => by rw [List.length_take]; omega⟩
      show bnd (eB dListU _ _) _ x = _
      rw [bnd_ok hb]
      rfl
  obtain ⟨c0, f1, f2, f3, f4⟩ := first
  have hfor : iEnumU (eSl dSl (eVarT 0) (oYes (eVarT 1)) (oYes (eC (.int 63)))) (clG ns c0 .no .no .no) x = .ok (enumD (rest.map D.int)) x := by
    show bnd (eSl dSl _ _ _ _) _ x = _
    rw [bnd_ok (ev_sl (a := .scr ns) (p := some 3) (q := some 63) (d := .lst (rest.map D.int)) (x1 := x) (x2 := x) (x3 := x) rfl rfl rfl (by show some (D.lst (DL.cutD (ns.map D.int) (some 3) (some 63))) = _; rw [hr1]))]
    rfl
  by_cases hn3 : ns.length ≤ 3
  · have er := hr2 hn3
    subst er
    exact ⟨c0, m_rt (sq_nx (x1 := x) (st_own f1) (sq_nx (x1 := x) (st_for (ds := []) (x1 := x) hfor rfl) rfl)), f2, f3⟩
  · obtain ⟨cs', s3', s4', s5', e1, e2⟩ := cl_go (ns := ns) ((List.range rest.length).map fun i => (i, rest.getD i 0)) c0 .no .no .no x (fun m hm => by
      obtain ⟨i, hi, rfl⟩ := List.mem_map.mp hm
      have := List.mem_range.mp hi
      show i < 2 ^ 40
      omega) (f4 (by omega))
    rw [← enum_ints] at e1
    exact ⟨cs', m_rt (sq_nx (x1 := x) (st_own f1) (sq_nx (x1 := x) (st_for (ds := enumD (rest.map D.int)) (x1 := x) hfor e1) rfl)), by omega, by omega⟩
/-- the law's own answer, from that of its boxes -/
theorem law_fin (hr : ∀ x : Bx, BG x (2 ^ 40) → ∃ x', m__law_right [.sh .box] x = .ok (.bl true) x') (ns : List Int) (hn : ns.length ≤ 63) (x : Bx) : m_law [.sh (.scr ns)] x = .ok (.bl true) x := by
  obtain ⟨cs, e1, l1, l2⟩ := cells_ok ns hn x
  have step : ∀ k : Nat, k < cs.length → eBoxed m__law_right (lenOk 2 m__law_box) (aVar 1 (aVar 2 (aNil))) [.sh (.scr ns), .sh (.lst (cs.map D.int)), .sh (.int (k : Nat))] x = .ok (.bl true) x := fun k hk => by
    obtain ⟨i, j, b1, b2⟩ := box_ok hk l2 x
    obtain ⟨x', r1⟩ := hr (i, j, 0) b2
    show bnd (aVar 1 (aVar 2 aNil) _) _ x = _
    rw [bnd_ok (ev_avar (u := .sh (.lst (cs.map D.int))) (x1 := x) rfl (ev_avar (u := .sh (.int (k : Nat))) (x1 := x) rfl rfl))]
    rw [bnd_ok (a := .lst [.int i, .int j, .int 0]) (y := x) (by unfold noEr; rw [show lenOk 2 m__law_box [.sh (.lst (cs.map D.int)), .sh (.int (k : Nat))] = m__law_box [.sh (.lst (cs.map D.int)), .sh (.int (k : Nat))] from rfl, b1])]
    unfold boxed
    dsimp only
    rw [r1]
  have go : ∀ (ks : List Nat), (∀ k ∈ ks, k < cs.length) → lcGo (gN 2) tYesC (eBoxed m__law_right (lenOk 2 m__law_box) (aVar 1 (aVar 2 (aNil)))) [.sh (.scr ns), .sh (.lst (cs.map D.int)), .no] (ks.map fun (k : Nat) => D.int (k : Nat)) x = .ok ((ks.map fun (k : Nat) => D.int (k : Nat)).map fun _ => .bl true) x := fun ks => by
    induction ks with
    | nil => exact fun _ => rfl
    | cons k ks ih => exact fun h => lc_cons (Γ1 := [.sh (.scr ns), .sh (.lst (cs.map D.int)), .sh (.int (k : Nat))]) rfl (step k (h k List.mem_cons_self)) (ih fun q hq => h q (List.mem_cons_of_mem _ hq))
  have hrg : rangeD 0 (((cs.map D.int).length : Nat) : Int) = (List.range cs.length).map fun (k : Nat) => D.int (k : Nat) := by
    unfold rangeD
    rw [List.length_map, Int.sub_zero, Int.toNat_natCast]
    apply List.map_congr_left
    intro i _
    rw [Int.zero_add]
  refine m_rt (sq_nx (Γ1 := [.sh (.scr ns), .sh (.lst (cs.map D.int)), .no]) (x1 := x) (st_asg (ev_call (as := [.sh (.scr ns), .sh (.int 3)]) (x1 := x) rfl rfl e1)) (st_ret (ev_B (x1 := x) (ev_lc (x1 := x) (ev_lcomp (ds := rangeD 0 (((cs.map D.int).length : Nat) : Int)) (x1 := x) (ev_range (k := (((cs.map D.int).length : Nat) : Int)) rfl (rng1_is ⟨by omega, by rw [List.length_map]; omega⟩)) (by rw [hrg, List.length_map, List.length_range]; omega) (by rw [hrg]; exact go _ fun k hk => List.mem_range.mp hk)) rfl) (all_true _))))
end LW

namespace LW
open PySem PySem.Spec PyProof.Rows L2 DL
/-! ### rows, in plain Lean -/
def trim : List Int → List Int
  | [] => []
  | a :: r => if a = 0 then trim r else a :: r
theorem trim_len : ∀ xs : List Int, (trim xs).length ≤ xs.length
  | [] => Nat.le_refl _
  | a :: r => by
    unfold trim
    by_cases h : a = 0
    · rw [if_pos h]; exact Nat.le_succ_of_le (trim_len r)
    · rw [if_neg h]; exact Nat.le_refl _
theorem trim_trim : ∀ xs : List Int, trim (trim xs) = trim xs
  | [] => rfl
  | a :: r => by
    by_cases h : a = 0
    · simp [trim, h, trim_trim r]
    · simp [trim, h]
def neg : List Int → Bool
  | [] => false
  | a :: _ => decide (a < 0)
/-- nothing, or a first number above 0 -/
def Pos (r : List Int) : Prop := ∀ a t, r = a :: t → 0 < a
theorem pos_trim {r : List Int} (h : Pos r) : trim r = r := by
  cases r with
  | nil => rfl
  | cons a t =>
    have := h a t rfl
    simp [trim, show ¬ a = 0 by omega]
theorem pos_neg {r : List Int} (h : Pos r) : neg r = false := by
  cases r with
  | nil => rfl
  | cons a t =>
    have := h a t rfl
    simp [neg]
    omega
theorem trim_pos {xs : List Int} (h : neg (trim xs) = false) : Pos (trim xs) := by
  intro a t e
  have h2 := trim_trim xs
  rw [e] at h2 h
  have h3 : ¬ a < 0 := by simpa [neg] using h
  have h4 : a ≠ 0 := fun z => by
    subst z
    simp [trim] at h2
    have := trim_len t
    rw [h2] at this
    simp at this
    omega
  omega
def pad (n : Nat) (r : List Int) : List Int := List.replicate (n - r.length) 0 ++ r
theorem pad_len {n : Nat} {r : List Int} (h : r.length ≤ n) : (pad n r).length = n := by
  unfold pad
  simp
  omega
theorem trim_zero (xs : List Int) : ∀ k : Nat, trim (List.replicate k 0 ++ xs) = trim xs
  | 0 => rfl
  | k + 1 => by rw [List.replicate_succ, List.cons_append]; simp only [trim, if_true]; exact trim_zero xs k
theorem trim_pad (n : Nat) (r : List Int) : trim (pad n r) = trim r := trim_zero _ _
theorem zeros_trim : ∀ xs : List Int, List.replicate (xs.length - (trim xs).length) 0 ++ trim xs = xs
  | [] => rfl
  | a :: r => by
    by_cases h : a = 0
    · have ih := zeros_trim r
      have hl := trim_len r
      simp only [trim, h, if_true, List.length_cons]
      rw [show r.length + 1 - (trim r).length = (r.length - (trim r).length) + 1 by omega, List.replicate_succ, List.cons_append, ih]
    · simp [trim, h]
theorem pad_trim {n : Nat} {xs : List Int} (h : xs.length ≤ n) : pad n (trim xs) = pad n xs := by
  have hl := trim_len xs
  have hz := zeros_trim xs
  unfold pad
  calc List.replicate (n - (trim xs).length) 0 ++ trim xs = List.replicate (n - xs.length) 0 ++ (List.replicate (xs.length - (trim xs).length) 0 ++ trim xs) := by
        rw [← List.append_assoc, List.replicate_append_replicate]
        congr 2
        omega
    _ = _ := by rw [hz]
theorem pad_pad {n m : Nat} {r : List Int} (h1 : r.length ≤ m) (h2 : m ≤ n) : pad n r = List.replicate (n - m) 0 ++ pad m r := by
  unfold pad
  rw [← List.append_assoc, List.replicate_append_replicate]
  congr 2
  omega
def onR (f : Int → Int → Int) (n : Nat) (r s : List Int) : List Int := List.zipWith f (pad n r) (pad n s)
theorem zip_zeros (f : Int → Int → Int) (h : f 0 0 = 0) (r s : List Int) : ∀ k : Nat, List.zipWith f (List.replicate k 0 ++ r) (List.replicate k 0 ++ s) = List.replicate k 0 ++ List.zipWith f r s
  | 0 => rfl
  | k + 1 => by rw [List.replicate_succ, List.cons_append, List.cons_append, List.zipWith_cons_cons, h, zip_zeros f h r s k, List.cons_append]
theorem onR_le {f : Int → Int → Int} (h : f 0 0 = 0) {n m : Nat} {r s : List Int} (h1 : r.length ≤ m) (h2 : s.length ≤ m) (h3 : m ≤ n) : trim (onR f n r s) = trim (onR f m r s) := by
  unfold onR
  rw [pad_pad h1 h3, pad_pad h2 h3, zip_zeros f h, trim_zero]
theorem onR_len {f : Int → Int → Int} {n : Nat} {r s : List Int} (h1 : r.length ≤ n) (h2 : s.length ≤ n) : (onR f n r s).length = n := by
  unfold onR
  rw [List.length_zipWith, pad_len h1, pad_len h2, Nat.min_self]
theorem onR_trim {f : Int → Int → Int} {n : Nat} {r s : List Int} (h1 : r.length ≤ n) (h2 : s.length ≤ n) : onR f n (trim r) (trim s) = onR f n r s := by
  unfold onR
  rw [pad_trim h1, pad_trim h2]
/-- the sum of rows that are above zero is above zero -/
theorem add_pos {r s : List Int} (hr : Pos r) (hs : Pos s) : Pos (onR (· + ·) (max r.length s.length) r s) := by
  intro a t e
  unfold onR pad at e
  cases r with
  | nil =>
    cases s with
    | nil => simp at e
    | cons b u =>
      have := hs b u rfl
      simp [List.replicate_succ] at e
      omega
  | cons c v =>
    have h1 := hr c v rfl
    cases s with
    | nil =>
      simp [List.replicate_succ] at e
      omega
    | cons b u =>
      have h2 := hs b u rfl
      rcases Nat.lt_trichotomy v.length u.length with h | h | h
      · rw [show max (c :: v).length (b :: u).length = u.length + 1 by simp; omega] at e
        simp only [List.length_cons] at e
        rw [show u.length + 1 - (v.length + 1) = (u.length - v.length - 1) + 1 by omega, show u.length + 1 - (u.length + 1) = 0 by omega, List.replicate_succ] at e
        simp at e
        omega
      · rw [show max (c :: v).length (b :: u).length = u.length + 1 by simp; omega] at e
        simp only [List.length_cons] at e
        rw [show u.length + 1 - (v.length + 1) = 0 by omega, show u.length + 1 - (u.length + 1) = 0 by omega] at e
        simp at e
        omega
      · rw [show max (c :: v).length (b :: u).length = v.length + 1 by simp; omega] at e
        simp only [List.length_cons] at e
        rw [show v.length + 1 - (u.length + 1) = (v.length - u.length - 1) + 1 by omega, show v.length + 1 - (v.length + 1) = 0 by omega, List.replicate_succ] at e
        simp at e
        omega
theorem add_comm_R (n : Nat) (r s : List Int) : onR (· + ·) n r s = onR (· + ·) n s r := by
  unfold onR
  rw [List.zipWith_comm]
  congr 1
  funext a b
  omega
theorem sub_add : ∀ r s : List Int, r.length = s.length → List.zipWith (· - ·) (List.zipWith (· + ·) r s) s = r
  | [], [], _ => rfl
  | a :: r, b :: s, h => by
    rw [List.zipWith_cons_cons, List.zipWith_cons_cons, sub_add r s (by simpa using h)]
    congr 1
    omega
/-- what is put on can be taken off -/
theorem off_on {n : Nat} {r s : List Int} (h1 : r.length ≤ n) (h2 : s.length ≤ n) : trim (onR (· - ·) n (trim (onR (· + ·) n r s)) s) = trim r := by
  have hl := onR_len (f := (· + ·)) h1 h2
  have e : onR (· - ·) n (trim (onR (· + ·) n r s)) s = pad n r := by
    show List.zipWith _ (pad n (trim (onR (· + ·) n r s))) (pad n s) = _
    rw [pad_trim (by omega)]
    have : pad n (onR (· + ·) n r s) = onR (· + ·) n r s := by
      unfold pad
      rw [hl]
      simp
    rw [this]
    exact sub_add _ _ (by rw [pad_len h1, pad_len h2])
  rw [e, trim_pad]
theorem trim_mul (k : Int) : ∀ xs : List Int, trim ((trim xs).map (· * k)) = trim (xs.map (· * k))
  | [] => rfl
  | a :: r => by
    by_cases h : a = 0
    · simp only [trim, h, if_true, List.map_cons, Int.zero_mul]
      exact trim_mul k r
    · simp [trim, h]
theorem mul_zero : ∀ xs : List Int, trim (xs.map (· * 0)) = []
  | [] => rfl
  | a :: r => by
    have := mul_zero r
    simp only [List.map_cons, Int.mul_zero, trim, if_true]
    simpa using this
theorem mul_neg {xs : List Int} (h : Pos xs) {k : Int} (hk : 0 ≤ k) : neg (trim (xs.map (· * k))) = false := by
  rcases (by omega : k = 0 ∨ 0 < k) with rfl | h0
  · rw [mul_zero]; rfl
  · have : Pos (xs.map (· * k)) := by
      intro a t e
      cases xs with
      | nil => simp at e
      | cons b u =>
        have := h b u rfl
        simp at e
        rw [← e.1]
        exact Int.mul_pos this h0
    rw [pos_trim this, pos_neg this]
/-! cut -/
def cutR : List Int → List Int
  | [] => []
  | a :: r => if a < 0 then List.replicate (r.length + 1) 0 else a :: cutR r
theorem cutR_len : ∀ r : List Int, (cutR r).length = r.length
  | [] => rfl
  | a :: r => by
    unfold cutR
    split
    · simp
    · simp [cutR_len r]
theorem cutR_pos {r : List Int} (h : Pos r) : Pos (cutR r) := by
  intro a t e
  cases r with
  | nil => simp [cutR] at e
  | cons b u =>
    have := h b u rfl
    simp [cutR, show ¬ b < 0 by omega] at e
    omega
theorem cutR_plain : ∀ r : List Int, (cutR r).all (fun n => decide (0 ≤ n)) = true
  | [] => rfl
  | a :: r => by
    unfold cutR
    split
    · simp
    · simp only [List.all_cons, cutR_plain r, Bool.and_true]
      simp
      omega
theorem cutR_self : ∀ r : List Int, r.all (fun n => decide (0 ≤ n)) = true → cutR r = r
  | [], _ => rfl
  | a :: r, h => by
    rw [List.all_cons, Bool.and_eq_true] at h
    have h1 : 0 ≤ a := by simpa using h.1
    simp [cutR, show ¬ a < 0 by omega, cutR_self r h.2]
theorem lex_refl : ∀ r : List Int, lexI r r = false
  | [] => rfl
  | a :: r => by simp [lexI, lex_refl r]
theorem cutR_ge : ∀ r : List Int, lexI (cutR r) r = false
  | [] => rfl
  | a :: r => by
    unfold cutR
    split
    · rename_i h
      rw [List.replicate_succ]
      simp [lexI]
      omega
    · simp [lexI, cutR_ge r]
/-- the last place above 0 in a row -/
def lastP : List Int → Option Nat
  | [] => none
  | a :: r => match lastP r with
    | some k => some (k + 1)
    | none => if 0 < a then some 0 else none
/-- a plain row that is a bit less than the cut is less than the row -/
theorem less_cut : ∀ (r ys : List Int) (k : Nat), lastP (cutR r) = some k → ys.length + k + 1 = r.length → lexI ((cutR r).take k ++ ((cutR r).getD k 0 - 1) :: ys) r = true
  | [], ys, k, h, _ => by simp [cutR, lastP] at h
  | a :: r, ys, k, h, hl => by
    by_cases ha : a < 0
    · simp only [cutR, ha, if_true] at h
      have z : ∀ n : Nat, lastP (List.replicate n 0) = none := fun n => by
        induction n with
        | zero => rfl
        | succ n ih => rw [List.replicate_succ]; unfold lastP; rw [ih]; rfl
      rw [z] at h
      cases h
    · simp only [cutR, ha, if_false] at h ⊢
      unfold lastP at h
      cases hp : lastP (cutR r) with
      | some j =>
        rw [hp] at h
        have e : j + 1 = k := Option.some.inj h
        subst e
        have ih := less_cut r ys j hp (by simp at hl; omega)
        simp [lexI] at ih ⊢
        exact ih
      | none =>
        rw [hp] at h
        simp only at h
        split at h
        · rename_i hpos
          have e : 0 = k := Option.some.inj h
          subst e
          simp [lexI]
          omega
        · cases h
/-- a row of numbers not below 0, none of them trimmed or some: not above -/
theorem lt_trim {s r : List Int} (hl : s.length = r.length) (hlt : lexI s r = true) (hr : Pos r) : lexK (trim s).length (trim s) r.length r = true := by
  have ht := trim_len s
  by_cases he : (trim s).length = s.length
  · have : trim s = s := by
      have hz := zeros_trim s
      rw [he] at hz
      simpa using hz
    rw [this, hl]
    simp [lexK, hlt]
  · unfold lexK
    have : ((trim s).length : Int) < (r.length : Int) := by omega
    simp [this]
theorem nonneg_neg : ∀ s : List Int, (∀ a ∈ s, 0 ≤ a) → neg (trim s) = false
  | [], _ => rfl
  | a :: r, h => by
    by_cases h0 : a = 0
    · simp only [trim, h0, if_true]
      exact nonneg_neg r fun b hb => h b (List.mem_cons_of_mem _ hb)
    · have := h a List.mem_cons_self
      simp [trim, h0, neg]
      omega
end LW

namespace LW
open PySem PySem.Spec PyProof.Rows L2 DL
def LineP (b : Int) (n : Nat) (Γ : Gm) (x : Bx) : Prop := ∃ (xs : List Int) (s2 s3 : Sl), Γ = [.sh .box, .ow (iL xs), s2, s3] ∧ xs.length + n ≤ 11 ∧ BG x (b + 4 * n) ∧ 0 ≤ b
theorem line_step {b : Int} (d : D) (n : Nat) (Γ : Gm) (x : Bx) (h : LineP b (n + 1) Γ x) : ∃ Γ1 Γ2 x2, gN 2 d Γ = some Γ1 ∧ (sSeq (sAsg 3 (eLst (lCons (eC (.int 0)) (lCons (eC (.int 0)) (lCons (eC (.int 1)) (lCons (eC (.int 2)) (lCons (eCall (lenOk 2 m__law_take) [] (aVar 0 (aSh (eC (.int 20)) (aNil)))) (lCons (eCall (lenOk 2 m__law_take) [] (aVar 0 (aSh (e2 dPow (eC (.int 10)) (eC (.int 59))) (aNil)))) (lNil)))))))))
      (sApp 1 (e2 dMul (eCall (lenOk 2 m__law_of) [] (aVar 0 (aVar 3 (aNil)))) (eCall (lenOk 2 m__law_of) [] (aVar 0 (aSh (eLst (lCons (eC (.int 1)) (lCons (eC (.int 1)) (lCons (eC (.int 1)) (lCons (e1 dNeg (eC (.int 1))) (lNil)))))) (aNil))))))) Γ1 x = .nx Γ2 x2 ∧ LineP b n Γ2 x2 := by
  obtain ⟨xs, s2, s3, rfl, hl, hb, h0⟩ := h
  obtain ⟨r1, x1, e1, p1, q1, hb1⟩ := take_ok (n := 20) (x := x) (b := b + 4 * n + 3) (by omega) (by omega) (by rw [show b + 4 * (n : Int) + 3 + 1 = b + 4 * ((n + 1 : Nat) : Int) by omega]; exact hb) (by omega)
  obtain ⟨r2, x2, e2, p2, q2, hb2⟩ := take_ok (n := 100000000000000000000000000000000000000000000000000000000000) (x := x1) (b := b + 4 * n + 2) (by decide +kernel) (by decide +kernel) (by rw [show b + 4 * (n : Int) + 2 + 1 = b + 4 * (n : Int) + 3 by omega]; exact hb1) (by omega)
  obtain ⟨d3, x3, e3, m3, hb3⟩ := of_lst (gs := [.int 0, .int 0, .int 1, .int 2, .int r1, .int r2]) (x := x2) (b := b + 4 * n + 1) (by simp) (by simp) (by rw [show b + 4 * (n : Int) + 1 + 1 = b + 4 * (n : Int) + 2 by omega]; exact hb2) (by omega)
  obtain ⟨d4, x4, e4, m4, hb4⟩ := of_lst (gs := [.int 1, .int 1, .int 1, .int (-1)]) (x := x3) (b := b + 4 * n) (by simp) (by simp) hb3 (by omega)
  obtain ⟨i3, rfl⟩ : ∃ i, d3 = .int i := by simp at m3; rcases m3 with h | h | h | h | h <;> exact ⟨_, h⟩
  obtain ⟨i4, rfl, hi4⟩ : ∃ i, d4 = .int i ∧ (-(2 ^ 64) < i ∧ i < 2 ^ 64) := by simp at m4; rcases m4 with h | h <;> exact ⟨_, h, by decide⟩
  have hpow : dPow (.int 10) (.int 59) = some (.int 100000000000000000000000000000000000000000000000000000000000) := by kernel_rfl
  have hneg : dNeg (.int 1) = some (.int (-1)) := rfl
  refine ⟨[.sh .box, .ow (iL xs), .sh d, s3], [.sh .box, .ow (iL (xs ++ [i3 * i4])), .sh d, .sh (.lst [.int 0, .int 0, .int 1, .int 2, .int r1, .int r2])], x4, rfl, ?_, xs ++ [i3 * i4], _, _, rfl, by simp; omega, hb4, h0⟩
  have hlen : xs.length < 100000 := by omega
  simp [slAr, e1, e2, e3, e4, hpow, hneg, mul_r hi4, ownL, hlen]
/-- a drawn row -/
theorem line_ok {x : Bx} {b : Int} (hb : BG x (b + 45)) (h0 : 0 ≤ b) : ∃ xs x', m__law_line [.sh .box] x = .ok (iL xs) x' ∧ xs.length ≤ 11 ∧ BG x' b := by
  obtain ⟨r, x1, e1, p1, q1, hb1⟩ := take_ok (n := 12) (x := x) (b := b + 44) (by omega) (by omega) (by rw [show b + 44 + 1 = b + 45 by omega]; exact hb) (by omega)
  have hr : (rangeD 0 r).length = r.toNat := by unfold rangeD; simp
  obtain ⟨Γ', x', e2, xs, s2, s3, rfl, hl, hb2, _⟩ := for_inv (P := LineP b) line_step (rangeD 0 r) [.sh .box, .ow (iL []), .no, .no] x1 ⟨[], .no, .no, rfl, by rw [hr]; simp; omega, by rw [hr]; exact hb1.mono (by omega) (by omega), h0⟩
  refine ⟨xs, x', ?_, by omega, by simpa using hb2⟩
  have hg := rng1_is (k := r) ⟨by omega, by omega⟩
  simp [slAr] at e2
  simp [m__law_line, g__law_line, arSl, slAr, e1, hg, e2, frz]
def trT : TC := tAndC (tOf (e2 (dEqU not) (eVarT 1) (eLst (lNil)))) (tOf (e2 (dEqU id) (e2 dIxD (eVarT 1) (eC (.int 0))) (eC (.int 0))))
def trG : SC := sAsg 1 (eSl dSl (eVarT 1) (oYes (eC (.int 1))) (oNo))
theorem trim_go {s0 : Sl} {x : Bx} : ∀ (xs : List Int) (n : Nat), xs.length < n → whGo trT trG n [s0, .sh (iL xs)] x = .nx [s0, .sh (iL (trim xs))] x
  | [], n + 1, _ => by simp [q_wh, trT, trim]
  | a :: r, n + 1, h => by
    have ih := trim_go (s0 := s0) (x := x) r n (by simpa using h)
    simp [trT, trG] at ih
    by_cases h0 : a = 0
    · simp [q_wh, trT, trG, trim, h0, ih]
    · simp [q_wh, trT, trG, trim, h0]
theorem trimmed_ok {xs : List Int} (h : xs.length ≤ 900) {a : Ar} (ha : a = .sh (iL xs) ∨ a = .bo (iL xs) ∨ a = .sh (iT xs) ∨ a = .bo (iT xs)) (x : Bx) : m__law_trimmed [a] x = .ok (iT (trim xs)) x := by
  have hg : ∀ s0 : Sl, whGo trT trG 1000 [s0, .sh (iL xs)] x = .nx [s0, .sh (iL (trim xs))] x := fun s0 => trim_go xs 1000 (by omega)
  simp [trT, trG] at hg
  rcases ha with rfl | rfl | rfl | rfl <;> simp [m__law_trimmed, g__law_trimmed, arSl, hg]
def hands (r : List Int) : D := .obj (PySem.Str.ofString "Hands") [((PySem.Str.ofString "own_numbers"), iT r), ((PySem.Str.ofString "own_key"), kT r.length r)]
def below : D := .exc (PySem.Str.ofString "BelowZero") [(("given" : Str), .tup [])]
def inT : TC := tAndC (tOf (e2 dGtU (eB dLenD (lCons (eVarT 2) (lNil))) (eC (.int 0)))) (tOf (e2 (dEqU id) (e2 dIxD (eVarT 2) (eC (.int 0))) (eC (.int 0))))
def inG : SC := sAsg 2 (eSl dSl (eVarT 2) (oYes (eC (.int 1))) (oNo))
theorem init_go {s0 s1 : Sl} {x : Bx} : ∀ (xs : List Int) (n : Nat), xs.length < n → whGo inT inG n [s0, s1, .sh (iL xs)] x = .nx [s0, s1, .sh (iL (trim xs))] x
  | [], n + 1, _ => by simp [q_wh, inT, trim]
  | a :: r, n + 1, h => by
    have ih := init_go (s0 := s0) (s1 := s1) (x := x) r n (by simpa using h)
    simp [inT, inG] at ih
    have hp : (0 : Int) < (r.length : Int) + 1 := by omega
    by_cases h0 : a = 0
    · simp [q_wh, inT, inG, trim, h0, ih, hp]
    · simp [q_wh, inT, inG, trim, h0, hp]
theorem hands_is (s1 s2 : Sl) (r : List Int) : selfOf (PySem.Str.ofString "Hands") [.ow (.obj (PySem.Str.ofString "Hands") (putD (PySem.Str.ofString "own_key") (kT r.length r) (putD (PySem.Str.ofString "own_numbers") (iT r) []))), s1, s2] = some (hands r) := by kernel_rfl
theorem key_of (r : List Int) (x : Bx) : attrD (PySem.Str.ofString "own_numbers") [((PySem.Str.ofString "Hands"), .fld)] (.obj (PySem.Str.ofString "Hands") (putD (PySem.Str.ofString "own_numbers") (iT r) [])) x = .ok (iT r) x := by kernel_rfl
theorem init_all {xs : List Int} (hl : xs.length ≤ 900) {a : Ar} (ha : a = .sh (iL xs) ∨ a = .bo (iL xs) ∨ a = .sh (iT xs) ∨ a = .bo (iT xs)) (x : Bx) : mInit 3 (PySem.Str.ofString "Hands") g_Hands___init__ [a] x = if neg (trim xs) = true then .er below x else .ok (hands (trim xs)) x := by
  have hg : ∀ s0 s1 : Sl, whGo inT inG 1000 [s0, s1, .sh (iL xs)] x = .nx [s0, s1, .sh (iL (trim xs))] x := fun s0 s1 => init_go xs 1000 (by omega)
  simp [inT, inG] at hg
  have hk := key_of (trim xs) x
  have hh := fun s1 s2 => hands_is s1 s2 (trim xs)
  simp at hk hh
  have hpl : ∀ (f : Str) (d : D), (putD f d []).length = 1 := fun _ _ => rfl
  cases ht : trim xs with
  | nil =>
    rw [ht] at hg hk hh
    simp at hg hk hh
    rcases ha with rfl | rfl | rfl | rfl <;> simp [q_init, g_Hands___init__, hg, neg, hk, hh, hpl]
  | cons c r =>
    rw [ht] at hg hk hh
    simp at hg hk hh
    have hp : (0 : Int) < (r.length : Int) + 1 := by omega
    by_cases hc : c < 0
    · rcases ha with rfl | rfl | rfl | rfl <;> simp [q_init, g_Hands___init__, hg, neg, hp, hc] <;> rfl
    · rcases ha with rfl | rfl | rfl | rfl <;> simp [q_init, g_Hands___init__, hg, neg, hp, hc, hk, hh, hpl]
theorem init_shL {xs : List Int} (hl : xs.length ≤ 900) (hn : neg (trim xs) = false) (x : Bx) : mInit 3 (PySem.Str.ofString "Hands") g_Hands___init__ [.sh (.lst (xs.map D.int))] x = .ok (hands (trim xs)) x := by rw [init_all hl (.inl rfl), hn]; rfl
theorem init_boL {xs : List Int} (hl : xs.length ≤ 900) (hn : neg (trim xs) = false) (x : Bx) : mInit 3 (PySem.Str.ofString "Hands") g_Hands___init__ [.bo (.lst (xs.map D.int))] x = .ok (hands (trim xs)) x := by rw [init_all hl (.inr (.inl rfl)), hn]; rfl
theorem init_shT {xs : List Int} (hl : xs.length ≤ 900) (hn : neg (trim xs) = false) (x : Bx) : mInit 3 (PySem.Str.ofString "Hands") g_Hands___init__ [.sh (.tup (xs.map D.int))] x = .ok (hands (trim xs)) x := by rw [init_all hl (.inr (.inr (.inl rfl))), hn]; rfl
theorem at_numbers (r : List Int) (x : Bx) : attrD (PySem.Str.ofString "numbers") [((PySem.Str.ofString "Hands"), .prop m_Hands_numbers)] (hands r) x = .ok (iT r) x := by kernel_rfl
theorem at_own (r : List Int) (x : Bx) : attrD (PySem.Str.ofString "own_numbers") [((PySem.Str.ofString "Hands"), .fld)] (hands r) x = .ok (iT r) x := by kernel_rfl
theorem at_key (r : List Int) (x : Bx) : attrD (PySem.Str.ofString "own_key") [((PySem.Str.ofString "Hands"), .fld)] (hands r) x = .ok (kT r.length r) x := by kernel_rfl
theorem is_hands (r : List Int) : dIsi is_Hands (hands r) = some (.bl true) := by kernel_rfl
theorem all_bls : ∀ ps : List Bool, dAll [.lst (ps.map D.bl)] = some (.bl (ps.all id)) := fun ps => by
  have h : blsD (ps.map D.bl) = some ps := by
    induction ps with
    | nil => rfl
    | cons p r ih => show (blsD (r.map D.bl)).map _ = _; rw [ih]; rfl
  show (blsD _).map _ = _
  rw [h]
  rfl
theorem at_plain {r : List Int} (hl : r.length ≤ 900) (x : Bx) : attrD (PySem.Str.ofString "plain") [((PySem.Str.ofString "Hands"), .prop m_Hands_plain)] (hands r) x = .ok (.bl (r.all fun n => decide (0 ≤ n))) x := by
  have h : attrD (PySem.Str.ofString "plain") [((PySem.Str.ofString "Hands"), .prop m_Hands_plain)] (hands r) x = nR (m_Hands_plain [.bo (hands r)] x) := by rw [← q_nr]; kernel_rfl
  have hm := lc_map (tc := gN 1) (fe := e2 dGeU (eVarT 1) (eC (.int 0))) (Γ := [.bo (hands r), .no]) (x := x) D.int (fun n => .bl (decide (0 ≤ n))) r fun n _ => ⟨[.bo (hands r), .sh (.int n)], rfl, by simp⟩
  have ha := all_bls (r.map fun n => decide (0 ≤ n))
  rw [List.map_map] at ha
  rw [h]
  have hle : r.length ≤ 100000 := by omega
  simp [m_Hands_plain, g_Hands_plain, arSl, at_own, hle, wipeG, lend, hm]
  simp [Function.comp_def] at ha
  simp [ha]
theorem m_lt (r s : List Int) (x : Bx) : m_Hands___lt__ [.bo (hands r), .bo (hands s)] x = .ok (.bl (lexK r.length r s.length s)) x := by
  have h := lt_kT r.length s.length r s
  simp at h
  simp [m_Hands___lt__, g_Hands___lt__, arSl, is_hands, at_key, h]
theorem m_ge (r s : List Int) (x : Bx) : m_Hands___ge__ [.bo (hands r), .bo (hands s)] x = .ok (.bl (!lexK r.length r s.length s)) x := by
  have h := ge_kT r.length s.length r s
  simp at h
  simp [m_Hands___ge__, g_Hands___ge__, arSl, is_hands, at_key, h]
theorem m_eq (r s : List Int) (x : Bx) : m_Hands___eq__ [.bo (hands r), .bo (hands s)] x = .ok (.bl (decide (r = s))) x := by
  simp [m_Hands___eq__, g_Hands___eq__, arSl, is_hands, at_key]
  exact fun h => by rw [h]
theorem o_own (m : List Ar → M D) (g : D → D → Option D) (r s : List Int) (z : Bx) : opO [((PySem.Str.ofString "Hands"), m)] g (hands r) (hands s) z = m [.bo (hands r), .bo (hands s)] z := by
  unfold opO
  rw [show ownM [((PySem.Str.ofString "Hands"), m)] (hands r) (hands s) = some m by kernel_rfl]
theorem o_ownE (m : List Ar → M D) (ni : List Str) (g : D → D → Option D) (r s : List Int) (z : Bx) : opE [((PySem.Str.ofString "Hands"), m)] ni g (hands r) (hands s) z = m [.bo (hands r), .bo (hands s)] z := by
  unfold opE
  rw [show ownM [((PySem.Str.ofString "Hands"), m)] (hands r) (hands s) = some m by kernel_rfl]
def up (xs : List Int) : List Int := if neg (trim xs) = true then xs.map fun n => 0 - n else xs
theorem trim_neg : ∀ xs : List Int, trim (xs.map fun n => 0 - n) = (trim xs).map fun n => 0 - n
  | [] => rfl
  | a :: r => by
    by_cases h : a = 0
    · simp only [List.map_cons, trim, h, if_true]; simpa using trim_neg r
    · have h2 : ¬ (0 - a = 0) := by omega
      simp only [List.map_cons, trim, h, h2, if_false]
theorem up_neg (xs : List Int) : neg (trim (up xs)) = false := by
  unfold up
  by_cases h : neg (trim xs) = true
  · rw [if_pos h, trim_neg]
    cases ht : trim xs with
    | nil => rfl
    | cons a r =>
      rw [ht] at h
      have h1 : a < 0 := by simpa [neg] using h
      simp [neg]
      omega
  · rw [if_neg h]
    cases hn : neg (trim xs) with
    | true => exact absurd hn h
    | false => rfl
theorem up_len (xs : List Int) : (up xs).length = xs.length := by
  unfold up
  split
  · simp
  · rfl
theorem up_ok {xs : List Int} (h : xs.length ≤ 900) {a : Ar} (ha : a = .sh (iL xs) ∨ a = .bo (iL xs)) (x : Bx) : m__law_up [a] x = .ok (iL (up xs)) x := by
  have ht := trimmed_ok h (a := a) (ha.elim .inl fun z => .inr (.inl z)) x
  have hle : xs.length ≤ 100000 := by omega
  have hm : ∀ s0 : Sl, lcGo (gN 2) tYesC (e2 dSub (eC (.int 0)) (eVarT 2)) [s0, .sh (iT (trim xs)), .no] (xs.map D.int) x = .ok (xs.map fun n => .int (0 - n)) x := fun s0 => lc_map D.int (fun n => .int (0 - n)) xs fun n _ => ⟨[s0, .sh (iT (trim xs)), .sh (.int n)], rfl, by simp⟩
  unfold up
  cases hc : trim xs with
  | nil =>
    rw [hc] at ht hm
    rcases ha with rfl | rfl <;> simp at ht <;> simp [m__law_up, g__law_up, ht, neg]
  | cons c r =>
    rw [hc] at ht hm
    simp at hm
    by_cases h0 : c < 0
    · rcases ha with rfl | rfl <;> simp at ht <;> simp [m__law_up, g__law_up, ht, neg, h0, hle, hm, Function.comp_def]
    · rcases ha with rfl | rfl <;> simp at ht <;> simp [m__law_up, g__law_up, ht, neg, h0]
end LW

namespace LW
open PySem PySem.Spec PyProof.Rows L2 DL
theorem pad_map (n : Nat) (r : List Int) : List.replicate (n - r.length) (D.int 0) ++ r.map D.int = (pad n r).map D.int := by
  unfold pad
  rw [List.map_append, List.map_replicate]
theorem side_ok {xs : List Int} (h : xs.length ≤ 12) {a : Ar} (ha : a = .sh (iL xs) ∨ a = .bo (iL xs)) (x : Bx) : m__law_side [a] x = .ok (iL (pad 12 xs)) x := by
  have hr := mulL_ok (d := .int 0) (k := 12 - (xs.length : Int)) (by omega) (by omega)
  have e : (12 - (xs.length : Int)).toNat = 12 - xs.length := by omega
  rw [e] at hr
  have hd : dAdd (.lst (List.replicate (12 - xs.length) (D.int 0))) (.lst (xs.map D.int)) = some (.lst ((pad 12 xs).map D.int)) := by
    rw [dAddL (by simp; omega), pad_map]
  rcases ha with rfl | rfl <;> simp [m__law_side, g__law_side, hr, hd]
/-- the rows side by side -/
theorem sbs_ok {r s : List Int} (h1 : r.length ≤ 900) (h2 : s.length ≤ 900) (x : Bx) : m_side_by_side [.sh (iT r), .sh (iT s)] x = .ok (.lst (((pad (max r.length s.length) r).zip (pad (max r.length s.length) s)).map fun p => .tup [.int p.1, .int p.2])) x := by
  have hmx : (if (s.length : Int) > (r.length : Int) then (s.length : Int) else (r.length : Int)) = ((max r.length s.length : Nat) : Int) := by split <;> omega
  generalize hm : max r.length s.length = m at hmx
  have hr := mulT_ok (d := .int 0) (k := (m : Int) - (r.length : Int)) ⟨by omega, by omega⟩
  have hs := mulT_ok (d := .int 0) (k := (m : Int) - (s.length : Int)) ⟨by omega, by omega⟩
  rw [show ((m : Int) - (r.length : Int)).toNat = m - r.length by omega] at hr
  rw [show ((m : Int) - (s.length : Int)).toNat = m - s.length by omega] at hs
  have a1 := dAddT (a := List.replicate (m - r.length) (D.int 0)) (b := r.map D.int) (by simp; omega)
  have a2 := dAddT (a := List.replicate (m - s.length) (D.int 0)) (b := s.map D.int) (by simp; omega)
  rw [pad_map] at a1 a2
  have lz := lzip_ok (a := (pad m r).map D.int) (b := (pad m s).map D.int) (by rw [List.length_map, List.length_map, pad_len (by omega), pad_len (by omega)]) (by rw [List.length_map, pad_len (by omega)]; omega)
  rw [zipD_ints] at lz
  simp [m_side_by_side, g_side_by_side]
  have hm2 : (if r.length < s.length then (s.length : Int) else (r.length : Int)) = (m : Int) := by split <;> omega
  simp [hm2, hr, hs, a1, a2, lz]
theorem zip_op (f : Int → Int → Int) (r s : List Int) : ((r.zip s).map fun p => D.int (f p.1 p.2)) = (List.zipWith f r s).map D.int := by
  rw [List.map_zipWith, List.map_zip_eq_zipWith]
  rfl
theorem m_add {r s : List Int} (h1 : r.length ≤ 900) (h2 : s.length ≤ 900) (hr : Pos r) (hs : Pos s) (x : Bx) : m_Hands___add__ [.bo (hands r), .bo (hands s)] x = .ok (hands (onR (· + ·) (max r.length s.length) r s)) x := by
  have sb := sbs_ok h1 h2 x
  have hp := add_pos hr hs
  have hl := onR_len (f := (· + ·)) (n := max r.length s.length) (r := r) (s := s) (by omega) (by omega)
  have hi := init_shL (xs := onR (· + ·) (max r.length s.length) r s) (by omega) (by rw [pos_trim hp, pos_neg hp]) x
  rw [pos_trim hp] at hi
  unfold onR at hi hl ⊢
  generalize pad (max r.length s.length) r = p at sb hi hl ⊢
  generalize pad (max r.length s.length) s = q at sb hi hl ⊢
  have hz : (p.zip q).length ≤ 100000 := by rw [List.length_zip, ← List.length_zipWith (f := (· + ·)), hl]; omega
  have hm := lc_map (tc := gU 2 (gsC (gN 2) (gsC (gN 3) (gsN)))) (fe := e2 dAdd (eVarT 2) (eVarT 3)) (Γ := [.bo (hands r), .bo (hands s), .no, .no]) (x := x) (fun p => .tup [.int p.1, .int p.2]) (fun p => .int (p.1 + p.2)) (p.zip q) fun p _ => ⟨[.bo (hands r), .bo (hands s), .sh (.int p.1), .sh (.int p.2)], rfl, by simp⟩
  rw [zip_op] at hm
  have hz' : min p.length q.length ≤ 100000 := by rw [← List.length_zip]; exact hz
  simp at hm hi
  simp [m_Hands___add__, g_Hands___add__, arSl, is_hands, at_own, sb, hz', hm, srcs, Src.get, hi]
theorem m_sub {r s : List Int} (h1 : r.length ≤ 900) (h2 : s.length ≤ 900) (x : Bx) : m_Hands___sub__ [.bo (hands r), .bo (hands s)] x = if neg (trim (onR (· - ·) (max r.length s.length) r s)) = true then .er below x else .ok (hands (trim (onR (· - ·) (max r.length s.length) r s))) x := by
  have sb := sbs_ok h1 h2 x
  have hl := onR_len (f := (· - ·)) (n := max r.length s.length) (r := r) (s := s) (by omega) (by omega)
  have hi := init_all (xs := onR (· - ·) (max r.length s.length) r s) (by omega) (a := .sh (iL (onR (· - ·) (max r.length s.length) r s))) (.inl rfl) x
  rw [← hi]
  unfold onR at hi hl ⊢
  generalize pad (max r.length s.length) r = p at sb hi hl ⊢
  generalize pad (max r.length s.length) s = q at sb hi hl ⊢
  have hz : (p.zip q).length ≤ 100000 := by rw [List.length_zip, ← List.length_zipWith (f := (· - ·)), hl]; omega
  have hm := lc_map (tc := gU 2 (gsC (gN 2) (gsC (gN 3) (gsN)))) (fe := e2 dSub (eVarT 2) (eVarT 3)) (Γ := [.bo (hands r), .bo (hands s), .no, .no]) (x := x) (fun p => .tup [.int p.1, .int p.2]) (fun p => .int (p.1 - p.2)) (p.zip q) fun p _ => ⟨[.bo (hands r), .bo (hands s), .sh (.int p.1), .sh (.int p.2)], rfl, by simp⟩
  rw [zip_op] at hm
  have hz' : min p.length q.length ≤ 100000 := by rw [← List.length_zip]; exact hz
  simp at hm hi
  by_cases hn : neg (trim (List.zipWith (· - ·) p q)) = true
  · simp [hn] at hi
    simp [m_Hands___sub__, g_Hands___sub__, arSl, is_hands, at_own, sb, hz', hm, srcs, Src.get, hi]
  · simp [hn] at hi
    simp [m_Hands___sub__, g_Hands___sub__, arSl, is_hands, at_own, sb, hz', hm, srcs, Src.get, hi]
theorem m_mul {r : List Int} {k : Int} (h1 : r.length ≤ 900) (hr : Pos r) (h0 : 0 ≤ k) (hk : k < 2 ^ 64) (x : Bx) : m_Hands___mul__ [.bo (hands r), .bo (.int k)] x = .ok (hands (trim (r.map (· * k)))) x := by
  have hi := init_shL (xs := r.map (· * k)) (by simp; omega) (mul_neg hr h0) x
  have hm := lc_map (tc := gN 2) (fe := e2 dMul (eVarT 2) (eVarT 1)) (Γ := [.bo (hands r), .bo (.int k), .no]) (x := x) D.int (fun n => .int (n * k)) r fun n _ => ⟨[.bo (hands r), .bo (.int k), .sh (.int n)], rfl, by simp [mul_r (i := n) (j := k) ⟨by omega, hk⟩]⟩
  have hle : r.length ≤ 100000 := by omega
  rw [List.map_map] at hi
  simp [Function.comp_def] at hi
  simp [m_Hands___mul__, g_Hands___mul__, arSl, at_own, hle, hm, srcs, Src.get, hi]
theorem m_rmul {r : List Int} {k : Int} (h1 : r.length ≤ 900) (hr : Pos r) (h0 : 0 ≤ k) (hk : k < 2 ^ 64) (x : Bx) : m_Hands___rmul__ [.bo (hands r), .bo (.int k)] x = .ok (hands (trim (r.map (· * k)))) x := m_mul h1 hr h0 hk x
theorem minus_ok {r s : List Int} (h1 : r.length ≤ 900) (h2 : s.length ≤ 900) {a b : Ar} (ha : a = .sh (hands r) ∨ a = .bo (hands r)) (hb : b = .sh (hands s) ∨ b = .bo (hands s)) (x : Bx) : m__law_minus [a, b] x = .ok (if neg (trim (onR (· - ·) (max r.length s.length) r s)) = true then .str (PySem.Str.ofString "below") else iT (trim (onR (· - ·) (max r.length s.length) r s))) x := by
  have hs := m_sub h1 h2 x
  have hx : ∀ Γ : Gm, tyR 4 2 xt_BelowZero (.er below Γ x) = .nx (((Γ.set 4 (.sh below)).set 2 (.sh below)).set 4 .no) x := fun Γ => tyR_er (by decide +kernel)
  have hN : isNonD below = false := rfl
  by_cases hn : neg (trim (onR (· - ·) (max r.length s.length) r s)) = true
  · rw [if_pos hn] at hs ⊢
    rcases ha with rfl | rfl <;> rcases hb with rfl | rfl <;> simp [m__law_minus, g__law_minus, arSl, slAr, gU, gsC, gN, gsN, o_own, hs, hx, hN]
  · rw [if_neg hn] at hs ⊢
    rcases ha with rfl | rfl <;> rcases hb with rfl | rfl <;> simp [m__law_minus, g__law_minus, arSl, slAr, gU, gsC, gN, gsN, o_own, hs, isNonD, at_numbers]
theorem due_minus_ok {xs ys : List Int} (h1 : xs.length ≤ 12) (h2 : ys.length ≤ 12) {a b : Ar} (ha : a = .sh (iL xs) ∨ a = .bo (iL xs)) (hb : b = .sh (iL ys) ∨ b = .bo (iL ys)) (x : Bx) : m__law_due_minus [a, b] x = .ok (if neg (trim (onR (· - ·) 12 xs ys)) = true then .str (PySem.Str.ofString "below") else iT (trim (onR (· - ·) 12 xs ys))) x := by
  have s1 := side_ok h1 ha x
  have s2 := side_ok h2 hb x
  have hl := onR_len (f := (· - ·)) h1 h2
  have ht := trimmed_ok (xs := onR (· - ·) 12 xs ys) (by omega) (a := .sh (iL (onR (· - ·) 12 xs ys))) (.inl rfl) x
  unfold onR at hl ht ⊢
  have l1 := pad_len h1
  have l2 := pad_len h2
  generalize pad 12 xs = p at s1 l1 ht hl ⊢
  generalize pad 12 ys = q at s2 l2 ht hl ⊢
  have hm : ∀ s0 s1 : Sl, lcGo (gU 2 (gsC (gN 3) (gsC (gN 4) (gsN)))) tYesC (e2 dSub (eVarT 3) (eVarT 4)) [s0, s1, .no, .no, .no] ((p.zip q).map fun p => .tup [.int p.1, .int p.2]) x = .ok ((List.zipWith (· - ·) p q).map D.int) x := fun s0 s1 => by
    rw [← zip_op]
    exact lc_map (tc := gU 2 (gsC (gN 3) (gsC (gN 4) (gsN)))) (fe := e2 dSub (eVarT 3) (eVarT 4)) (Γ := [s0, s1, .no, .no, .no]) (x := x) (fun p => .tup [.int p.1, .int p.2]) (fun p => .int (p.1 - p.2)) (p.zip q) fun p _ => ⟨[s0, s1, .no, .sh (.int p.1), .sh (.int p.2)], rfl, by simp⟩
  have hzd := zipD_ints p q
  have hz' : (zipD (p.map D.int) (q.map D.int)).length ≤ 100000 := by rw [hzd]; simp; omega
  generalize List.zipWith (· - ·) p q = z at ht hm ⊢
  simp at s1 s2 ht hm
  cases hc : trim z with
  | nil =>
    rw [hc] at ht
    rcases ha with rfl | rfl <;> rcases hb with rfl | rfl <;> simp at s1 s2 <;> simp [m__law_due_minus, g__law_due_minus, s1, s2, l1, l2, hzd, hm, ht, neg]
  | cons c t =>
    rw [hc] at ht
    by_cases h0 : c < 0
    · rcases ha with rfl | rfl <;> rcases hb with rfl | rfl <;> simp at s1 s2 <;> simp [m__law_due_minus, g__law_due_minus, s1, s2, l1, l2, hzd, hm, ht, neg, h0]
    · rcases ha with rfl | rfl <;> rcases hb with rfl | rfl <;> simp at s1 s2 <;> simp [m__law_due_minus, g__law_due_minus, s1, s2, l1, l2, hzd, hm, ht, neg, h0]
end LW

namespace LW
open PySem PySem.Spec PyProof.Rows L2 DL
/-! ### cut -/
def kept : List Int → List Int
  | [] => []
  | a :: r => if a < 0 then [] else a :: kept r
theorem kept_len : ∀ r : List Int, (kept r).length ≤ r.length
  | [] => Nat.le_refl _
  | a :: r => by
    unfold kept
    split
    · simp
    · simp [kept_len r]
theorem kept_cut : ∀ r : List Int, kept r ++ List.replicate (r.length - (kept r).length) 0 = cutR r
  | [] => rfl
  | a :: r => by
    unfold kept cutR
    split
    · simp
    · simp [kept_cut r]
def ctG : SC := sSeq (sIf (tOf (e2 dLtU (eVarT 2) (eC (.int 0)))) (sBreak) (sNext)) (sApp 1 (eVar 2))
theorem cut_go {h : D} {x : Bx} : ∀ (r acc : List Int) (s2 : Sl), acc.length + r.length ≤ 900 → ∃ s2', (forGo (gN 2) ctG (r.map D.int) [.bo h, .ow (iL acc), s2] x = .nx [.bo h, .ow (iL (acc ++ kept r)), s2'] x)
  | [], acc, s2, _ => ⟨s2, by simp [kept]⟩
  | a :: r, acc, s2, hl => by
    by_cases h0 : a < 0
    · refine ⟨.sh (.int a), ?_⟩
      rw [List.map_cons, q_for1 (Γ1 := [.bo h, .ow (iL acc), .sh (.int a)]) rfl]
      simp [ctG, h0, kept]
    · obtain ⟨s2', ih⟩ := cut_go (h := h) (x := x) r (acc ++ [a]) (.sh (.int a)) (by simp at hl ⊢; omega)
      refine ⟨s2', ?_⟩
      rw [List.map_cons, q_for1 (Γ1 := [.bo h, .ow (iL acc), .sh (.int a)]) rfl]
      have hac : acc.length < 100000 := by simp at hl; omega
      simp [ctG] at ih
      simp [ctG, h0, ownL, hac, kept, ih]
theorem cut_ok {r : List Int} (h1 : r.length ≤ 900) (hr : Pos r) (x : Bx) : m_Hands_cut [.bo (hands r)] x = .ok (hands (cutR r)) x := by
  obtain ⟨s2, hg⟩ := cut_go (h := hands r) (x := x) r [] .no (by simpa using h1)
  have hp := cutR_pos hr
  have hl := cutR_len r
  have kl := kept_len r
  have hi := init_shL (xs := cutR r) (by omega) (by rw [pos_trim hp, pos_neg hp]) x
  rw [pos_trim hp] at hi
  have hm := mulL_ok (d := .int 0) (k := (r.length : Int) - ((kept r).length : Int)) (by omega) (by omega)
  rw [show ((r.length : Int) - ((kept r).length : Int)).toNat = r.length - (kept r).length by omega] at hm
  have ha : dAdd (.lst ((kept r).map D.int)) (.lst (List.replicate (r.length - (kept r).length) (D.int 0))) = some (.lst ((cutR r).map D.int)) := by
    rw [dAddL (by simp; omega), ← kept_cut, List.map_append, List.map_replicate]
  simp [ctG] at hg
  have hle : r.length ≤ 100000 := by omega
  simp [m_Hands_cut, g_Hands_cut, arSl, at_own, hg, frz, hm, ha, srcs, Src.get, hi]
/-! the law's own cut -/
def dueR (k : Bool) : List Int → List Int
  | [] => []
  | a :: r => (if k || decide (a < 0) then 0 else a) :: dueR (k || decide (a < 0)) r
theorem dueR_true : ∀ r : List Int, dueR true r = List.replicate r.length 0
  | [] => rfl
  | a :: r => by simp [dueR, dueR_true r, List.replicate_succ]
theorem dueR_cut : ∀ r : List Int, dueR false r = cutR r
  | [] => rfl
  | a :: r => by
    unfold dueR cutR
    by_cases h : a < 0
    · simp [h, dueR_true, List.replicate_succ]
    · simp [h, dueR_cut r]
def duG : SC := sSeq (sAsg 2 (eOr (eVarT 2) (e2 dLtU (eVarT 3) (eC (.int 0))))) (sApp 1 (eIf (tOf (eVarT 2)) (eC (.int 0)) (eVar 3)))
theorem due_go {s0 : Sl} {x : Bx} : ∀ (r acc : List Int) (k : Bool) (s3 : Sl), acc.length + r.length ≤ 900 → ∃ k' s3', forGo (gN 3) duG (r.map D.int) [s0, .ow (iL acc), .sh (.bl k), s3] x = .nx [s0, .ow (iL (acc ++ dueR k r)), .sh (.bl k'), s3'] x
  | [], acc, k, s3, _ => ⟨k, s3, by simp [dueR]⟩
  | a :: r, acc, k, s3, hl => by
    obtain ⟨k', s3', ih⟩ := due_go (s0 := s0) (x := x) r (acc ++ [if k || decide (a < 0) then 0 else a]) (k || decide (a < 0)) (.sh (.int a)) (by simp at hl ⊢; omega)
    refine ⟨k', s3', ?_⟩
    rw [List.map_cons, q_for1 (Γ1 := [s0, .ow (iL acc), .sh (.bl k), .sh (.int a)]) rfl]
    have hac : acc.length < 100000 := by simp at hl; omega
    simp [duG] at ih
    cases k with
    | true =>
      simp at ih
      simp [duG, ownL, hac, dueR, ih]
    | false =>
      by_cases h0 : a < 0
      · simp [h0] at ih
        simp [duG, ownL, hac, dueR, h0, ih]
      · simp [h0] at ih
        simp [duG, ownL, hac, dueR, h0, ih]
theorem cut_due_ok {xs : List Int} (h : xs.length ≤ 900) {a : Ar} (ha : a = .sh (iL xs) ∨ a = .bo (iL xs)) (x : Bx) : m__law_cut_due [a] x = .ok (iT (cutR (trim xs))) x := by
  have ht := trimmed_ok (xs := xs) h (a := a) (ha.elim .inl fun z => .inr (.inl z)) x
  have tl := trim_len xs
  have hg : ∀ s0 : Sl, ∃ k' s3', forGo (gN 3) duG ((trim xs).map D.int) [s0, .ow (iL []), .sh (.bl false), .no] x = .nx [s0, .ow (iL ([] ++ dueR false (trim xs))), .sh (.bl k'), s3'] x := fun s0 => due_go (trim xs) [] false .no (by simp; omega)
  rw [dueR_cut] at hg
  rcases ha with rfl | rfl
  · obtain ⟨k', s3', hg⟩ := hg (.sh (iL xs))
    simp [duG] at hg ht
    simp [m__law_cut_due, g__law_cut_due, ht, hg, frz]
  · obtain ⟨k', s3', hg⟩ := hg (.bo (iL xs))
    simp [duG] at hg ht
    simp [m__law_cut_due, g__law_cut_due, ht, hg, frz]
end LW

namespace LW
open PySem PySem.Spec PyProof.Rows L2 DL
theorem less_cut' : ∀ (r ys : List Int) (k : Nat), 0 < (cutR r).getD k 0 → lexI ((cutR r).take k ++ ((cutR r).getD k 0 - 1) :: ys) r = true
  | [], ys, k, h => by simp [cutR] at h
  | a :: r, ys, k, h => by
    by_cases ha : a < 0
    · simp only [cutR, ha, if_true] at h
      rw [List.getD_eq_getElem?_getD, List.getElem?_replicate] at h
      split at h <;> simp at h
    · simp only [cutR, ha, if_false] at h ⊢
      cases k with
      | zero => simp [lexI]; omega
      | succ k =>
        have ih := less_cut' r ys k (by simpa using h)
        simp [lexI] at ih ⊢
        exact ih
theorem dSl_hi {ds : List D} {k : Nat} (h : k ≤ ds.length) : dSl none (some (k : Int)) (.tup ds) = some (.tup (ds.take k)) := by
  show some (D.tup (cutD _ _ _)) = _
  unfold DL.cutD
  rw [HT.sIx_none, HT.sIx_nat]
  simp
theorem dSl_lo {ds : List D} {k : Nat} (h : k ≤ ds.length) : dSl (some (k : Int)) none (.tup ds) = some (.tup (ds.drop k)) := by
  show some (D.tup (cutD _ _ _)) = _
  unfold DL.cutD
  rw [HT.sIx_none, HT.sIx_nat, Nat.min_eq_left h]
  congr 2
  rw [List.take_of_length_le]
  simp
theorem ix_last {ds : List D} {d : D} : dIx (.lst (ds ++ [d])) (.int (-1)) = some d := by
  show atI _ _ = _
  unfold atI ixN
  rw [if_neg (by decide), if_pos (by simp; omega)]
  have e : (-1 + ((ds ++ [d]).length : Int)).toNat = ds.length := by simp; omega
  show (ds ++ [d])[(-1 + ((ds ++ [d]).length : Int)).toNat]? = _
  rw [e]
  simp
theorem ixT_nat {xs : List Int} {k : Nat} (h : k < xs.length) : dIx (.tup (xs.map D.int)) (.int (k : Nat)) = some (.int (xs.getD k 0)) := by
  show atI _ _ = _
  unfold atI ixN
  rw [if_pos (by omega), List.length_map, if_pos (by omega)]
  show (xs.map D.int)[(k : Int).toNat]? = _
  rw [Int.toNat_natCast, List.getElem?_map, List.getD_eq_getElem?_getD, List.getElem?_eq_getElem h]
  rfl
/-- drawn numbers from 0 on -/
theorem wide_go {s1 s2 s3 s4 s5 s6 s7 : Sl} {b : Int} (h0 : 0 ≤ b) : ∀ (ds : List D) (x : Bx), BG x (b + ds.length) → ∃ (ys : List Int) (x' : Bx), lcGo (gN 8) tYesC (eCall (lenOk 2 m__law_of) [] (aVar 0 (aSh (eLst (lCons (eC (.int 0)) (lCons (eC (.int 9)) (lCons (e2 dPow (eC (.int 10)) (eC (.int 60))) (lNil))))) (aNil)))) [.sh .box, s1, s2, s3, s4, s5, s6, s7, .no] ds x = .ok (ys.map D.int) x' ∧ ys.length = ds.length ∧ (∀ y ∈ ys, 0 ≤ y) ∧ BG x' b
  | [], x, hb => ⟨[], x, rfl, rfl, (fun _ h => by simp at h), by simpa using hb⟩
  | d :: ds, x, hb => by
    have hpow : dPow (.int 10) (.int 60) = some (.int 1000000000000000000000000000000000000000000000000000000000000) := by kernel_rfl
    obtain ⟨e, x1, e1, m1, hb1⟩ := of_lst (gs := [.int 0, .int 9, .int 1000000000000000000000000000000000000000000000000000000000000]) (x := x) (b := b + ds.length) (by simp) (by simp) (by rw [show b + (ds.length : Int) + 1 = b + ((d :: ds).length : Nat) by simp; omega]; exact hb) (by omega)
    obtain ⟨ys, x2, e2, l2, p2, hb2⟩ := wide_go (s1 := s1) (s2 := s2) (s3 := s3) (s4 := s4) (s5 := s5) (s6 := s6) (s7 := s7) h0 ds x1 hb1
    obtain ⟨i, rfl, hi⟩ : ∃ i, e = .int i ∧ 0 ≤ i := by simp at m1; rcases m1 with h | h | h <;> exact ⟨_, h, by decide⟩
    refine ⟨i :: ys, x2, ?_, by simp [l2], fun y hy => ?_, hb2⟩
    · rw [q_lccons (Γ1 := [.sh .box, s1, s2, s3, s4, s5, s6, s7, .sh d]) rfl]
      simp [hpow, e1, e2]
    · rcases List.mem_cons.mp hy with rfl | hy
      · exact hi
      · exact p2 y hy
theorem enumD_ints (xs : List Int) : enumD (xs.map D.int) = (List.range xs.length).map fun (k : Nat) => D.tup [.int (k : Nat), .int (xs.getD k 0)] := by
  unfold enumD
  rw [List.length_map]
  refine List.map_congr_left fun k hk => ?_
  have hk' : k < xs.length := List.mem_range.mp hk
  rw [List.getD_eq_getElem?_getD, List.getElem?_map, List.getD_eq_getElem?_getD, List.getElem?_eq_getElem hk']
  rfl
theorem sm_bls3 {n : Nat} {r : List Int} (hl : r.length ≤ 900) : Sm (n + 3) (.lst [iT r, .bl true, .bl true]) := sm_lst (fun d hd => by
  simp at hd
  rcases hd with rfl | rfl
  · exact sm_tup (fun d hd => by
      obtain ⟨p, _, rfl⟩ := List.mem_map.mp hd
      exact sm_int) (by simp; omega)
  · exact sm_bl) (by simp)
theorem cut_right_ok {xs : List Int} (h1 : xs.length ≤ 12) (hr : Pos (trim xs)) {x : Bx} {b : Int} (hb : BG x (b + 12)) (h0 : 0 ≤ b) : ∃ x', m__law_cut_right [.sh .box, .sh (hands (trim xs)), .sh (iL xs)] x = .ok (.bl true) x' ∧ BG x' b := by
  have tl := trim_len xs
  have cd := cut_due_ok (xs := xs) (by omega) (a := .sh (iL xs)) (.inl rfl) x
  have hr' := hr
  generalize trim xs = r at hr tl cd ⊢
  have hc := cut_ok (r := r) (by omega) hr x
  have cl := cutR_len r
  have cp := cutR_pos hr
  have pl := cutR_plain r
  have ap := at_plain (r := cutR r) (by omega) x
  have ar := at_plain (r := r) (by omega) x
  rw [pl] at ap
  have ge := m_ge (cutR r) r x
  have hge : lexK (cutR r).length (cutR r) r.length r = false := by simp [lexK, cl, cutR_ge]
  rw [hge] at ge
  have sm : m__law_same 8 [.sh (.lst [iT (cutR r), .bl true, .bl true]), .sh (.lst [iT (cutR r), .bl true, .bl true])] x = .ok (.bl true) x := sm_bls3 (n := 5) (by omega) x
  have selc : selM (PySem.Str.ofString "cut") [((PySem.Str.ofString "Hands"), ⟨1, m_Hands_cut, []⟩)] (hands r) = some ⟨1, m_Hands_cut, []⟩ := by kernel_rfl
  have hf : lcGo (gU 2 (gsC (gN 7) (gsC (gN 8) (gsN)))) (tOf (e2 dGtU (eVarT 8) (eC (.int 0)))) (eVar 7) [.sh .box, .sh (hands r), .sh (iL xs), .sh (hands (cutR r)), .no, .no, .no, .no, .no] ((List.range (cutR r).length).map fun (k : Nat) => D.tup [.int (k : Nat), .int ((cutR r).getD k 0)]) x = .ok (((List.range (cutR r).length).filter fun k => decide (0 < (cutR r).getD k 0)).map fun (k : Nat) => D.int (k : Nat)) x :=
    lc_filter (tc := gU 2 (gsC (gN 7) (gsC (gN 8) (gsN)))) (tst := tOf (e2 dGtU (eVarT 8) (eC (.int 0)))) (fe := eVar 7) (Γ := [.sh .box, .sh (hands r), .sh (iL xs), .sh (hands (cutR r)), .no, .no, .no, .no, .no]) (x := x) (fun (k : Nat) => D.tup [.int (k : Nat), .int ((cutR r).getD k 0)]) (fun (k : Nat) => D.int (k : Nat)) (fun k => decide (0 < (cutR r).getD k 0)) (List.range (cutR r).length) fun k _ => ⟨[.sh .box, .sh (hands r), .sh (iL xs), .sh (hands (cutR r)), .no, .no, .no, .sh (.int (k : Nat)), .sh (.int ((cutR r).getD k 0))], rfl, by simp, fun _ => by simp⟩
  rw [← enumD_ints] at hf
  have he : (enumD ((cutR r).map D.int)).length ≤ 100000 := by rw [enumD_ints]; simp; omega
  generalize hsp : ((List.range (cutR r).length).filter fun k => decide (0 < (cutR r).getD k 0)) = sp at hf
  have hspm : ∀ k ∈ sp, k < (cutR r).length ∧ 0 < (cutR r).getD k 0 := fun k hk => by
    rw [← hsp] at hk
    have := List.mem_filter.mp hk
    exact ⟨List.mem_range.mp this.1, by simpa using this.2⟩
  have hspl : sp.length ≤ 900 := by
    rw [← hsp]
    have := List.length_filter_le (fun k => decide (0 < (cutR r).getD k 0)) (List.range (cutR r).length)
    rw [List.length_range] at this
    omega
  have hsp0 : ∀ f : Bool → Bool, dEqU f (.lst (sp.map fun (k : Nat) => D.int (k : Nat))) (.lst []) = some (.bl (f (decide (sp = [])))) := fun f => by
    have := dEq_iL f (sp.map fun (k : Nat) => (k : Int)) []
    simpa [Function.comp_def] using this
  by_cases hpl : (r.all fun n => decide (0 ≤ n)) = true
  · rw [hpl] at ar
    have cs := cutR_self r hpl
    have eq := m_eq (cutR r) r x
    rw [show decide (cutR r = r) = true by simp [cs]] at eq
    refine ⟨x, ?_, hb.mono h0 (by omega)⟩
    simp at hf cd sm
    simp [m__law_cut_right, g__law_cut_right, arSl, selc, hc, at_numbers, ap, ar, o_own, o_ownE, ge, cd, sm, he, hf, frz, eq]
  · rw [show (r.all fun n => decide (0 ≤ n)) = false by simpa using hpl] at ar
    by_cases hs0 : sp = []
    · subst hs0
      refine ⟨x, ?_, hb.mono h0 (by omega)⟩
      simp at hf cd sm
      simp [m__law_cut_right, g__law_cut_right, arSl, selc, hc, at_numbers, ap, ar, o_own, o_ownE, ge, cd, sm, he, hf, frz]
    · obtain ⟨sp', k, rfl⟩ : ∃ sp' k, sp = sp' ++ [k] := ⟨sp.dropLast, sp.getLast hs0, (List.dropLast_concat_getLast hs0).symm⟩
      obtain ⟨hk, hpos⟩ := hspm k (by simp)
      have hix : dIx (.lst (sp'.map (fun (k : Nat) => D.int (k : Nat)) ++ [.int (k : Nat)])) (.int (-1)) = some (.int (k : Nat)) := ix_last
      have hi1 := ixT_nat hk
      have hs1 := dSl_hi (ds := (cutR r).map D.int) (k := k) (by simp; omega)
      have hs2 := dSl_lo (ds := (cutR r).map D.int) (k := k + 1) (by simp; omega)
      have hdl : (((cutR r).map D.int).drop (k + 1)).length = r.length - (k + 1) := by simp [cl]
      obtain ⟨ys, x', e1, l1, p1, hb1⟩ := wide_go (s1 := .sh (hands r)) (s2 := .sh (iL xs)) (s3 := .sh (hands (cutR r))) (s4 := .sh (.lst ((sp' ++ [k]).map fun (k : Nat) => D.int (k : Nat)))) (s5 := .sh (.int (k : Nat))) (s6 := .sh (.tup (((cutR r).take k ++ [(cutR r).getD k 0 - 1]).map D.int))) (s7 := .no) h0 (((cutR r).map D.int).drop (k + 1)) x (hb.mono (by omega) (by rw [hdl]; omega))
      have hnn : ∀ a ∈ (cutR r).take k ++ ((cutR r).getD k 0 - 1) :: ys, 0 ≤ a := fun a ha => by
        rcases List.mem_append.mp ha with ha | ha
        · have := List.all_eq_true.mp pl a (List.mem_of_mem_take ha)
          simpa using this
        · rcases List.mem_cons.mp ha with rfl | ha
          · omega
          · exact p1 a ha
      have hll : ((cutR r).take k ++ ((cutR r).getD k 0 - 1) :: ys).length = r.length := by
        rw [List.length_append, List.length_take, List.length_cons, l1, hdl, cl]
        omega
      have hi := init_shT (xs := (cutR r).take k ++ ((cutR r).getD k 0 - 1) :: ys) (by omega) (nonneg_neg _ hnn) x'
      have hlt := m_lt (trim ((cutR r).take k ++ ((cutR r).getD k 0 - 1) :: ys)) r x'
      rw [lt_trim hll (less_cut' r ys k hpos) hr] at hlt
      have ha1 : dAdd (.tup (((cutR r).map D.int).take k)) (.tup [.int ((cutR r).getD k 0 - 1)]) = some (.tup (((cutR r).take k ++ [(cutR r).getD k 0 - 1]).map D.int)) := by
        rw [dAddT (by simp; omega), List.map_append, List.map_take]
        rfl
      have ha2 : dAdd (.tup (((cutR r).take k ++ [(cutR r).getD k 0 - 1]).map D.int)) (.tup (ys.map D.int)) = some (.tup (((cutR r).take k ++ ((cutR r).getD k 0 - 1) :: ys).map D.int)) := by
        rw [dAddT (by simp; omega), ← List.map_append, List.append_assoc]
        rfl
      refine ⟨x', m_rt (g := g__law_cut_right) ?_, hb1⟩
      unfold g__law_cut_right
      generalize hq : (cutR r).getD k 0 - 1 = q at *
      refine sq_nx (Γ1 := [.sh .box, .sh (hands r), .sh (iL xs), .sh (hands (cutR r)), .no, .no, .no, .no, .no]) (x1 := x) (by simp [selc, hc]) ?_
      refine sq_nx (Γ1 := [.sh .box, .sh (hands r), .sh (iL xs), .sh (hands (cutR r)), .no, .no, .no, .no, .no]) (x1 := x) (by simp at cd sm; simp [at_numbers, ap, o_own, ge, cd, sm]) ?_
      refine sq_nx (Γ1 := [.sh .box, .sh (hands r), .sh (iL xs), .sh (hands (cutR r)), .ow (.lst ((sp' ++ [k]).map fun (k : Nat) => D.int (k : Nat))), .no, .no, .no, .no]) (x1 := x) (by simp at hf he; simp [at_numbers, he, hf]) ?_
      refine sq_nx (Γ1 := [.sh .box, .sh (hands r), .sh (iL xs), .sh (hands (cutR r)), .sh (.lst ((sp' ++ [k]).map fun (k : Nat) => D.int (k : Nat))), .no, .no, .no, .no]) (x1 := x) (by simp at hsp0; simp [ar, hsp0, frz]) ?_
      refine sq_nx (Γ1 := [.sh .box, .sh (hands r), .sh (iL xs), .sh (hands (cutR r)), .sh (.lst ((sp' ++ [k]).map fun (k : Nat) => D.int (k : Nat))), .sh (.int (k : Nat)), .no, .no, .no]) (x1 := x) (by simp [hix, frz]) ?_
      refine sq_nx (Γ1 := [.sh .box, .sh (hands r), .sh (iL xs), .sh (hands (cutR r)), .sh (.lst ((sp' ++ [k]).map fun (k : Nat) => D.int (k : Nat))), .sh (.int (k : Nat)), .sh (.tup (((cutR r).take k ++ [q]).map D.int)), .no, .no]) (x1 := x) (by simp at hs1 hi1 ha1 hq; simp [at_numbers, hs1, hi1, ha1, hq]) ?_
      refine sq_nx (Γ1 := [.sh .box, .sh (hands r), .sh (iL xs), .sh (hands (cutR r)), .sh (.lst ((sp' ++ [k]).map fun (k : Nat) => D.int (k : Nat))), .sh (.int (k : Nat)), .sh (.tup (((cutR r).take k ++ q :: ys).map D.int)), .no, .no]) (x1 := x') (by simp at hs2 e1 ha2 hdl; simp [at_numbers, hs2, e1, ha2, hdl, show r.length ≤ 100000 + (k + 1) by omega]) ?_
      simp at hi
      simp [srcs, Src.get, hi, o_own, hlt]
end LW

namespace LW
open PySem PySem.Spec PyProof.Rows L2 DL
theorem hands_mul (cs) (r : List Int) (k : Int) (z : Bx) : mulO [((PySem.Str.ofString "Hands"), m_Hands___mul__, m_Hands___rmul__)] cs (hands r) (.int k) z = m_Hands___mul__ [.bo (hands r), .bo (.int k)] z := by
  unfold mulO
  rw [show mulK [((PySem.Str.ofString "Hands"), m_Hands___mul__, m_Hands___rmul__)] (hands r) (.int k) = .l m_Hands___mul__ by kernel_rfl]
theorem hands_rmul (cs) (r : List Int) (k : Int) (z : Bx) : mulO [((PySem.Str.ofString "Hands"), m_Hands___mul__, m_Hands___rmul__)] cs (.int k) (hands r) z = m_Hands___rmul__ [.bo (hands r), .bo (.int k)] z := by
  unfold mulO
  rw [show mulK [((PySem.Str.ofString "Hands"), m_Hands___mul__, m_Hands___rmul__)] (.int k) (hands r) = .r m_Hands___rmul__ by kernel_rfl]
theorem sm_iT {n : Nat} {xs : List Int} (h : xs.length ≤ 1000) : Sm (n + 2) (.tup (xs.map D.int)) := sm_tup (fun d hd => by
  obtain ⟨p, _, rfl⟩ := List.mem_map.mp hd
  exact sm_int) (by simp; omega)
def belowD (r : List Int) : D := if neg (trim r) = true then .str (PySem.Str.ofString "below") else iT (trim r)
theorem sm_below {n : Nat} {r : List Int} (h : r.length ≤ 900) : Sm (n + 2) (belowD r) := by
  unfold belowD
  have := trim_len r
  split
  · exact sm_str
  · exact sm_iT (by omega)
/-- hand(place, count) -/
theorem hand_fn {p c : Int} (h0 : 0 ≤ p) (h1 : p ≤ 800) (hc : 0 ≤ c) (x : Bx) : m_hand [.sh (.int p), .sh (.int c)] x = .ok (hands (if 0 < c then c :: List.replicate p.toNat 0 else [])) x := by
  have hm := mulL_ok (d := .int 0) (k := p) h0 (by omega)
  have ht : trim (c :: List.replicate p.toNat 0) = if 0 < c then c :: List.replicate p.toNat 0 else [] := by
    by_cases h : 0 < c
    · rw [if_pos h]
      simp [trim, show ¬ c = 0 by omega]
    · rw [if_neg h]
      have : c = 0 := by omega
      subst this
      have := trim_zero [] p.toNat
      simpa [trim] using this
  have hi := init_shL (xs := c :: List.replicate p.toNat 0) (by simp; omega) (by
    rw [ht]
    split
    · simp [neg]; omega
    · rfl) x
  rw [ht] at hi
  have ha : dAdd (.lst [.int c]) (.lst (List.replicate p.toNat (D.int 0))) = some (.lst ((c :: List.replicate p.toNat 0).map D.int)) := by
    rw [dAddL (by simp; omega)]
    simp
  simp at hi ha
  simp [m_hand, g_hand, arSl, hm, ha, srcs, Src.get, hi]
theorem case_ok {x : Bx} {b : Int} (hb : BG x (b + 200)) (h0 : 0 ≤ b) : ∃ x', m__law_case_right [.sh .box] x = .ok (.bl true) x' ∧ BG x' b := by
  obtain ⟨xs0, x1, e1, l1, hb1⟩ := line_ok (x := x) (b := b + 155) (by rw [show b + 155 + 45 = b + 200 by omega]; exact hb) (by omega)
  obtain ⟨ys0, x2, e2, l2, hb2⟩ := line_ok (x := x1) (b := b + 110) (by rw [show b + 110 + 45 = b + 155 by omega]; exact hb1) (by omega)
  have u1 := up_ok (xs := xs0) (by omega) (a := .sh (iL xs0)) (.inl rfl) x1
  have u2 := up_ok (xs := ys0) (by omega) (a := .sh (iL ys0)) (.inl rfl) x2
  have n1 := up_neg xs0
  have k1 := up_len xs0
  have k2 := up_len ys0
  generalize up xs0 = xs at u1 n1 k1
  have n2 := up_neg ys0
  generalize up ys0 = ys' at u2 n2 k2
  have hp9 : dPow (.int 10) (.int 9) = some (.int 1000000000) := by kernel_rfl
  have hp30 : dPow (.int 10) (.int 30) = some (.int 1000000000000000000000000000000) := by kernel_rfl
  obtain ⟨r3, x3, e3, p3, q3, hb3⟩ := take_ok (n := 1000000000) (x := x2) (b := b + 109) (by omega) (by omega) (by rw [show b + 109 + 1 = b + 110 by omega]; exact hb2) (by omega)
  obtain ⟨d4, x4, e4, m4, hb4⟩ := of_lst (gs := [.int 0, .int 1, .int 2, .int r3]) (x := x3) (b := b + 108) (by simp) (by simp) (by rw [show b + 108 + 1 = b + 109 by omega]; exact hb3) (by omega)
  obtain ⟨far, rfl, hf0, hf1⟩ : ∃ i, d4 = .int i ∧ 0 ≤ i ∧ i < 2 ^ 64 := by simp at m4; rcases m4 with h | h | h | h <;> exact ⟨_, h, by omega, by omega⟩
  obtain ⟨r5, x5, e5, p5, q5, hb5⟩ := take_ok (n := 3) (x := x4) (b := b + 107) (by omega) (by omega) (by rw [show b + 107 + 1 = b + 108 by omega]; exact hb4) (by omega)
  obtain ⟨r6, x6, e6, p6, q6, hb6⟩ := take_ok (n := 12) (x := x5) (b := b + 106) (by omega) (by omega) (by rw [show b + 106 + 1 = b + 107 by omega]; exact hb5) (by omega)
  obtain ⟨r7, x7, e7, p7, q7, hb7⟩ := take_ok (n := 1000000000000000000000000000000) (x := x6) (b := b + 105) (by decide +kernel) (by decide +kernel) (by rw [show b + 105 + 1 = b + 106 by omega]; exact hb6) (by omega)
  obtain ⟨d8, x8, e8, m8, hb8⟩ := of_lst (gs := [.int 0, .int 1, .int 3, .int r7]) (x := x7) (b := b + 104) (by simp) (by simp) (by rw [show b + 104 + 1 = b + 105 by omega]; exact hb7) (by omega)
  obtain ⟨cnt, rfl, hc0⟩ : ∃ i, d8 = .int i ∧ 0 ≤ i := by simp at m8; rcases m8 with h | h | h | h <;> exact ⟨_, h, by omega⟩
  obtain ⟨ys, hy, hyn, hyl⟩ : ∃ ys : List Int, (if r5 = 0 then xs else ys') = ys ∧ neg (trim ys) = false ∧ ys.length ≤ 11 := by
    by_cases h : r5 = 0
    · exact ⟨xs, if_pos h, n1, by omega⟩
    · exact ⟨ys', if_neg h, n2, by omega⟩
  have hxl : xs.length ≤ 11 := by omega
  have tx := trim_len xs
  have ty := trim_len ys
  have px := trim_pos n1
  have py := trim_pos hyn
  have i1 := init_shL (xs := xs) (by omega) n1 x5
  have i2 := init_shL (xs := ys) (by omega) hyn x5
  have s1 := side_ok (xs := xs) (by omega) (a := .sh (iL xs)) (.inl rfl) x5
  have s2 := side_ok (xs := ys) (by omega) (a := .sh (iL ys)) (.inl rfl) x5
  have pl1 := pad_len (n := 12) (r := xs) (by omega)
  have pl2 := pad_len (n := 12) (r := ys) (by omega)
  -- sums
  have sumE : ∀ f : Int → Int → Int, f 0 0 = 0 → trim (onR f (max (trim xs).length (trim ys).length) (trim xs) (trim ys)) = trim (onR f 12 xs ys) := fun f hf => by
    rw [← onR_le hf (n := 12) (by omega) (by omega) (by omega), onR_trim (by omega) (by omega)]
  have sumE' : ∀ f : Int → Int → Int, f 0 0 = 0 → trim (onR f (max (trim ys).length (trim xs).length) (trim ys) (trim xs)) = trim (onR f 12 ys xs) := fun f hf => by
    rw [← onR_le hf (n := 12) (by omega) (by omega) (by omega), onR_trim (by omega) (by omega)]
  have a1 := m_add (r := trim xs) (s := trim ys) (by omega) (by omega) px py x5
  have a2 := m_add (r := trim ys) (s := trim xs) (by omega) (by omega) py px x5
  rw [← pos_trim (add_pos px py), sumE _ rfl] at a1
  rw [← pos_trim (add_pos py px), sumE' _ rfl, add_comm_R] at a2
  have ol := onR_len (f := (· + ·)) (n := 12) (r := xs) (s := ys) (by omega) (by omega)
  have t1 := trimmed_ok (xs := onR (· + ·) 12 xs ys) (by omega) (a := .sh (iL (onR (· + ·) 12 xs ys))) (.inl rfl) x5
  have osum : Pos (trim (onR (· + ·) 12 xs ys)) := by rw [← sumE _ rfl, pos_trim (add_pos px py)]; exact add_pos px py
  have tsl := trim_len (onR (· + ·) 12 xs ys)
  have t2 := trimmed_ok (xs := xs.map (· * far)) (by simp; omega) (a := .sh (iL (xs.map (· * far)))) (.inl rfl) x5
  have mm := m_mul (r := trim xs) (k := far) (by omega) px hf0 hf1 x5
  have mr := m_rmul (r := trim xs) (k := far) (by omega) px hf0 hf1 x5
  rw [trim_mul] at mm mr
  have tml : (trim (xs.map (· * far))).length ≤ 900 := by have := trim_len (xs.map (· * far)); rw [List.length_map] at this; omega
  -- differences
  have d1 := minus_ok (r := trim xs) (s := trim ys) (by omega) (by omega) (a := .sh (hands (trim xs))) (b := .sh (hands (trim ys))) (.inl rfl) (.inl rfl) x5
  have d2 := minus_ok (r := trim ys) (s := trim xs) (by omega) (by omega) (a := .sh (hands (trim ys))) (b := .sh (hands (trim xs))) (.inl rfl) (.inl rfl) x5
  rw [sumE _ (by decide)] at d1
  rw [sumE' _ (by decide)] at d2
  have g1 := due_minus_ok (xs := xs) (ys := ys) (by omega) (by omega) (a := .sh (iL xs)) (b := .sh (iL ys)) (.inl rfl) (.inl rfl) x5
  have g2 := due_minus_ok (xs := ys) (ys := xs) (by omega) (by omega) (a := .sh (iL ys)) (b := .sh (iL xs)) (.inl rfl) (.inl rfl) x5
  have bl1 : Sm 7 (belowD (onR (· - ·) 12 xs ys)) := sm_below (n := 5) (by rw [onR_len (by omega) (by omega)]; omega)
  have bl2 : Sm 7 (belowD (onR (· - ·) 12 ys xs)) := sm_below (n := 5) (by rw [onR_len (by omega) (by omega)]; omega)
  replace d1 : _ = R.ok (belowD (onR (· - ·) 12 xs ys)) x5 := d1
  replace d2 : _ = R.ok (belowD (onR (· - ·) 12 ys xs)) x5 := d2
  replace g1 : _ = R.ok (belowD (onR (· - ·) 12 xs ys)) x5 := g1
  replace g2 : _ = R.ok (belowD (onR (· - ·) 12 ys xs)) x5 := g2
  generalize belowD (onR (· - ·) 12 xs ys) = w1 at d1 g1 bl1
  generalize belowD (onR (· - ·) 12 ys xs) = w2 at d2 g2 bl2
  -- off again
  have d3 := minus_ok (r := trim (onR (· + ·) 12 xs ys)) (s := trim ys) (by omega) (by omega) (a := .sh (hands (trim (onR (· + ·) 12 xs ys)))) (b := .sh (hands (trim ys))) (.inl rfl) (.inl rfl) x5
  have off : trim (onR (· - ·) (max (trim (onR (· + ·) 12 xs ys)).length (trim ys).length) (trim (onR (· + ·) 12 xs ys)) (trim ys)) = trim xs := by
    rw [← onR_le (f := (· - ·)) (by decide) (n := 12) (by omega) (by omega) (by omega)]
    have := off_on (n := 12) (r := trim xs) (s := trim ys) (by omega) (by omega)
    rw [show onR (· + ·) 12 (trim xs) (trim ys) = onR (· + ·) 12 xs ys from onR_trim (by omega) (by omega), trim_trim] at this
    exact this
  rw [off, n1] at d3
  simp only [Bool.false_eq_true, if_false] at d3
  have t3 := trimmed_ok (xs := xs) (by omega) (a := .sh (iL xs)) (.inl rfl) x5
  have t4 := trimmed_ok (xs := ys) (by omega) (a := .sh (iL ys)) (.inl rfl) x5
  have hfn := hand_fn (p := r6) (c := cnt) p6 (by omega) hc0 x8
  obtain ⟨x9, c1, hb9⟩ := cut_right_ok (xs := xs) (by omega) px (x := x8) (b := b + 12) (hb8.mono (by omega) (by omega)) (by omega)
  obtain ⟨x10, c2, hb10⟩ := cut_right_ok (xs := ys) (by omega) py (x := x9) (b := b) hb9 h0
  have lz : zipD ((pad 12 xs).map D.int) ((pad 12 ys).map D.int) = ((pad 12 xs).zip (pad 12 ys)).map fun p => .tup [.int p.1, .int p.2] := zipD_ints _ _
  have hm : ∀ s1 s2 s3 s4 s5, lcGo (gU 2 (gsC (gN 12) (gsC (gN 13) (gsN)))) tYesC (eOpO [((PySem.Str.ofString "Hands"), m_Hands___add__)] dAdd (eVarT 12) (eVarT 13)) [.sh .box, s1, s2, s3, s4, s5, .no, .no, .no, .no, .no, .no, .no, .no] (((pad 12 xs).zip (pad 12 ys)).map fun p => .tup [.int p.1, .int p.2]) x5 = .ok ((onR (· + ·) 12 xs ys).map D.int) x5 := fun s1 s2 s3 s4 s5 => by
    show _ = R.ok ((List.zipWith (· + ·) (pad 12 xs) (pad 12 ys)).map D.int) x5
    rw [← zip_op]
    exact lc_map (tc := gU 2 (gsC (gN 12) (gsC (gN 13) (gsN)))) (fe := eOpO [((PySem.Str.ofString "Hands"), m_Hands___add__)] dAdd (eVarT 12) (eVarT 13)) (Γ := [.sh .box, s1, s2, s3, s4, s5, .no, .no, .no, .no, .no, .no, .no, .no]) (x := x5) (fun (p : Int × Int) => .tup [.int p.1, .int p.2]) (fun p => .int (p.1 + p.2)) _ fun p _ => ⟨[.sh .box, s1, s2, s3, s4, s5, .no, .no, .no, .no, .no, .no, .sh (.int p.1), .sh (.int p.2)], rfl, by simp⟩
  have hk : ∀ s2 s4 s5 s6, lcGo (gN 12) tYesC (eMulO [((PySem.Str.ofString "Hands"), m_Hands___mul__, m_Hands___rmul__)] dMul (eVarT 12) (eVarT 3)) [.sh .box, .sh (iL xs), s2, .sh (.int far), s4, s5, s6, .no, .no, .no, .no, .no, .no, .no] (xs.map D.int) x5 = .ok ((xs.map (· * far)).map D.int) x5 := fun s2 s4 s5 s6 => by
    rw [List.map_map]
    exact lc_map (tc := gN 12) (fe := eMulO [((PySem.Str.ofString "Hands"), m_Hands___mul__, m_Hands___rmul__)] dMul (eVarT 12) (eVarT 3)) (Γ := [.sh .box, .sh (iL xs), s2, .sh (.int far), s4, s5, s6, .no, .no, .no, .no, .no, .no, .no]) (x := x5) D.int (fun n => .int (n * far)) xs fun n _ => ⟨[.sh .box, .sh (iL xs), s2, .sh (.int far), s4, s5, s6, .no, .no, .no, .no, .no, .sh (.int n), .no], rfl, by simp [mul_r (i := n) (j := far) ⟨by omega, hf1⟩]⟩
  generalize onR (· + ·) 12 xs ys = z at *
  generalize xs.map (· * far) = w at *
  have sA : m__law_same 8 [.sh (.lst [iT (trim z), iT (trim z), iT (trim w), iT (trim w)]), .sh (.lst [iT (trim z), iT (trim z), iT (trim w), iT (trim w)])] x5 = .ok (.bl true) x5 := sm_lst (n := 7) (fun d hd => by
    simp only [List.mem_cons, List.not_mem_nil, or_false] at hd
    rcases hd with rfl | rfl | rfl | rfl
    · exact sm_iT (n := 5) (by omega)
    · exact sm_iT (n := 5) (by omega)
    · exact sm_iT (n := 5) (by omega)
    · exact sm_iT (n := 5) (by omega)) (by simp) x5
  have sB : m__law_same 8 [.sh (.lst [w1, w2]), .sh (.lst [w1, w2])] x5 = .ok (.bl true) x5 := sm_lst (n := 7) (fun d hd => by
    simp only [List.mem_cons, List.not_mem_nil, or_false] at hd
    rcases hd with rfl | rfl
    · exact bl1
    · exact bl2) (by simp) x5
  have sC : m__law_same 8 [.sh (.lst [iT (trim xs), iT (trim xs), iT (trim ys)]), .sh (.lst [iT (trim xs), iT (trim xs), iT (trim ys)])] x5 = .ok (.bl true) x5 := sm_lst (n := 7) (fun d hd => by
    simp only [List.mem_cons, List.not_mem_nil, or_false] at hd
    rcases hd with rfl | rfl | rfl
    · exact sm_iT (n := 5) (by omega)
    · exact sm_iT (n := 5) (by omega)
    · exact sm_iT (n := 5) (by omega)) (by simp) x5
  have sD : m__law_same 8 [.sh (iT (if 0 < cnt then cnt :: List.replicate r6.toNat 0 else [])), .sh (iT (if 0 < cnt then cnt :: List.replicate r6.toNat 0 else []))] x8 = .ok (.bl true) x8 := sm_iT (n := 6) (by split <;> simp <;> omega) x8
  refine ⟨x10, m_rt (g := g__law_case_right) ?_, hb10⟩
  unfold g__law_case_right
  refine sq_nx (Γ1 := [.sh .box, .sh (iL xs), .sh (iL ys'), .no, .no, .no, .no, .no, .no, .no, .no, .no, .no, .no]) (x1 := x2) (by simp at u1 u2; simp [e1, e2, u1, u2]) ?_
  refine sq_nx (Γ1 := [.sh .box, .sh (iL xs), .sh (iL ys'), .sh (.int far), .no, .no, .no, .no, .no, .no, .no, .no, .no, .no]) (x1 := x4) (by simp [hp9, e3, e4]) ?_
  refine sq_nx (Γ1 := [.sh .box, .sh (iL xs), .sh (iL ys), .sh (.int far), .no, .no, .no, .no, .no, .no, .no, .no, .no, .no]) (x1 := x5) (by
    by_cases h : r5 = 0
    · rw [if_pos h] at hy
      subst hy
      simp [e5, h]
    · rw [if_neg h] at hy
      subst hy
      simp [e5, h]) ?_
  refine sq_nx (Γ1 := [.sh .box, .sh (iL xs), .sh (iL ys), .sh (.int far), .sh (hands (trim xs)), .sh (hands (trim ys)), .no, .no, .no, .no, .no, .no, .no, .no]) (x1 := x5) (by simp [srcs, Src.get, i1, i2]) ?_
  refine sq_nx (Γ1 := [.sh .box, .sh (iL xs), .sh (iL ys), .sh (.int far), .sh (hands (trim xs)), .sh (hands (trim ys)), .sh (iT (trim z)), .no, .no, .no, .no, .no, .no, .no]) (x1 := x5) (by simp at s1 s2 t1 hm; simp [s1, s2, lz, hm, t1, pl1, pl2]) ?_
  refine sq_nx (Γ1 := [.sh .box, .sh (iL xs), .sh (iL ys), .sh (.int far), .sh (hands (trim xs)), .sh (hands (trim ys)), .sh (iT (trim z)), .sh (iT (trim w)), .no, .no, .no, .no, .no, .no]) (x1 := x5) (by simp at t2 hk; simp [hk, t2, show xs.length ≤ 100000 by omega]) ?_
  refine sq_nx (Γ1 := [.sh .box, .sh (iL xs), .sh (iL ys), .sh (.int far), .sh (hands (trim xs)), .sh (hands (trim ys)), .sh (iT (trim z)), .sh (iT (trim w)), .sh (.lst [iT (trim z), iT (trim z), iT (trim w), iT (trim w)]), .no, .no, .no, .no, .no]) (x1 := x5) (by simp [o_own, a1, a2, hands_mul, hands_rmul, mm, mr, at_numbers]) ?_
  refine sq_nx (Γ1 := [.sh .box, .sh (iL xs), .sh (iL ys), .sh (.int far), .sh (hands (trim xs)), .sh (hands (trim ys)), .sh (iT (trim z)), .sh (iT (trim w)), .sh (.lst [iT (trim z), iT (trim z), iT (trim w), iT (trim w)]), .no, .no, .no, .no, .no]) (x1 := x5) (by simp at sA; simp [sA]) ?_
  refine sq_nx (Γ1 := [.sh .box, .sh (iL xs), .sh (iL ys), .sh (.int far), .sh (hands (trim xs)), .sh (hands (trim ys)), .sh (iT (trim z)), .sh (iT (trim w)), .sh (.lst [w1, w2]), .no, .no, .no, .no, .no]) (x1 := x5) (by simp [d1, d2]) ?_
  refine sq_nx (Γ1 := [.sh .box, .sh (iL xs), .sh (iL ys), .sh (.int far), .sh (hands (trim xs)), .sh (hands (trim ys)), .sh (iT (trim z)), .sh (iT (trim w)), .sh (.lst [w1, w2]), .no, .no, .no, .no, .no]) (x1 := x5) (by simp at g1 g2; simp [g1, g2, sB]) ?_
  refine sq_nx (Γ1 := [.sh .box, .sh (iL xs), .sh (iL ys), .sh (.int far), .sh (hands (trim xs)), .sh (hands (trim ys)), .sh (iT (trim z)), .sh (iT (trim w)), .sh (.lst [iT (trim xs), iT (trim xs), iT (trim ys)]), .no, .no, .no, .no, .no]) (x1 := x5) (by simp at d3; simp [o_own, a1, d3, at_numbers]) ?_
  refine sq_nx (Γ1 := [.sh .box, .sh (iL xs), .sh (iL ys), .sh (.int far), .sh (hands (trim xs)), .sh (hands (trim ys)), .sh (iT (trim z)), .sh (iT (trim w)), .sh (.lst [iT (trim xs), iT (trim xs), iT (trim ys)]), .no, .no, .no, .no, .no]) (x1 := x5) (by simp at t3 t4 sC; simp [t3, t4, sC]) ?_
  refine sq_nx (Γ1 := [.sh .box, .sh (iL xs), .sh (iL ys), .sh (.int far), .sh (hands (trim xs)), .sh (hands (trim ys)), .sh (iT (trim z)), .sh (iT (trim w)), .sh (.lst [iT (trim xs), iT (trim xs), iT (trim ys)]), .sh (.int r6), .sh (.int cnt), .no, .no, .no]) (x1 := x8) (by simp [e6, e7, e8, hp30]) ?_
  refine sq_nx (Γ1 := [.sh .box, .sh (iL xs), .sh (iL ys), .sh (.int far), .sh (hands (trim xs)), .sh (hands (trim ys)), .sh (iT (trim z)), .sh (iT (trim w)), .sh (.lst [iT (trim xs), iT (trim xs), iT (trim ys)]), .sh (.int r6), .sh (.int cnt), .sh (iT (if 0 < cnt then cnt :: List.replicate r6.toNat 0 else [])), .no, .no]) (x1 := x8) (by
    have ht := mulT_ok (d := .int 0) (k := r6) ⟨p6, by omega⟩
    have ha := dAddT (a := [.int cnt]) (b := List.replicate r6.toNat (D.int 0)) (by simp; omega)
    by_cases h : 0 < cnt
    · simp [h, ht, ha]
    · simp [h]) ?_
  refine sq_nx (Γ1 := [.sh .box, .sh (iL xs), .sh (iL ys), .sh (.int far), .sh (hands (trim xs)), .sh (hands (trim ys)), .sh (iT (trim z)), .sh (iT (trim w)), .sh (.lst [iT (trim xs), iT (trim xs), iT (trim ys)]), .sh (.int r6), .sh (.int cnt), .sh (iT (if 0 < cnt then cnt :: List.replicate r6.toNat 0 else [])), .no, .no]) (x1 := x8) (by simp at sD; simp [srcs, Src.get, hfn, at_numbers, sD]) ?_
  simp at c1 c2
  simp [c1, c2]
theorem hand_ok (x : Bx) : m__law_by_hand_right [] x = .ok (.bl true) x := by kernel_rfl
theorem cases_go {b : Int} : ∀ (ds : List D) (x : Bx), BG x (b + 200 * ds.length) → 0 ≤ b → ∃ x', lcGo (gN 1) tYesC (eCall (lenOk 1 m__law_case_right) [] (aVar 0 (aNil))) [.sh .box, .no] ds x = .ok (ds.map fun _ => .bl true) x' ∧ BG x' b
  | [], x, hb, h0 => ⟨x, rfl, by simpa using hb⟩
  | d :: ds, x, hb, h0 => by
    obtain ⟨x1, e1, hb1⟩ := case_ok (x := x) (b := b + 200 * ds.length) (by rw [List.length_cons] at hb; rw [show b + 200 * (ds.length : Int) + 200 = b + 200 * ((ds.length + 1 : Nat) : Int) by omega]; exact hb) (by omega)
    obtain ⟨x2, e2, hb2⟩ := cases_go (b := b) ds x1 hb1 h0
    refine ⟨x2, ?_, hb2⟩
    rw [q_lccons (Γ1 := [.sh .box, .sh d]) rfl]
    simp [e1, e2]
theorem right_ok {x : Bx} (hb : BG x (2 ^ 40)) : ∃ x', m__law_right [.sh .box] x = .ok (.bl true) x' := by
  have hg := rng1_is (k := 6) ⟨by omega, by omega⟩
  have hr : (rangeD 0 6).length = 6 := by decide
  obtain ⟨x', e, _⟩ := cases_go (b := 0) (rangeD 0 6) x (by rw [hr]; exact hb.mono (by omega) (by omega)) (by omega)
  refine ⟨x', ?_⟩
  simp [m__law_right, g__law_right, hand_ok, hg, hr, e, all_true]
theorem law_ok (ns : List Int) (hn : ns.length ≤ 63) (x : Bx) : m_law [.sh (.scr ns)] x = .ok (.bl true) x := law_fin (fun x hb => right_ok hb) ns hn x
end LW

namespace LW
open PySem PySem.Spec PyProof.Rows L2 DL
theorem ow_no_Hands (c : Str) (k : Bool) (h : c = (PySem.Str.ofString "BelowZero") ∨ c = (PySem.Str.ofString "BadLine")) : is_Hands.lookup (.ow c) ≠ some k := by
  rcases h with rfl | rfl <;> (rw [show is_Hands.lookup (.ow _) = none by decide +kernel]; exact fun h => nomatch h)
theorem xc_no_Hands (c : Str) (k : Bool) (h : c = (PySem.Str.ofString "Hands")) : is_Hands.lookup (.xc c) ≠ some k := by
  rcases h with rfl <;> (rw [show is_Hands.lookup (.xc _) = none by decide +kernel]; exact fun h => nomatch h)
theorem no_late_Hands (k : Bool) : is_Hands.lookup (.xc (PySem.Str.ofString "LateError")) ≠ some k := by rw [show is_Hands.lookup (.xc (PySem.Str.ofString "LateError")) = none by decide +kernel]; exact fun h => nomatch h
theorem no_lateO_Hands (k : Bool) : is_Hands.lookup (.ow (PySem.Str.ofString "LateError")) ≠ some k := by rw [show is_Hands.lookup (.ow (PySem.Str.ofString "LateError")) = none by decide +kernel]; exact fun h => nomatch h
theorem ow_no_bool (c : Str) (k : Bool) (h : c = (PySem.Str.ofString "BelowZero") ∨ c = (PySem.Str.ofString "BadLine")) : is_bool.lookup (.ow c) ≠ some k := by
  rcases h with rfl | rfl <;> (rw [show is_bool.lookup (.ow _) = none by decide +kernel]; exact fun h => nomatch h)
theorem xc_no_bool (c : Str) (k : Bool) (h : c = (PySem.Str.ofString "Hands")) : is_bool.lookup (.xc c) ≠ some k := by
  rcases h with rfl <;> (rw [show is_bool.lookup (.xc _) = none by decide +kernel]; exact fun h => nomatch h)
theorem no_late_bool (k : Bool) : is_bool.lookup (.xc (PySem.Str.ofString "LateError")) ≠ some k := by rw [show is_bool.lookup (.xc (PySem.Str.ofString "LateError")) = none by decide +kernel]; exact fun h => nomatch h
theorem no_lateO_bool (k : Bool) : is_bool.lookup (.ow (PySem.Str.ofString "LateError")) ≠ some k := by rw [show is_bool.lookup (.ow (PySem.Str.ofString "LateError")) = none by decide +kernel]; exact fun h => nomatch h
theorem ow_no_int (c : Str) (k : Bool) (h : c = (PySem.Str.ofString "BelowZero") ∨ c = (PySem.Str.ofString "BadLine")) : is_int.lookup (.ow c) ≠ some k := by
  rcases h with rfl | rfl <;> (rw [show is_int.lookup (.ow _) = none by decide +kernel]; exact fun h => nomatch h)
theorem xc_no_int (c : Str) (k : Bool) (h : c = (PySem.Str.ofString "Hands")) : is_int.lookup (.xc c) ≠ some k := by
  rcases h with rfl <;> (rw [show is_int.lookup (.xc _) = none by decide +kernel]; exact fun h => nomatch h)
theorem no_late_int (k : Bool) : is_int.lookup (.xc (PySem.Str.ofString "LateError")) ≠ some k := by rw [show is_int.lookup (.xc (PySem.Str.ofString "LateError")) = none by decide +kernel]; exact fun h => nomatch h
theorem no_lateO_int (k : Bool) : is_int.lookup (.ow (PySem.Str.ofString "LateError")) ≠ some k := by rw [show is_int.lookup (.ow (PySem.Str.ofString "LateError")) = none by decide +kernel]; exact fun h => nomatch h
theorem ow_no_list (c : Str) (k : Bool) (h : c = (PySem.Str.ofString "BelowZero") ∨ c = (PySem.Str.ofString "BadLine")) : is_list.lookup (.ow c) ≠ some k := by
  rcases h with rfl | rfl <;> (rw [show is_list.lookup (.ow _) = none by decide +kernel]; exact fun h => nomatch h)
theorem xc_no_list (c : Str) (k : Bool) (h : c = (PySem.Str.ofString "Hands")) : is_list.lookup (.xc c) ≠ some k := by
  rcases h with rfl <;> (rw [show is_list.lookup (.xc _) = none by decide +kernel]; exact fun h => nomatch h)
theorem no_late_list (k : Bool) : is_list.lookup (.xc (PySem.Str.ofString "LateError")) ≠ some k := by rw [show is_list.lookup (.xc (PySem.Str.ofString "LateError")) = none by decide +kernel]; exact fun h => nomatch h
theorem no_lateO_list (k : Bool) : is_list.lookup (.ow (PySem.Str.ofString "LateError")) ≠ some k := by rw [show is_list.lookup (.ow (PySem.Str.ofString "LateError")) = none by decide +kernel]; exact fun h => nomatch h
theorem ow_no_tuple (c : Str) (k : Bool) (h : c = (PySem.Str.ofString "BelowZero") ∨ c = (PySem.Str.ofString "BadLine")) : is_tuple.lookup (.ow c) ≠ some k := by
  rcases h with rfl | rfl <;> (rw [show is_tuple.lookup (.ow _) = none by decide +kernel]; exact fun h => nomatch h)
theorem xc_no_tuple (c : Str) (k : Bool) (h : c = (PySem.Str.ofString "Hands")) : is_tuple.lookup (.xc c) ≠ some k := by
  rcases h with rfl <;> (rw [show is_tuple.lookup (.xc _) = none by decide +kernel]; exact fun h => nomatch h)
theorem no_late_tuple (k : Bool) : is_tuple.lookup (.xc (PySem.Str.ofString "LateError")) ≠ some k := by rw [show is_tuple.lookup (.xc (PySem.Str.ofString "LateError")) = none by decide +kernel]; exact fun h => nomatch h
theorem no_lateO_tuple (k : Bool) : is_tuple.lookup (.ow (PySem.Str.ofString "LateError")) ≠ some k := by rw [show is_tuple.lookup (.ow (PySem.Str.ofString "LateError")) = none by decide +kernel]; exact fun h => nomatch h
theorem owt_no_bool_str (c : Str) (k : Bool) (h : c = (PySem.Str.ofString "BelowZero") ∨ c = (PySem.Str.ofString "BadLine")) : it_bool_str.lookup (.ow c) ≠ some k := by
  rcases h with rfl | rfl <;> (rw [show it_bool_str.lookup (.ow _) = none by decide +kernel]; exact fun h => nomatch h)
theorem no_lateT_bool_str (k : Bool) : it_bool_str.lookup (.ow (PySem.Str.ofString "LateError")) ≠ some k := by rw [show it_bool_str.lookup (.ow (PySem.Str.ofString "LateError")) = none by decide +kernel]; exact fun h => nomatch h
theorem no_xct_bool_str (c : Str) (k : Bool) : it_bool_str.lookup (.xc c) ≠ some k := by intro h; have := lookup_mem h; simp [it_bool_str] at this
theorem owt_no_list_tuple (c : Str) (k : Bool) (h : c = (PySem.Str.ofString "BelowZero") ∨ c = (PySem.Str.ofString "BadLine")) : it_list_tuple.lookup (.ow c) ≠ some k := by
  rcases h with rfl | rfl <;> (rw [show it_list_tuple.lookup (.ow _) = none by decide +kernel]; exact fun h => nomatch h)
theorem no_lateT_list_tuple (k : Bool) : it_list_tuple.lookup (.ow (PySem.Str.ofString "LateError")) ≠ some k := by rw [show it_list_tuple.lookup (.ow (PySem.Str.ofString "LateError")) = none by decide +kernel]; exact fun h => nomatch h
theorem no_xct_list_tuple (c : Str) (k : Bool) : it_list_tuple.lookup (.xc c) ≠ some k := by intro h; have := lookup_mem h; simp [it_list_tuple] at this
end LW
namespace LW
open PySem PySem.Spec PyProof.Rows L2 DL
abbrev s_BelowZero : Stmt := inC 2 0
theorem sc_BelowZero : FnScope [(PySem.Str.ofString "self")] [(PySem.Str.ofString "self")] (defScope s_BelowZero) := ⟨rfl, rfl, rfl, by decide +kernel, rfl, by decide +kernel, by decide +kernel⟩
abbrev s_BadLine : Stmt := inC 3 0
theorem sc_BadLine : FnScope [(PySem.Str.ofString "self"), (PySem.Str.ofString "number")] [(PySem.Str.ofString "self"), (PySem.Str.ofString "number")] (defScope s_BadLine) := ⟨rfl, rfl, rfl, by decide +kernel, rfl, by decide +kernel, by decide +kernel⟩
/-- the addresses -/
def adOf (f1 f2 f3 f9 f10 f12 f14 f15 f16 f17 f18 f19 f20 f21 f22 f23 f24 f25 f26 f27 f28 f29 f30 f1002 f1003 f2000 f2001 f2003 f2006 f2007 f2010 f2011 f2012 f2013 f2014 f2015 f3000 f3002 f4000 f4001 : Addr) : Nat → Addr
  | 1 => f1
  | 2 => f2
  | 3 => f3
  | 9 => f9
  | 10 => f10
  | 12 => f12
  | 14 => f14
  | 15 => f15
  | 16 => f16
  | 17 => f17
  | 18 => f18
  | 19 => f19
  | 20 => f20
  | 21 => f21
  | 22 => f22
  | 23 => f23
  | 24 => f24
  | 25 => f25
  | 26 => f26
  | 27 => f27
  | 28 => f28
  | 29 => f29
  | 30 => f30
  | 1002 => f1002
  | 1003 => f1003
  | 2000 => f2000
  | 2001 => f2001
  | 2003 => f2003
  | 2006 => f2006
  | 2007 => f2007
  | 2010 => f2010
  | 2011 => f2011
  | 2012 => f2012
  | 2013 => f2013
  | 2014 => f2014
  | 2015 => f2015
  | 3000 => f3000
  | 3002 => f3002
  | 4000 => f4000
  | 4001 => f4001
  | _ => 0
def fdOf (d10 d12 d14 d15 d16 d17 d18 d19 d20 d21 d22 d23 d24 d25 d26 d27 d28 d29 d30 d1002 d1003 d2000 d2001 d2003 d2006 d2007 d2010 d2011 d2012 d2013 d2014 d2015 : FuncData) : Nat → FuncData
  | 10 => d10
  | 12 => d12
  | 14 => d14
  | 15 => d15
  | 16 => d16
  | 17 => d17
  | 18 => d18
  | 19 => d19
  | 20 => d20
  | 21 => d21
  | 22 => d22
  | 23 => d23
  | 24 => d24
  | 25 => d25
  | 26 => d26
  | 27 => d27
  | 28 => d28
  | 29 => d29
  | 30 => d30
  | 1002 => d1002
  | 1003 => d1003
  | 2000 => d2000
  | 2001 => d2001
  | 2003 => d2003
  | 2006 => d2006
  | 2007 => d2007
  | 2010 => d2010
  | 2011 => d2011
  | 2012 => d2012
  | 2013 => d2013
  | 2014 => d2014
  | 2015 => d2015
  | _ => d10
set_option maxHeartbeats 16000000 in
theorem all_mk {l : PySem.W.OpenLaw} {w : World} {K : PySem.W.Frag} {h : Heap} {mg : Str → Option Value} {fa : Addr} (X : K.In h) (G : h.Ns mainGlobals mg) (hfa : mg "law" = some (.ref fa))
    {f1 f2 f3 f9 f10 f12 f14 f15 f16 f17 f18 f19 f20 f21 f22 f23 f24 f25 f26 f27 f28 f29 f30 f1002 f1003 f2000 f2001 f2003 f2006 f2007 f2010 f2011 f2012 f2013 f2014 f2015 f3000 f3002 f4000 f4001 : Addr}
    {od10 an10 od12 an12 od14 an14 od15 an15 od16 an16 od17 an17 od18 an18 od19 an19 od20 an20 od21 an21 od22 an22 od23 an23 od24 an24 od25 an25 od26 an26 od27 an27 od28 an28 od29 an29 od30 an30 od1002 an1002 od1003 an1003 od2000 an2000 od2001 an2001 od2003 an2003 od2006 an2006 od2007 an2007 od2010 an2010 od2011 an2011 od2012 an2012 od2013 an2013 od2014 an2014 od2015 an2015 : Option Addr} {sl10 sl12 sl14 sl15 sl16 sl17 sl18 sl19 sl20 sl21 sl22 sl23 sl24 sl25 sl26 sl27 sl28 sl29 sl30 sl1002 sl1003 sl2000 sl2001 sl2003 sl2006 sl2007 sl2010 sl2011 sl2012 sl2013 sl2014 sl2015 : Array (Option Value)} {oc10 kV10 dc10 pm10 cd10 ct10 oc12 kV12 dc12 pm12 cd12 ct12 oc14 kV14 dc14 pm14 cd14 ct14 oc15 kV15 dc15 pm15 cd15 ct15 oc16 kV16 dc16 pm16 cd16 ct16 oc17 kV17 dc17 pm17 cd17 ct17 oc18 kV18 dc18 pm18 cd18 ct18 oc19 kV19 dc19 pm19 cd19 ct19 oc20 kV20 dc20 pm20 cd20 ct20 oc21 kV21 dc21 pm21 cd21 ct21 oc22 kV22 dc22 pm22 cd22 ct22 oc23 kV23 dc23 pm23 cd23 ct23 oc24 kV24 dc24 pm24 cd24 ct24 oc25 kV25 dc25 pm25 cd25 ct25 oc26 kV26 dc26 pm26 cd26 ct26 oc27 kV27 dc27 pm27 cd27 ct27 oc28 kV28 dc28 pm28 cd28 ct28 oc29 kV29 dc29 pm29 cd29 ct29 oc30 kV30 dc30 pm30 cd30 ct30 oc1002 kV1002 dc1002 pm1002 cd1002 ct1002 oc1003 kV1003 dc1003 pm1003 cd1003 ct1003 oc2000 kV2000 dc2000 pm2000 cd2000 ct2000 oc2001 kV2001 dc2001 pm2001 cd2001 ct2001 oc2003 kV2003 dc2003 pm2003 cd2003 ct2003 oc2006 kV2006 dc2006 pm2006 cd2006 ct2006 oc2007 kV2007 dc2007 pm2007 cd2007 ct2007 oc2010 kV2010 dc2010 pm2010 cd2010 ct2010 oc2011 kV2011 dc2011 pm2011 cd2011 ct2011 oc2012 kV2012 dc2012 pm2012 cd2012 ct2012 oc2013 kV2013 dc2013 pm2013 cd2013 ct2013 oc2014 kV2014 dc2014 pm2014 cd2014 ct2014 oc2015 kV2015 dc2015 pm2015 cd2015 ct2015 : Value}
    {nm2 qn2 nm3 qn3 : Str} {N2 N3 : Addr} {bs2 bm2 sub2 bs3 bm3 sub3 : List Value} {sn2 sn3 : List Str} {ab2 ab3 : Bool} {col2 col3 : Option Bool} {dd2 dd3 : Option Addr} {u2 v2 y2 z2 p2 u3 v3 y3 z3 p3 : Option Value}
    {rs3000 rs3002 : List Value}
    {tT4000 tT4001 : Addr} {tc4000 tc4001 : Value} {td4000 te4000 td4001 : Option Addr} {tn4000 tm4000 tn4001 : Nat} {ts4000 tr4000 ts4001 : Array (Option Value)}
    {dk4001_0 : Tok}
    (a16 : PySem.W.nsIn K mainGlobals (PySem.Str.ofString "_law_cells") = some (some (.ref f16)))
    (a10 : PySem.W.nsIn K mainGlobals (PySem.Str.ofString "side_by_side") = some (some (.ref f10)))
    (a18 : PySem.W.nsIn K mainGlobals (PySem.Str.ofString "_law_same") = some (some (.ref f18)))
    (a23 : PySem.W.nsIn K mainGlobals (PySem.Str.ofString "_law_minus") = some (some (.ref f23)))
    (a12 : PySem.W.nsIn K mainGlobals (PySem.Str.ofString "hand") = some (some (.ref f12)))
    (a27 : PySem.W.nsIn K mainGlobals (PySem.Str.ofString "_law_by_hand_right") = some (some (.ref f27)))
    (a15 : PySem.W.nsIn K mainGlobals (PySem.Str.ofString "_law_take") = some (some (.ref f15)))
    (a17 : PySem.W.nsIn K mainGlobals (PySem.Str.ofString "_law_of") = some (some (.ref f17)))
    (a19 : PySem.W.nsIn K mainGlobals (PySem.Str.ofString "_law_trimmed") = some (some (.ref f19)))
    (a21 : PySem.W.nsIn K mainGlobals (PySem.Str.ofString "_law_up") = some (some (.ref f21)))
    (a25 : PySem.W.nsIn K mainGlobals (PySem.Str.ofString "_law_cut_due") = some (some (.ref f25)))
    (a26 : PySem.W.nsIn K mainGlobals (PySem.Str.ofString "_law_cut_right") = some (some (.ref f26)))
    (a20 : PySem.W.nsIn K mainGlobals (PySem.Str.ofString "_law_line") = some (some (.ref f20)))
    (a22 : PySem.W.nsIn K mainGlobals (PySem.Str.ofString "_law_side") = some (some (.ref f22)))
    (a24 : PySem.W.nsIn K mainGlobals (PySem.Str.ofString "_law_due_minus") = some (some (.ref f24)))
    (a28 : PySem.W.nsIn K mainGlobals (PySem.Str.ofString "_law_case_right") = some (some (.ref f28)))
    (a29 : PySem.W.nsIn K mainGlobals (PySem.Str.ofString "_law_right") = some (some (.ref f29)))
    (a14 : PySem.W.nsIn K mainGlobals (PySem.Str.ofString "_law_box") = some (some (.ref f14)))
    (a30 : PySem.W.nsIn K mainGlobals (PySem.Str.ofString "law") = some (some (.ref f30)))
    (a1 : PySem.W.nsIn K mainGlobals (PySem.Str.ofString "LateError") = some (some (.ref f1)))
    (a2 : PySem.W.nsIn K mainGlobals (PySem.Str.ofString "BelowZero") = some (some (.ref f2)))
    (a3 : PySem.W.nsIn K mainGlobals (PySem.Str.ofString "BadLine") = some (some (.ref f3)))
    (a9 : PySem.W.nsIn K mainGlobals (PySem.Str.ofString "Hands") = some (some (.ref f9)))
    (x2 : K.lookup f2 = some (excClassObj nm2 qn2 f2 N2 bs2 bm2 true sn2 sub2 ab2 col2 dd2 u2 v2 y2 z2 p2 "ValueError.__new__"))
    (m2 : PySem.HandSPX.refsVE bm2 = true)
    (i2 : PySem.W.findIn K (.ref f2) "__init__" = some (some (.ref f1002)))
    (b2 : xcB K f2 f1002 [(PySem.Str.ofString "given")] = true)
    (x3 : K.lookup f3 = some (excClassObj nm3 qn3 f3 N3 bs3 bm3 true sn3 sub3 ab3 col3 dd3 u3 v3 y3 z3 p3 "ValueError.__new__"))
    (m3 : PySem.HandSPX.refsVE bm3 = true)
    (i3 : PySem.W.findIn K (.ref f3) "__init__" = some (some (.ref f1003)))
    (b3 : xcB K f3 f1003 [(PySem.Str.ofString "number")] = true)
    (w2000 : PySem.W.findIn K (.ref f9) (PySem.Str.ofString "__init__") = some (some (.ref f2000)))
    (wb2000 : meB K f9 (PySem.Str.ofString "__init__") f2000 = true)
    (w2011 : PySem.W.findIn K (.ref f9) (PySem.Str.ofString "__add__") = some (some (.ref f2011)))
    (wb2011 : meB K f9 (PySem.Str.ofString "__add__") f2011 = true)
    (w2012 : PySem.W.findIn K (.ref f9) (PySem.Str.ofString "__sub__") = some (some (.ref f2012)))
    (wb2012 : meB K f9 (PySem.Str.ofString "__sub__") f2012 = true)
    (w2013 : PySem.W.findIn K (.ref f9) (PySem.Str.ofString "__mul__") = some (some (.ref f2013)))
    (wb2013 : meB K f9 (PySem.Str.ofString "__mul__") f2013 = true)
    (w2014 : PySem.W.findIn K (.ref f9) (PySem.Str.ofString "__rmul__") = some (some (.ref f2014)))
    (wb2014 : meB K f9 (PySem.Str.ofString "__rmul__") f2014 = true)
    (w2006 : PySem.W.findIn K (.ref f9) (PySem.Str.ofString "__eq__") = some (some (.ref f2006)))
    (wb2006 : meB K f9 (PySem.Str.ofString "__eq__") f2006 = true)
    (w2015 : PySem.W.findIn K (.ref f9) (PySem.Str.ofString "cut") = some (some (.ref f2015)))
    (wb2015 : meB K f9 (PySem.Str.ofString "cut") f2015 = true)
    (w2007 : PySem.W.findIn K (.ref f9) (PySem.Str.ofString "__lt__") = some (some (.ref f2007)))
    (wb2007 : meB K f9 (PySem.Str.ofString "__lt__") f2007 = true)
    (w2010 : PySem.W.findIn K (.ref f9) (PySem.Str.ofString "__ge__") = some (some (.ref f2010)))
    (wb2010 : meB K f9 (PySem.Str.ofString "__ge__") f2010 = true)
    (w3000 : PySem.W.findIn K (.ref f9) (PySem.Str.ofString "numbers") = some (some (.ref f3000)))
    (r3000 : PySem.W.recIn K f3000 "property" = some (.ref f2001 :: rs3000))
    (wb3000 : prB K f9 (PySem.Str.ofString "numbers") f3000 = true)
    (w3002 : PySem.W.findIn K (.ref f9) (PySem.Str.ofString "plain") = some (some (.ref f3002)))
    (r3002 : PySem.W.recIn K f3002 "property" = some (.ref f2003 :: rs3002))
    (wb3002 : prB K f9 (PySem.Str.ofString "plain") f3002 = true)
    (cb9 : clB K f9 = true)
    (na9 : naB K f9 [(PySem.Str.ofString "own_key"), (PySem.Str.ofString "own_numbers")] = true)
    (su9 : suB K f9 = true)
    (au9_Add : PySem.W.auB K f9 (PySem.Str.ofString "__iadd__") = true)
    (au9_Sub : PySem.W.auB K f9 (PySem.Str.ofString "__isub__") = true)
    (l10 : K.lookup f10 = some ⟨oc10, od10, .func (PySem.W.fnOf (PySem.Str.ofString "side_by_side") (PySem.Str.ofString "side_by_side") (defArgs s_side_by_side) (defBody s_side_by_side) (defScope s_side_by_side) .none kV10 dc10 pm10 an10 cd10 ct10), sl10⟩)
    (c10 : PySem.W.codeIn K cd10 (PySem.Str.ofString "side_by_side") = true)
    (k10 : PySem.W.keepIn K (.ref f10) = true)
    (l12 : K.lookup f12 = some ⟨oc12, od12, .func (PySem.W.fnOf (PySem.Str.ofString "hand") (PySem.Str.ofString "hand") (defArgs s_hand) (defBody s_hand) (defScope s_hand) (.ref tT4001) kV12 dc12 pm12 an12 cd12 ct12), sl12⟩)
    (c12 : PySem.W.codeIn K cd12 (PySem.Str.ofString "hand") = true)
    (k12 : PySem.W.keepIn K (.ref f12) = true)
    (l14 : K.lookup f14 = some ⟨oc14, od14, .func (PySem.W.fnOf (PySem.Str.ofString "_law_box") (PySem.Str.ofString "_law_box") (defArgs s__law_box) (defBody s__law_box) (defScope s__law_box) .none kV14 dc14 pm14 an14 cd14 ct14), sl14⟩)
    (c14 : PySem.W.codeIn K cd14 (PySem.Str.ofString "_law_box") = true)
    (k14 : PySem.W.keepIn K (.ref f14) = true)
    (l15 : K.lookup f15 = some ⟨oc15, od15, .func (PySem.W.fnOf (PySem.Str.ofString "_law_take") (PySem.Str.ofString "_law_take") (defArgs s__law_take) (defBody s__law_take) (defScope s__law_take) .none kV15 dc15 pm15 an15 cd15 ct15), sl15⟩)
    (c15 : PySem.W.codeIn K cd15 (PySem.Str.ofString "_law_take") = true)
    (k15 : PySem.W.keepIn K (.ref f15) = true)
    (l16 : K.lookup f16 = some ⟨oc16, od16, .func (PySem.W.fnOf (PySem.Str.ofString "_law_cells") (PySem.Str.ofString "_law_cells") (defArgs s__law_cells) (defBody s__law_cells) (defScope s__law_cells) .none kV16 dc16 pm16 an16 cd16 ct16), sl16⟩)
    (c16 : PySem.W.codeIn K cd16 (PySem.Str.ofString "_law_cells") = true)
    (k16 : PySem.W.keepIn K (.ref f16) = true)
    (l17 : K.lookup f17 = some ⟨oc17, od17, .func (PySem.W.fnOf (PySem.Str.ofString "_law_of") (PySem.Str.ofString "_law_of") (defArgs s__law_of) (defBody s__law_of) (defScope s__law_of) .none kV17 dc17 pm17 an17 cd17 ct17), sl17⟩)
    (c17 : PySem.W.codeIn K cd17 (PySem.Str.ofString "_law_of") = true)
    (k17 : PySem.W.keepIn K (.ref f17) = true)
    (l18 : K.lookup f18 = some ⟨oc18, od18, .func (PySem.W.fnOf (PySem.Str.ofString "_law_same") (PySem.Str.ofString "_law_same") (defArgs s__law_same) (defBody s__law_same) (defScope s__law_same) .none kV18 dc18 pm18 an18 cd18 ct18), sl18⟩)
    (c18 : PySem.W.codeIn K cd18 (PySem.Str.ofString "_law_same") = true)
    (k18 : PySem.W.keepIn K (.ref f18) = true)
    (l19 : K.lookup f19 = some ⟨oc19, od19, .func (PySem.W.fnOf (PySem.Str.ofString "_law_trimmed") (PySem.Str.ofString "_law_trimmed") (defArgs s__law_trimmed) (defBody s__law_trimmed) (defScope s__law_trimmed) .none kV19 dc19 pm19 an19 cd19 ct19), sl19⟩)
    (c19 : PySem.W.codeIn K cd19 (PySem.Str.ofString "_law_trimmed") = true)
    (k19 : PySem.W.keepIn K (.ref f19) = true)
    (l20 : K.lookup f20 = some ⟨oc20, od20, .func (PySem.W.fnOf (PySem.Str.ofString "_law_line") (PySem.Str.ofString "_law_line") (defArgs s__law_line) (defBody s__law_line) (defScope s__law_line) .none kV20 dc20 pm20 an20 cd20 ct20), sl20⟩)
    (c20 : PySem.W.codeIn K cd20 (PySem.Str.ofString "_law_line") = true)
    (k20 : PySem.W.keepIn K (.ref f20) = true)
    (l21 : K.lookup f21 = some ⟨oc21, od21, .func (PySem.W.fnOf (PySem.Str.ofString "_law_up") (PySem.Str.ofString "_law_up") (defArgs s__law_up) (defBody s__law_up) (defScope s__law_up) .none kV21 dc21 pm21 an21 cd21 ct21), sl21⟩)
    (c21 : PySem.W.codeIn K cd21 (PySem.Str.ofString "_law_up") = true)
    (k21 : PySem.W.keepIn K (.ref f21) = true)
    (l22 : K.lookup f22 = some ⟨oc22, od22, .func (PySem.W.fnOf (PySem.Str.ofString "_law_side") (PySem.Str.ofString "_law_side") (defArgs s__law_side) (defBody s__law_side) (defScope s__law_side) .none kV22 dc22 pm22 an22 cd22 ct22), sl22⟩)
    (c22 : PySem.W.codeIn K cd22 (PySem.Str.ofString "_law_side") = true)
    (k22 : PySem.W.keepIn K (.ref f22) = true)
    (l23 : K.lookup f23 = some ⟨oc23, od23, .func (PySem.W.fnOf (PySem.Str.ofString "_law_minus") (PySem.Str.ofString "_law_minus") (defArgs s__law_minus) (defBody s__law_minus) (defScope s__law_minus) .none kV23 dc23 pm23 an23 cd23 ct23), sl23⟩)
    (c23 : PySem.W.codeIn K cd23 (PySem.Str.ofString "_law_minus") = true)
    (k23 : PySem.W.keepIn K (.ref f23) = true)
    (l24 : K.lookup f24 = some ⟨oc24, od24, .func (PySem.W.fnOf (PySem.Str.ofString "_law_due_minus") (PySem.Str.ofString "_law_due_minus") (defArgs s__law_due_minus) (defBody s__law_due_minus) (defScope s__law_due_minus) .none kV24 dc24 pm24 an24 cd24 ct24), sl24⟩)
    (c24 : PySem.W.codeIn K cd24 (PySem.Str.ofString "_law_due_minus") = true)
    (k24 : PySem.W.keepIn K (.ref f24) = true)
    (l25 : K.lookup f25 = some ⟨oc25, od25, .func (PySem.W.fnOf (PySem.Str.ofString "_law_cut_due") (PySem.Str.ofString "_law_cut_due") (defArgs s__law_cut_due) (defBody s__law_cut_due) (defScope s__law_cut_due) .none kV25 dc25 pm25 an25 cd25 ct25), sl25⟩)
    (c25 : PySem.W.codeIn K cd25 (PySem.Str.ofString "_law_cut_due") = true)
    (k25 : PySem.W.keepIn K (.ref f25) = true)
    (l26 : K.lookup f26 = some ⟨oc26, od26, .func (PySem.W.fnOf (PySem.Str.ofString "_law_cut_right") (PySem.Str.ofString "_law_cut_right") (defArgs s__law_cut_right) (defBody s__law_cut_right) (defScope s__law_cut_right) .none kV26 dc26 pm26 an26 cd26 ct26), sl26⟩)
    (c26 : PySem.W.codeIn K cd26 (PySem.Str.ofString "_law_cut_right") = true)
    (k26 : PySem.W.keepIn K (.ref f26) = true)
    (l27 : K.lookup f27 = some ⟨oc27, od27, .func (PySem.W.fnOf (PySem.Str.ofString "_law_by_hand_right") (PySem.Str.ofString "_law_by_hand_right") (defArgs s__law_by_hand_right) (defBody s__law_by_hand_right) (defScope s__law_by_hand_right) .none kV27 dc27 pm27 an27 cd27 ct27), sl27⟩)
    (c27 : PySem.W.codeIn K cd27 (PySem.Str.ofString "_law_by_hand_right") = true)
    (k27 : PySem.W.keepIn K (.ref f27) = true)
    (l28 : K.lookup f28 = some ⟨oc28, od28, .func (PySem.W.fnOf (PySem.Str.ofString "_law_case_right") (PySem.Str.ofString "_law_case_right") (defArgs s__law_case_right) (defBody s__law_case_right) (defScope s__law_case_right) .none kV28 dc28 pm28 an28 cd28 ct28), sl28⟩)
    (c28 : PySem.W.codeIn K cd28 (PySem.Str.ofString "_law_case_right") = true)
    (k28 : PySem.W.keepIn K (.ref f28) = true)
    (l29 : K.lookup f29 = some ⟨oc29, od29, .func (PySem.W.fnOf (PySem.Str.ofString "_law_right") (PySem.Str.ofString "_law_right") (defArgs s__law_right) (defBody s__law_right) (defScope s__law_right) .none kV29 dc29 pm29 an29 cd29 ct29), sl29⟩)
    (c29 : PySem.W.codeIn K cd29 (PySem.Str.ofString "_law_right") = true)
    (k29 : PySem.W.keepIn K (.ref f29) = true)
    (l30 : K.lookup f30 = some ⟨oc30, od30, .func (PySem.W.fnOf (PySem.Str.ofString "law") (PySem.Str.ofString "law") (defArgs s_law) (defBody s_law) (defScope s_law) .none kV30 dc30 pm30 an30 cd30 ct30), sl30⟩)
    (c30 : PySem.W.codeIn K cd30 (PySem.Str.ofString "law") = true)
    (k30 : PySem.W.keepIn K (.ref f30) = true)
    (l1002 : K.lookup f1002 = some ⟨oc1002, od1002, .func (PySem.W.fnOf (PySem.Str.ofString "__init__") (PySem.Str.ofString "BelowZero.__init__") (defArgs s_BelowZero) (defBody s_BelowZero) (defScope s_BelowZero) .none kV1002 dc1002 pm1002 an1002 cd1002 ct1002), sl1002⟩)
    (c1002 : PySem.W.codeIn K cd1002 (PySem.Str.ofString "BelowZero.__init__") = true)
    (k1002 : PySem.W.keepIn K (.ref f1002) = true)
    (l1003 : K.lookup f1003 = some ⟨oc1003, od1003, .func (PySem.W.fnOf (PySem.Str.ofString "__init__") (PySem.Str.ofString "BadLine.__init__") (defArgs s_BadLine) (defBody s_BadLine) (defScope s_BadLine) .none kV1003 dc1003 pm1003 an1003 cd1003 ct1003), sl1003⟩)
    (c1003 : PySem.W.codeIn K cd1003 (PySem.Str.ofString "BadLine.__init__") = true)
    (k1003 : PySem.W.keepIn K (.ref f1003) = true)
    (l2000 : K.lookup f2000 = some ⟨oc2000, od2000, .func (PySem.W.fnOf (PySem.Str.ofString "__init__") (PySem.Str.ofString "Hands.__init__") (defArgs s_Hands___init__) (defBody s_Hands___init__) (defScope s_Hands___init__) (.ref tT4000) kV2000 dc2000 pm2000 an2000 cd2000 ct2000), sl2000⟩)
    (c2000 : PySem.W.codeIn K cd2000 (PySem.Str.ofString "Hands.__init__") = true)
    (k2000 : PySem.W.keepIn K (.ref f2000) = true)
    (l2001 : K.lookup f2001 = some ⟨oc2001, od2001, .func (PySem.W.fnOf (PySem.Str.ofString "numbers") (PySem.Str.ofString "Hands.numbers") (defArgs s_Hands_numbers) (defBody s_Hands_numbers) (defScope s_Hands_numbers) .none kV2001 dc2001 pm2001 an2001 cd2001 ct2001), sl2001⟩)
    (c2001 : PySem.W.codeIn K cd2001 (PySem.Str.ofString "Hands.numbers") = true)
    (k2001 : PySem.W.keepIn K (.ref f2001) = true)
    (l2003 : K.lookup f2003 = some ⟨oc2003, od2003, .func (PySem.W.fnOf (PySem.Str.ofString "plain") (PySem.Str.ofString "Hands.plain") (defArgs s_Hands_plain) (defBody s_Hands_plain) (defScope s_Hands_plain) .none kV2003 dc2003 pm2003 an2003 cd2003 ct2003), sl2003⟩)
    (c2003 : PySem.W.codeIn K cd2003 (PySem.Str.ofString "Hands.plain") = true)
    (k2003 : PySem.W.keepIn K (.ref f2003) = true)
    (l2006 : K.lookup f2006 = some ⟨oc2006, od2006, .func (PySem.W.fnOf (PySem.Str.ofString "__eq__") (PySem.Str.ofString "Hands.__eq__") (defArgs s_Hands___eq__) (defBody s_Hands___eq__) (defScope s_Hands___eq__) .none kV2006 dc2006 pm2006 an2006 cd2006 ct2006), sl2006⟩)
    (c2006 : PySem.W.codeIn K cd2006 (PySem.Str.ofString "Hands.__eq__") = true)
    (k2006 : PySem.W.keepIn K (.ref f2006) = true)
    (l2007 : K.lookup f2007 = some ⟨oc2007, od2007, .func (PySem.W.fnOf (PySem.Str.ofString "__lt__") (PySem.Str.ofString "Hands.__lt__") (defArgs s_Hands___lt__) (defBody s_Hands___lt__) (defScope s_Hands___lt__) .none kV2007 dc2007 pm2007 an2007 cd2007 ct2007), sl2007⟩)
    (c2007 : PySem.W.codeIn K cd2007 (PySem.Str.ofString "Hands.__lt__") = true)
    (k2007 : PySem.W.keepIn K (.ref f2007) = true)
    (l2010 : K.lookup f2010 = some ⟨oc2010, od2010, .func (PySem.W.fnOf (PySem.Str.ofString "__ge__") (PySem.Str.ofString "Hands.__ge__") (defArgs s_Hands___ge__) (defBody s_Hands___ge__) (defScope s_Hands___ge__) .none kV2010 dc2010 pm2010 an2010 cd2010 ct2010), sl2010⟩)
    (c2010 : PySem.W.codeIn K cd2010 (PySem.Str.ofString "Hands.__ge__") = true)
    (k2010 : PySem.W.keepIn K (.ref f2010) = true)
    (l2011 : K.lookup f2011 = some ⟨oc2011, od2011, .func (PySem.W.fnOf (PySem.Str.ofString "__add__") (PySem.Str.ofString "Hands.__add__") (defArgs s_Hands___add__) (defBody s_Hands___add__) (defScope s_Hands___add__) .none kV2011 dc2011 pm2011 an2011 cd2011 ct2011), sl2011⟩)
    (c2011 : PySem.W.codeIn K cd2011 (PySem.Str.ofString "Hands.__add__") = true)
    (k2011 : PySem.W.keepIn K (.ref f2011) = true)
    (l2012 : K.lookup f2012 = some ⟨oc2012, od2012, .func (PySem.W.fnOf (PySem.Str.ofString "__sub__") (PySem.Str.ofString "Hands.__sub__") (defArgs s_Hands___sub__) (defBody s_Hands___sub__) (defScope s_Hands___sub__) .none kV2012 dc2012 pm2012 an2012 cd2012 ct2012), sl2012⟩)
    (c2012 : PySem.W.codeIn K cd2012 (PySem.Str.ofString "Hands.__sub__") = true)
    (k2012 : PySem.W.keepIn K (.ref f2012) = true)
    (l2013 : K.lookup f2013 = some ⟨oc2013, od2013, .func (PySem.W.fnOf (PySem.Str.ofString "__mul__") (PySem.Str.ofString "Hands.__mul__") (defArgs s_Hands___mul__) (defBody s_Hands___mul__) (defScope s_Hands___mul__) .none kV2013 dc2013 pm2013 an2013 cd2013 ct2013), sl2013⟩)
    (c2013 : PySem.W.codeIn K cd2013 (PySem.Str.ofString "Hands.__mul__") = true)
    (k2013 : PySem.W.keepIn K (.ref f2013) = true)
    (l2014 : K.lookup f2014 = some ⟨oc2014, od2014, .func (PySem.W.fnOf (PySem.Str.ofString "__rmul__") (PySem.Str.ofString "Hands.__rmul__") (defArgs s_Hands___rmul__) (defBody s_Hands___rmul__) (defScope s_Hands___rmul__) .none kV2014 dc2014 pm2014 an2014 cd2014 ct2014), sl2014⟩)
    (c2014 : PySem.W.codeIn K cd2014 (PySem.Str.ofString "Hands.__rmul__") = true)
    (k2014 : PySem.W.keepIn K (.ref f2014) = true)
    (l2015 : K.lookup f2015 = some ⟨oc2015, od2015, .func (PySem.W.fnOf (PySem.Str.ofString "cut") (PySem.Str.ofString "Hands.cut") (defArgs s_Hands_cut) (defBody s_Hands_cut) (defScope s_Hands_cut) .none kV2015 dc2015 pm2015 an2015 cd2015 ct2015), sl2015⟩)
    (c2015 : PySem.W.codeIn K cd2015 (PySem.Str.ofString "Hands.cut") = true)
    (k2015 : PySem.W.keepIn K (.ref f2015) = true)
    (t4000 : K.lookup tT4000 = some ⟨tc4000, td4000, .seq #[.ref f4000] tn4000, ts4000⟩)
    (e4000 : K.lookup f4000 = some ⟨.type "tuple", te4000, .seq #[] tm4000, tr4000⟩)
    (t4001 : K.lookup tT4001 = some ⟨tc4001, td4001, .seq #[.int 1 dk4001_0] tn4001, ts4001⟩)
    (e4001 : f4001 = 0)
    (z_len : PySem.W.nsIn K mainGlobals (PySem.Str.ofString "len") = some none)
    (z_abs : PySem.W.nsIn K mainGlobals (PySem.Str.ofString "abs") = some none)
    (z_max : PySem.W.nsIn K mainGlobals (PySem.Str.ofString "max") = some none)
    (z_int : PySem.W.nsIn K mainGlobals (PySem.Str.ofString "int") = some none)
    (z_str : PySem.W.nsIn K mainGlobals (PySem.Str.ofString "str") = some none)
    (z_list : PySem.W.nsIn K mainGlobals (PySem.Str.ofString "list") = some none)
    (z_tuple : PySem.W.nsIn K mainGlobals (PySem.Str.ofString "tuple") = some none)
    (z_all : PySem.W.nsIn K mainGlobals (PySem.Str.ofString "all") = some none)
    (z_isinstance : PySem.W.nsIn K mainGlobals (PySem.Str.ofString "isinstance") = some none)
    (z_range : PySem.W.nsIn K mainGlobals (PySem.Str.ofString "range") = some none)
    (z_enumerate : PySem.W.nsIn K mainGlobals (PySem.Str.ofString "enumerate") = some none)
    (z_zip : PySem.W.nsIn K mainGlobals (PySem.Str.ofString "zip") = some none)
    (z_bool : PySem.W.nsIn K mainGlobals (PySem.Str.ofString "bool") = some none)
    (z_ValueError : PySem.W.nsIn K mainGlobals (PySem.Str.ofString "ValueError") = some none)
    (z_NotImplemented : PySem.W.nsIn K mainGlobals (PySem.Str.ofString "NotImplemented") = some none)
    (is_Hands : isiB (TT K (adOf f1 f2 f3 f9 f10 f12 f14 f15 f16 f17 f18 f19 f20 f21 f22 f23 f24 f25 f26 f27 f28 f29 f30 f1002 f1003 f2000 f2001 f2003 f2006 f2007 f2010 f2011 f2012 f2013 f2014 f2015 f3000 f3002 f4000 f4001)) (.ref f9) is_Hands = true)
    (is_bool : isiB (TT K (adOf f1 f2 f3 f9 f10 f12 f14 f15 f16 f17 f18 f19 f20 f21 f22 f23 f24 f25 f26 f27 f28 f29 f30 f1002 f1003 f2000 f2001 f2003 f2006 f2007 f2010 f2011 f2012 f2013 f2014 f2015 f3000 f3002 f4000 f4001)) (.type "bool") is_bool = true)
    (is_int : isiB (TT K (adOf f1 f2 f3 f9 f10 f12 f14 f15 f16 f17 f18 f19 f20 f21 f22 f23 f24 f25 f26 f27 f28 f29 f30 f1002 f1003 f2000 f2001 f2003 f2006 f2007 f2010 f2011 f2012 f2013 f2014 f2015 f3000 f3002 f4000 f4001)) (.type "int") is_int = true)
    (is_list : isiB (TT K (adOf f1 f2 f3 f9 f10 f12 f14 f15 f16 f17 f18 f19 f20 f21 f22 f23 f24 f25 f26 f27 f28 f29 f30 f1002 f1003 f2000 f2001 f2003 f2006 f2007 f2010 f2011 f2012 f2013 f2014 f2015 f3000 f3002 f4000 f4001)) (.type "list") is_list = true)
    (is_tuple : isiB (TT K (adOf f1 f2 f3 f9 f10 f12 f14 f15 f16 f17 f18 f19 f20 f21 f22 f23 f24 f25 f26 f27 f28 f29 f30 f1002 f1003 f2000 f2001 f2003 f2006 f2007 f2010 f2011 f2012 f2013 f2014 f2015 f3000 f3002 f4000 f4001)) (.type "tuple") is_tuple = true)
    (it_bool_str : itB (TT K (adOf f1 f2 f3 f9 f10 f12 f14 f15 f16 f17 f18 f19 f20 f21 f22 f23 f24 f25 f26 f27 f28 f29 f30 f1002 f1003 f2000 f2001 f2003 f2006 f2007 f2010 f2011 f2012 f2013 f2014 f2015 f3000 f3002 f4000 f4001)) [.type "bool", .type "str"] it_bool_str = true)
    (it_list_tuple : itB (TT K (adOf f1 f2 f3 f9 f10 f12 f14 f15 f16 f17 f18 f19 f20 f21 f22 f23 f24 f25 f26 f27 f28 f29 f30 f1002 f1003 f2000 f2001 f2003 f2006 f2007 f2010 f2011 f2012 f2013 f2014 f2015 f3000 f3002 f4000 f4001)) [.type "list", .type "tuple"] it_list_tuple = true)
    (xt_BelowZero : xtB (TT K (adOf f1 f2 f3 f9 f10 f12 f14 f15 f16 f17 f18 f19 f20 f21 f22 f23 f24 f25 f26 f27 f28 f29 f30 f1002 f1003 f2000 f2001 f2003 f2006 f2007 f2010 f2011 f2012 f2013 f2014 f2015 f3000 f3002 f4000 f4001)) (.ref f2) xt_BelowZero = true)
    : ∃ fd : FuncData, (∀ (s : Shared) (v : Value), BindsTo s fd ⟨[v], []⟩ [("_law_script", v)]) ∧ ∀ base : Heap, K.In base → base.Ns mainGlobals mg → FnOk l.prog w K mg base (L2.CX l.prog w) 17 fa fd ["_law_script"] (spTop K) := by
  have e : f30 = fa := by
    have e0 := hfa.symm.trans (PySem.W.mg_of X G a30)
    injection e0 with e1
    injection e1 with e2
    exact e2.symm
  subst e
  have F1002 := fun_mk (st := s_BelowZero) l1002 c1002 k1002
  have Y2 := xcB_ok b2
  have F1003 := fun_mk (st := s_BadLine) l1003 c1003 k1003
  have Y3 := xcB_ok b3
  have D16 := funD_mk (st := s__law_cells) l16 c16 k16
  have B16 := D16.bindsN (ps := [(PySem.Str.ofString "_law_script"), (PySem.Str.ofString "_law_most")]) fun _ _ _ _ _ _ us hl => match us, hl with | [_, _], _ => rfl
  have D2000 := funD_mkD (st := s_Hands___init__) (dvs := [.ref f4000]) (its := [.ref f4000]) l2000 c2000 k2000 (fun z => by cases z) t4000 rfl (.cons rfl (.nil))
  have D10 := funD_mk (st := s_side_by_side) l10 c10 k10
  have B10 := D10.bindsN (ps := [(PySem.Str.ofString "one"), (PySem.Str.ofString "two")]) fun _ _ _ _ _ _ us hl => match us, hl with | [_, _], _ => rfl
  have D2011 := funD_mk (st := s_Hands___add__) l2011 c2011 k2011
  have B2011 := D2011.bindsN (ps := [(PySem.Str.ofString "self"), (PySem.Str.ofString "other")]) fun _ _ _ _ _ _ us hl => match us, hl with | [_, _], _ => rfl
  have D2012 := funD_mk (st := s_Hands___sub__) l2012 c2012 k2012
  have B2012 := D2012.bindsN (ps := [(PySem.Str.ofString "self"), (PySem.Str.ofString "other")]) fun _ _ _ _ _ _ us hl => match us, hl with | [_, _], _ => rfl
  have D18 := funD_mk (st := s__law_same) l18 c18 k18
  have B18 := D18.bindsN (ps := [(PySem.Str.ofString "_law_got"), (PySem.Str.ofString "_law_due")]) fun _ _ _ _ _ _ us hl => match us, hl with | [_, _], _ => rfl
  have D2001 := funD_mk (st := s_Hands_numbers) l2001 c2001 k2001
  have B2001 := D2001.bindsN (ps := [(PySem.Str.ofString "self")]) fun _ _ _ _ _ _ us hl => match us, hl with | [_], _ => rfl
  have D23 := funD_mk (st := s__law_minus) l23 c23 k23
  have B23 := D23.bindsN (ps := [(PySem.Str.ofString "_law_one_so"), (PySem.Str.ofString "_law_two_so")]) fun _ _ _ _ _ _ us hl => match us, hl with | [_, _], _ => rfl
  have D2013 := funD_mk (st := s_Hands___mul__) l2013 c2013 k2013
  have B2013 := D2013.bindsN (ps := [(PySem.Str.ofString "self"), (PySem.Str.ofString "times")]) fun _ _ _ _ _ _ us hl => match us, hl with | [_, _], _ => rfl
  have D2014 := funD_mk (st := s_Hands___rmul__) l2014 c2014 k2014
  have B2014 := D2014.bindsN (ps := [(PySem.Str.ofString "self"), (PySem.Str.ofString "times")]) fun _ _ _ _ _ _ us hl => match us, hl with | [_, _], _ => rfl
  have D2006 := funD_mk (st := s_Hands___eq__) l2006 c2006 k2006
  have B2006 := D2006.bindsN (ps := [(PySem.Str.ofString "self"), (PySem.Str.ofString "other")]) fun _ _ _ _ _ _ us hl => match us, hl with | [_, _], _ => rfl
  have D12 := funD_mkD (st := s_hand) (dvs := [.int 1]) (its := [.int 1 dk4001_0]) l12 c12 k12 (fun z => by cases z) t4001 rfl (.cons ⟨_, rfl⟩ (.nil))
  have D2015 := funD_mk (st := s_Hands_cut) l2015 c2015 k2015
  have B2015 := D2015.bindsN (ps := [(PySem.Str.ofString "self")]) fun _ _ _ _ _ _ us hl => match us, hl with | [_], _ => rfl
  have D27 := funD_mk (st := s__law_by_hand_right) l27 c27 k27
  have B27 := D27.bindsN (ps := []) fun _ _ _ _ _ _ us hl => match us, hl with | [], _ => rfl
  have D15 := funD_mk (st := s__law_take) l15 c15 k15
  have B15 := D15.bindsN (ps := [(PySem.Str.ofString "_law_box_here"), (PySem.Str.ofString "_law_size_so")]) fun _ _ _ _ _ _ us hl => match us, hl with | [_, _], _ => rfl
  have D17 := funD_mk (st := s__law_of) l17 c17 k17
  have B17 := D17.bindsN (ps := [(PySem.Str.ofString "_law_box_here"), (PySem.Str.ofString "_law_goods_so")]) fun _ _ _ _ _ _ us hl => match us, hl with | [_, _], _ => rfl
  have D19 := funD_mk (st := s__law_trimmed) l19 c19 k19
  have B19 := D19.bindsN (ps := [(PySem.Str.ofString "_law_row")]) fun _ _ _ _ _ _ us hl => match us, hl with | [_], _ => rfl
  have D21 := funD_mk (st := s__law_up) l21 c21 k21
  have B21 := D21.bindsN (ps := [(PySem.Str.ofString "_law_row")]) fun _ _ _ _ _ _ us hl => match us, hl with | [_], _ => rfl
  have D2007 := funD_mk (st := s_Hands___lt__) l2007 c2007 k2007
  have B2007 := D2007.bindsN (ps := [(PySem.Str.ofString "self"), (PySem.Str.ofString "other")]) fun _ _ _ _ _ _ us hl => match us, hl with | [_, _], _ => rfl
  have D2003 := funD_mk (st := s_Hands_plain) l2003 c2003 k2003
  have B2003 := D2003.bindsN (ps := [(PySem.Str.ofString "self")]) fun _ _ _ _ _ _ us hl => match us, hl with | [_], _ => rfl
  have D2010 := funD_mk (st := s_Hands___ge__) l2010 c2010 k2010
  have B2010 := D2010.bindsN (ps := [(PySem.Str.ofString "self"), (PySem.Str.ofString "other")]) fun _ _ _ _ _ _ us hl => match us, hl with | [_, _], _ => rfl
  have D25 := funD_mk (st := s__law_cut_due) l25 c25 k25
  have B25 := D25.bindsN (ps := [(PySem.Str.ofString "_law_row")]) fun _ _ _ _ _ _ us hl => match us, hl with | [_], _ => rfl
  have D26 := funD_mk (st := s__law_cut_right) l26 c26 k26
  have B26 := D26.bindsN (ps := [(PySem.Str.ofString "_law_box_here"), (PySem.Str.ofString "_law_mine"), (PySem.Str.ofString "_law_row")]) fun _ _ _ _ _ _ us hl => match us, hl with | [_, _, _], _ => rfl
  have D20 := funD_mk (st := s__law_line) l20 c20 k20
  have B20 := D20.bindsN (ps := [(PySem.Str.ofString "_law_box_here")]) fun _ _ _ _ _ _ us hl => match us, hl with | [_], _ => rfl
  have D22 := funD_mk (st := s__law_side) l22 c22 k22
  have B22 := D22.bindsN (ps := [(PySem.Str.ofString "_law_row")]) fun _ _ _ _ _ _ us hl => match us, hl with | [_], _ => rfl
  have D24 := funD_mk (st := s__law_due_minus) l24 c24 k24
  have B24 := D24.bindsN (ps := [(PySem.Str.ofString "_law_one"), (PySem.Str.ofString "_law_two")]) fun _ _ _ _ _ _ us hl => match us, hl with | [_, _], _ => rfl
  have D28 := funD_mk (st := s__law_case_right) l28 c28 k28
  have B28 := D28.bindsN (ps := [(PySem.Str.ofString "_law_box_here")]) fun _ _ _ _ _ _ us hl => match us, hl with | [_], _ => rfl
  have D29 := funD_mk (st := s__law_right) l29 c29 k29
  have B29 := D29.bindsN (ps := [(PySem.Str.ofString "_law_box_here")]) fun _ _ _ _ _ _ us hl => match us, hl with | [_], _ => rfl
  have D14 := funD_mk (st := s__law_box) l14 c14 k14
  have B14 := D14.bindsN (ps := [(PySem.Str.ofString "_law_script"), (PySem.Str.ofString "_law_k")]) fun _ _ _ _ _ _ us hl => match us, hl with | [_, _], _ => rfl
  have D30 := funD_mk (st := s_law) l30 c30 k30
  have B30 := D30.bindsN (ps := [(PySem.Str.ofString "_law_script")]) fun _ _ _ _ _ _ us hl => match us, hl with | [_], _ => rfl
  have B1002 := F1002.binds (ps := [(PySem.Str.ofString "self")]) fun _ _ _ _ _ _ us hl => match us, hl with | [_], _ => rfl
  have O2 : OexC K f2 := ⟨⟨_, _, _, _, _, _, _, _, _, _, _, _, _, _, _, x2, m2⟩, Y2.sa, Y2.xf.exC, Y2.ty, Y2.kp⟩
  have B1003 := F1003.binds (ps := [(PySem.Str.ofString "self"), (PySem.Str.ofString "number")]) fun _ _ _ _ _ _ us hl => match us, hl with | [_, _], _ => rfl
  have K1003 := F1003.kin (ps := [(PySem.Str.ofString "self"), (PySem.Str.ofString "number")]) 1 [(PySem.Str.ofString "number")] fun _ _ _ _ _ _ us ws hl hw => match us, ws, hl, hw with | [_], [_], _, _ => rfl
  have O3 : OexC K f3 := ⟨⟨_, _, _, _, _, _, _, _, _, _, _, _, _, _, _, x3, m3⟩, Y3.sa, Y3.xf.exC, Y3.ty, Y3.kp⟩
  have C9 := clB_ok cb9
  have kb_Hands___init___1 := D2000.g1 (ps := [(PySem.Str.ofString "self"), (PySem.Str.ofString "numbers")]) 2 [] [.p 0, .p 1] (fun z => by cases z) fun _ _ _ _ _ _ _ us its ws h1 h2 h3 => match us, its, ws, h1, h2, h3 with | [_, _], [_], [], _, _, _ => ⟨_, rfl, rfl⟩
  have kb_Hands___init___0 := D2000.g1 (ps := [(PySem.Str.ofString "self"), (PySem.Str.ofString "numbers")]) 1 [] [.p 0, .d 0] (fun z => by cases z) fun _ _ _ _ _ _ _ us its ws h1 h2 h3 => match us, its, ws, h1, h2, h3 with | [_], [_], [], _, _, _ => ⟨_, rfl, rfl⟩
  have kb_hand_2 := D12.g1 (ps := [(PySem.Str.ofString "place"), (PySem.Str.ofString "count")]) 2 [] [.p 0, .p 1] (fun z => by cases z) fun _ _ _ _ _ _ _ us its ws h1 h2 h3 => match us, its, ws, h1, h2, h3 with | [_, _], [_], [], _, _, _ => ⟨_, rfl, rfl⟩
  have kb_hand_0_place_count := D12.g1 (ps := [(PySem.Str.ofString "place"), (PySem.Str.ofString "count")]) 0 [(PySem.Str.ofString "place"), (PySem.Str.ofString "count")] [.k 0, .k 1] (fun z => by cases z) fun _ _ _ _ _ _ _ us its ws h1 h2 h3 => match us, its, ws, h1, h2, h3 with | [], [_], [_, _], _, _, _ => ⟨_, rfl, rfl⟩
  have kb_hand_1 := D12.g1 (ps := [(PySem.Str.ofString "place"), (PySem.Str.ofString "count")]) 1 [] [.p 0, .d 0] (fun z => by cases z) fun _ _ _ _ _ _ _ us its ws h1 h2 h3 => match us, its, ws, h1, h2, h3 with | [_], [_], [], _, _, _ => ⟨_, rfl, rfl⟩
  have hcl : ∀ c C, (TT K (adOf f1 f2 f3 f9 f10 f12 f14 f15 f16 f17 f18 f19 f20 f21 f22 f23 f24 f25 f26 f27 f28 f29 f30 f1002 f1003 f2000 f2001 f2003 f2006 f2007 f2010 f2011 f2012 f2013 f2014 f2015 f3000 f3002 f4000 f4001)).cls c = some C → (ExcC K C ∧ c ∈ [(PySem.Str.ofString "BelowZero"), (PySem.Str.ofString "BadLine")]) ∨ c = (PySem.Str.ofString "LateError") ∨ (OwnI K C ∧ c ∈ [(PySem.Str.ofString "Hands")]) := fun c C e => by
    unfold TT clsOf at e
    dsimp only at e
    by_cases h1 : c = (PySem.Str.ofString "LateError")
    · rw [if_pos h1] at e; cases e; exact .inr (.inl h1)
    rw [if_neg h1] at e
    by_cases h2 : c = (PySem.Str.ofString "BelowZero")
    · rw [if_pos h2] at e; cases e; exact .inl ⟨Y2.ex, by rw [h2]; simp⟩
    rw [if_neg h2] at e
    by_cases h3 : c = (PySem.Str.ofString "BadLine")
    · rw [if_pos h3] at e; cases e; exact .inl ⟨Y3.ex, by rw [h3]; simp⟩
    rw [if_neg h3] at e
    by_cases h9 : c = (PySem.Str.ofString "Hands")
    · rw [if_pos h9] at e; cases e; exact .inr (.inr ⟨C9.own, by rw [h9]; simp⟩)
    rw [if_neg h9] at e
    cases e
  have Z : ∀ base : Heap, Txt l.prog w K mg base (adOf f1 f2 f3 f9 f10 f12 f14 f15 f16 f17 f18 f19 f20 f21 f22 f23 f24 f25 f26 f27 f28 f29 f30 f1002 f1003 f2000 f2001 f2003 f2006 f2007 f2010 f2011 f2012 f2013 f2014 f2015 f3000 f3002 f4000 f4001) (fdOf (PySem.W.fnOf (PySem.Str.ofString "side_by_side") (PySem.Str.ofString "side_by_side") (defArgs s_side_by_side) (defBody s_side_by_side) (defScope s_side_by_side) .none kV10 dc10 pm10 an10 cd10 ct10) (PySem.W.fnOf (PySem.Str.ofString "hand") (PySem.Str.ofString "hand") (defArgs s_hand) (defBody s_hand) (defScope s_hand) (.ref tT4001) kV12 dc12 pm12 an12 cd12 ct12) (PySem.W.fnOf (PySem.Str.ofString "_law_box") (PySem.Str.ofString "_law_box") (defArgs s__law_box) (defBody s__law_box) (defScope s__law_box) .none kV14 dc14 pm14 an14 cd14 ct14) (PySem.W.fnOf (PySem.Str.ofString "_law_take") (PySem.Str.ofString "_law_take") (defArgs s__law_take) (defBody s__law_take) (defScope s__law_take) .none kV15 dc15 pm15 an15 cd15 ct15) (PySem.W.fnOf (PySem.Str.ofString "_law_cells") (PySem.Str.ofString "_law_cells") (defArgs s__law_cells) (defBody s__law_cells) (defScope s__law_cells) .none kV16 dc16 pm16 an16 cd16 ct16) (PySem.W.fnOf (PySem.Str.ofString "_law_of") (PySem.Str.ofString "_law_of") (defArgs s__law_of) (defBody s__law_of) (defScope s__law_of) .none kV17 dc17 pm17 an17 cd17 ct17) (PySem.W.fnOf (PySem.Str.ofString "_law_same") (PySem.Str.ofString "_law_same") (defArgs s__law_same) (defBody s__law_same) (defScope s__law_same) .none kV18 dc18 pm18 an18 cd18 ct18) (PySem.W.fnOf (PySem.Str.ofString "_law_trimmed") (PySem.Str.ofString "_law_trimmed") (defArgs s__law_trimmed) (defBody s__law_trimmed) (defScope s__law_trimmed) .none kV19 dc19 pm19 an19 cd19 ct19) (PySem.W.fnOf (PySem.Str.ofString "_law_line") (PySem.Str.ofString "_law_line") (defArgs s__law_line) (defBody s__law_line) (defScope s__law_line) .none kV20 dc20 pm20 an20 cd20 ct20) (PySem.W.fnOf (PySem.Str.ofString "_law_up") (PySem.Str.ofString "_law_up") (defArgs s__law_up) (defBody s__law_up) (defScope s__law_up) .none kV21 dc21 pm21 an21 cd21 ct21) (PySem.W.fnOf (PySem.Str.ofString "_law_side") (PySem.Str.ofString "_law_side") (defArgs s__law_side) (defBody s__law_side) (defScope s__law_side) .none kV22 dc22 pm22 an22 cd22 ct22) (PySem.W.fnOf (PySem.Str.ofString "_law_minus") (PySem.Str.ofString "_law_minus") (defArgs s__law_minus) (defBody s__law_minus) (defScope s__law_minus) .none kV23 dc23 pm23 an23 cd23 ct23) (PySem.W.fnOf (PySem.Str.ofString "_law_due_minus") (PySem.Str.ofString "_law_due_minus") (defArgs s__law_due_minus) (defBody s__law_due_minus) (defScope s__law_due_minus) .none kV24 dc24 pm24 an24 cd24 ct24) (PySem.W.fnOf (PySem.Str.ofString "_law_cut_due") (PySem.Str.ofString "_law_cut_due") (defArgs s__law_cut_due) (defBody s__law_cut_due) (defScope s__law_cut_due) .none kV25 dc25 pm25 an25 cd25 ct25) (PySem.W.fnOf (PySem.Str.ofString "_law_cut_right") (PySem.Str.ofString "_law_cut_right") (defArgs s__law_cut_right) (defBody s__law_cut_right) (defScope s__law_cut_right) .none kV26 dc26 pm26 an26 cd26 ct26) (PySem.W.fnOf (PySem.Str.ofString "_law_by_hand_right") (PySem.Str.ofString "_law_by_hand_right") (defArgs s__law_by_hand_right) (defBody s__law_by_hand_right) (defScope s__law_by_hand_right) .none kV27 dc27 pm27 an27 cd27 ct27) (PySem.W.fnOf (PySem.Str.ofString "_law_case_right") (PySem.Str.ofString "_law_case_right") (defArgs s__law_case_right) (defBody s__law_case_right) (defScope s__law_case_right) .none kV28 dc28 pm28 an28 cd28 ct28) (PySem.W.fnOf (PySem.Str.ofString "_law_right") (PySem.Str.ofString "_law_right") (defArgs s__law_right) (defBody s__law_right) (defScope s__law_right) .none kV29 dc29 pm29 an29 cd29 ct29) (PySem.W.fnOf (PySem.Str.ofString "law") (PySem.Str.ofString "law") (defArgs s_law) (defBody s_law) (defScope s_law) .none kV30 dc30 pm30 an30 cd30 ct30) (PySem.W.fnOf (PySem.Str.ofString "__init__") (PySem.Str.ofString "BelowZero.__init__") (defArgs s_BelowZero) (defBody s_BelowZero) (defScope s_BelowZero) .none kV1002 dc1002 pm1002 an1002 cd1002 ct1002) (PySem.W.fnOf (PySem.Str.ofString "__init__") (PySem.Str.ofString "BadLine.__init__") (defArgs s_BadLine) (defBody s_BadLine) (defScope s_BadLine) .none kV1003 dc1003 pm1003 an1003 cd1003 ct1003) (PySem.W.fnOf (PySem.Str.ofString "__init__") (PySem.Str.ofString "Hands.__init__") (defArgs s_Hands___init__) (defBody s_Hands___init__) (defScope s_Hands___init__) (.ref tT4000) kV2000 dc2000 pm2000 an2000 cd2000 ct2000) (PySem.W.fnOf (PySem.Str.ofString "numbers") (PySem.Str.ofString "Hands.numbers") (defArgs s_Hands_numbers) (defBody s_Hands_numbers) (defScope s_Hands_numbers) .none kV2001 dc2001 pm2001 an2001 cd2001 ct2001) (PySem.W.fnOf (PySem.Str.ofString "plain") (PySem.Str.ofString "Hands.plain") (defArgs s_Hands_plain) (defBody s_Hands_plain) (defScope s_Hands_plain) .none kV2003 dc2003 pm2003 an2003 cd2003 ct2003) (PySem.W.fnOf (PySem.Str.ofString "__eq__") (PySem.Str.ofString "Hands.__eq__") (defArgs s_Hands___eq__) (defBody s_Hands___eq__) (defScope s_Hands___eq__) .none kV2006 dc2006 pm2006 an2006 cd2006 ct2006) (PySem.W.fnOf (PySem.Str.ofString "__lt__") (PySem.Str.ofString "Hands.__lt__") (defArgs s_Hands___lt__) (defBody s_Hands___lt__) (defScope s_Hands___lt__) .none kV2007 dc2007 pm2007 an2007 cd2007 ct2007) (PySem.W.fnOf (PySem.Str.ofString "__ge__") (PySem.Str.ofString "Hands.__ge__") (defArgs s_Hands___ge__) (defBody s_Hands___ge__) (defScope s_Hands___ge__) .none kV2010 dc2010 pm2010 an2010 cd2010 ct2010) (PySem.W.fnOf (PySem.Str.ofString "__add__") (PySem.Str.ofString "Hands.__add__") (defArgs s_Hands___add__) (defBody s_Hands___add__) (defScope s_Hands___add__) .none kV2011 dc2011 pm2011 an2011 cd2011 ct2011) (PySem.W.fnOf (PySem.Str.ofString "__sub__") (PySem.Str.ofString "Hands.__sub__") (defArgs s_Hands___sub__) (defBody s_Hands___sub__) (defScope s_Hands___sub__) .none kV2012 dc2012 pm2012 an2012 cd2012 ct2012) (PySem.W.fnOf (PySem.Str.ofString "__mul__") (PySem.Str.ofString "Hands.__mul__") (defArgs s_Hands___mul__) (defBody s_Hands___mul__) (defScope s_Hands___mul__) .none kV2013 dc2013 pm2013 an2013 cd2013 ct2013) (PySem.W.fnOf (PySem.Str.ofString "__rmul__") (PySem.Str.ofString "Hands.__rmul__") (defArgs s_Hands___rmul__) (defBody s_Hands___rmul__) (defScope s_Hands___rmul__) .none kV2014 dc2014 pm2014 an2014 cd2014 ct2014) (PySem.W.fnOf (PySem.Str.ofString "cut") (PySem.Str.ofString "Hands.cut") (defArgs s_Hands_cut) (defBody s_Hands_cut) (defScope s_Hands_cut) .none kV2015 dc2015 pm2015 an2015 cd2015 ct2015)) := fun base =>
    { z_len := PySem.W.mg_none_of X G z_len,
      z_abs := PySem.W.mg_none_of X G z_abs,
      z_max := PySem.W.mg_none_of X G z_max,
      z_int := PySem.W.mg_none_of X G z_int,
      z_str := PySem.W.mg_none_of X G z_str,
      z_list := PySem.W.mg_none_of X G z_list,
      z_tuple := PySem.W.mg_none_of X G z_tuple,
      z_all := PySem.W.mg_none_of X G z_all,
      z_isinstance := PySem.W.mg_none_of X G z_isinstance,
      z_range := PySem.W.mg_none_of X G z_range,
      z_enumerate := PySem.W.mg_none_of X G z_enumerate,
      z_zip := PySem.W.mg_none_of X G z_zip,
      z_bool := PySem.W.mg_none_of X G z_bool,
      z_ValueError := PySem.W.mg_none_of X G z_ValueError,
      z_NotImplemented := PySem.W.mg_none_of X G z_NotImplemented,
      f__law_cells := D16,
      g__law_cells := PySem.W.mg_of X G a16,
      b__law_cells := B16,
      f_Hands___init__ := D2000,
      me_Hands___init__ := meB_ok wb2000,
      f_side_by_side := D10,
      g_side_by_side := PySem.W.mg_of X G a10,
      b_side_by_side := B10,
      f_Hands___add__ := D2011,
      b_Hands___add__ := B2011,
      me_Hands___add__ := meB_ok wb2011,
      f_Hands___sub__ := D2012,
      b_Hands___sub__ := B2012,
      me_Hands___sub__ := meB_ok wb2012,
      f__law_same := D18,
      g__law_same := PySem.W.mg_of X G a18,
      b__law_same := B18,
      f_Hands_numbers := D2001,
      b_Hands_numbers := B2001,
      pr_Hands_numbers := prB_ok wb3000 r3000,
      f__law_minus := D23,
      g__law_minus := PySem.W.mg_of X G a23,
      b__law_minus := B23,
      f_Hands___mul__ := D2013,
      b_Hands___mul__ := B2013,
      me_Hands___mul__ := meB_ok wb2013,
      f_Hands___rmul__ := D2014,
      b_Hands___rmul__ := B2014,
      me_Hands___rmul__ := meB_ok wb2014,
      f_Hands___eq__ := D2006,
      b_Hands___eq__ := B2006,
      me_Hands___eq__ := meB_ok wb2006,
      f_hand := D12,
      g_hand := PySem.W.mg_of X G a12,
      f_Hands_cut := D2015,
      b_Hands_cut := B2015,
      me_Hands_cut := meB_ok wb2015,
      f__law_by_hand_right := D27,
      g__law_by_hand_right := PySem.W.mg_of X G a27,
      b__law_by_hand_right := B27,
      f__law_take := D15,
      g__law_take := PySem.W.mg_of X G a15,
      b__law_take := B15,
      f__law_of := D17,
      g__law_of := PySem.W.mg_of X G a17,
      b__law_of := B17,
      f__law_trimmed := D19,
      g__law_trimmed := PySem.W.mg_of X G a19,
      b__law_trimmed := B19,
      f__law_up := D21,
      g__law_up := PySem.W.mg_of X G a21,
      b__law_up := B21,
      f_Hands___lt__ := D2007,
      b_Hands___lt__ := B2007,
      me_Hands___lt__ := meB_ok wb2007,
      f_Hands_plain := D2003,
      b_Hands_plain := B2003,
      pr_Hands_plain := prB_ok wb3002 r3002,
      f_Hands___ge__ := D2010,
      b_Hands___ge__ := B2010,
      me_Hands___ge__ := meB_ok wb2010,
      f__law_cut_due := D25,
      g__law_cut_due := PySem.W.mg_of X G a25,
      b__law_cut_due := B25,
      f__law_cut_right := D26,
      g__law_cut_right := PySem.W.mg_of X G a26,
      b__law_cut_right := B26,
      f__law_line := D20,
      g__law_line := PySem.W.mg_of X G a20,
      b__law_line := B20,
      f__law_side := D22,
      g__law_side := PySem.W.mg_of X G a22,
      b__law_side := B22,
      f__law_due_minus := D24,
      g__law_due_minus := PySem.W.mg_of X G a24,
      b__law_due_minus := B24,
      f__law_case_right := D28,
      g__law_case_right := PySem.W.mg_of X G a28,
      b__law_case_right := B28,
      f__law_right := D29,
      g__law_right := PySem.W.mg_of X G a29,
      b__law_right := B29,
      f__law_box := D14,
      g__law_box := PySem.W.mg_of X G a14,
      b__law_box := B14,
      f_law := D30,
      g_law := PySem.W.mg_of X G a30,
      b_law := B30,
      g_LateError := PySem.W.mg_of X G a1,
      g_BelowZero := PySem.W.mg_of X G a2,
      g_BadLine := PySem.W.mg_of X G a3,
      g_Hands := PySem.W.mg_of X G a9,
      cl_Hands := C9,
      su_Hands := su9,
      au_Hands_Add := au9_Add,
      au_Hands_Sub := au9_Sub,
      fl_Hands_own_key := fun C e => by cases (show some f9 = some C from e); exact ⟨C9.cls, naB_ok na9 _ (by simp)⟩,
      fl_Hands_own_numbers := fun C e => by cases (show some f9 = some C from e); exact ⟨C9.cls, naB_ok na9 _ (by simp)⟩,
      x_BelowZero := ⟨by kernel_rfl, O2, Y2.ini, Y2.tyf, PySem.W.mg_of X G a2, B1002, F1002.okX0 (k := 0) sc_BelowZero rfl O2 (Y2.no _ (by simp)) fun cdv A outer s H E => by exact pss_one (ps_ost (pv 0) (pe_tup pa_nil))⟩,
      x_BadLine := ⟨by kernel_rfl, O3, Y3.ini, Y3.tyf, PySem.W.mg_of X G a3, B1003, F1003.okX1 (k := 0) sc_BadLine rfl O3 (Y3.no _ (by simp)) fun cdv A outer s H E => by exact pss_one (ps_ost (pv 0) (pv 1))⟩,
      k_BadLine := K1003,
      is_Hands := isiB_ok is_Hands (fun c k C e eC => by
        rcases hcl c C eC with ⟨_, q⟩ | q | ⟨q, _⟩
        · exact absurd e (ow_no_Hands c k (by simpa using q))
        · subst q; exact absurd e (no_lateO_Hands k)
        · exact q) fun c C e => by
        rcases hcl c C e with ⟨q, _⟩ | q | ⟨_, q⟩
        · exact .inl q
        · subst q; exact .inr fun k => no_late_Hands k
        · exact .inr fun k => xc_no_Hands c k (by simpa using q),
      is_bool := isiB_ok is_bool (fun c k C e eC => by
        rcases hcl c C eC with ⟨_, q⟩ | q | ⟨q, _⟩
        · exact absurd e (ow_no_bool c k (by simpa using q))
        · subst q; exact absurd e (no_lateO_bool k)
        · exact q) fun c C e => by
        rcases hcl c C e with ⟨q, _⟩ | q | ⟨_, q⟩
        · exact .inl q
        · subst q; exact .inr fun k => no_late_bool k
        · exact .inr fun k => xc_no_bool c k (by simpa using q),
      is_int := isiB_ok is_int (fun c k C e eC => by
        rcases hcl c C eC with ⟨_, q⟩ | q | ⟨q, _⟩
        · exact absurd e (ow_no_int c k (by simpa using q))
        · subst q; exact absurd e (no_lateO_int k)
        · exact q) fun c C e => by
        rcases hcl c C e with ⟨q, _⟩ | q | ⟨_, q⟩
        · exact .inl q
        · subst q; exact .inr fun k => no_late_int k
        · exact .inr fun k => xc_no_int c k (by simpa using q),
      is_list := isiB_ok is_list (fun c k C e eC => by
        rcases hcl c C eC with ⟨_, q⟩ | q | ⟨q, _⟩
        · exact absurd e (ow_no_list c k (by simpa using q))
        · subst q; exact absurd e (no_lateO_list k)
        · exact q) fun c C e => by
        rcases hcl c C e with ⟨q, _⟩ | q | ⟨_, q⟩
        · exact .inl q
        · subst q; exact .inr fun k => no_late_list k
        · exact .inr fun k => xc_no_list c k (by simpa using q),
      is_tuple := isiB_ok is_tuple (fun c k C e eC => by
        rcases hcl c C eC with ⟨_, q⟩ | q | ⟨q, _⟩
        · exact absurd e (ow_no_tuple c k (by simpa using q))
        · subst q; exact absurd e (no_lateO_tuple k)
        · exact q) fun c C e => by
        rcases hcl c C e with ⟨q, _⟩ | q | ⟨_, q⟩
        · exact .inl q
        · subst q; exact .inr fun k => no_late_tuple k
        · exact .inr fun k => xc_no_tuple c k (by simpa using q),
      it_bool_str := itB_ok it_bool_str (fun c k C e eC => by
        rcases hcl c C eC with ⟨_, q⟩ | q | ⟨q, _⟩
        · exact absurd e (owt_no_bool_str c k (by simpa using q))
        · subst q; exact absurd e (no_lateT_bool_str k)
        · exact q) (no_xct_bool_str),
      it_list_tuple := itB_ok it_list_tuple (fun c k C e eC => by
        rcases hcl c C eC with ⟨_, q⟩ | q | ⟨q, _⟩
        · exact absurd e (owt_no_list_tuple c k (by simpa using q))
        · subst q; exact absurd e (no_lateT_list_tuple k)
        · exact q) (no_xct_list_tuple),
      xt_BelowZero := xtB_ok xt_BelowZero,
      kb_Hands___init___1 := kb_Hands___init___1,
      kb_Hands___init___0 := kb_Hands___init___0,
      kb_hand_2 := kb_hand_2,
      kb_hand_0_place_count := kb_hand_0_place_count,
      kb_hand_1 := kb_hand_1,
      df_Hands___init__ := dfl0 (ktup0 e4000),
      df_hand := fun _ _ _ => .cons (show Rep _ _ _ _ _ _ from .int _) (.nil) }
  exact ⟨PySem.W.fnOf (PySem.Str.ofString "law") (PySem.Str.ofString "law") (defArgs s_law) (defBody s_law) (defScope s_law) .none kV30 dc30 pm30 an30 cd30 ct30, fun s v => .of_eq rfl, fun base _ _ => (ok_law (Z base)).imp (top_sp (T := TT K (adOf f1 f2 f3 f9 f10 f12 f14 f15 f16 f17 f18 f19 f20 f21 f22 f23 f24 f25 f26 f27 f28 f29 f30 f1002 f1003 f2000 f2001 f2003 f2006 f2007 f2010 f2011 f2012 f2013 f2014 f2015 f3000 f3002 f4000 f4001)) fun ns hn => ⟨_, law_ok ns hn _⟩)⟩
end LW

open PySem PySem.W PyProof.Rows
set_option maxHeartbeats 0 in
theorem PySem.Challenge.cw_toldlate_k22_hands_reckoned_holds : PySem.Challenge.rw_toldlate_k22_hands_reckoned.Holds := by
  w_on; o_law; k_head; (case hw => w_witness2)
  k_fill
  refine L2.walk_ofB (l := PySem.Challenge.rw_toldlate_k22_hands_reckoned) (n := 63) (k := 17) (x := "_law_script") (CX := fun w => L2.CX PySem.Challenge.rw_toldlate_k22_hands_reckoned.prog w) (sp := fun w => DL.spTop _) rfl (by decide) rfl ⟨rfl, by decide, by decide⟩ (fun w h Y => PySem.W.kIn_of Y) ?F (fun _ _ a ns hl _ _ hS => ⟨a, ns, rfl, hS, hl, fun _ => rfl⟩) (fun _ _ _ _ _ ⟨_, _, _, _, _, _, _, _, _, _, _, _, z⟩ => z.elim)
  case F =>
    intro w mg fa h KX G hmg
    refine' LW.all_mk KX G hmg ?a16 ?a10 ?a18 ?a23 ?a12 ?a27 ?a15 ?a17 ?a19 ?a21 ?a25 ?a26 ?a20 ?a22 ?a24 ?a28 ?a29 ?a14 ?a30 ?a1 ?a2 ?a3 ?a9 ?x2 ?m2 ?i2 ?b2 ?x3 ?m3 ?i3 ?b3 ?w2000 ?wb2000 ?w2011 ?wb2011 ?w2012 ?wb2012 ?w2013 ?wb2013 ?w2014 ?wb2014 ?w2006 ?wb2006 ?w2015 ?wb2015 ?w2007 ?wb2007 ?w2010 ?wb2010 ?w3000 ?r3000 ?wb3000 ?w3002 ?r3002 ?wb3002 ?cb9 ?na9 ?su9 ?au9_Add ?au9_Sub ?l10 ?c10 ?k10 ?l12 ?c12 ?k12 ?l14 ?c14 ?k14 ?l15 ?c15 ?k15 ?l16 ?c16 ?k16 ?l17 ?c17 ?k17 ?l18 ?c18 ?k18 ?l19 ?c19 ?k19 ?l20 ?c20 ?k20 ?l21 ?c21 ?k21 ?l22 ?c22 ?k22 ?l23 ?c23 ?k23 ?l24 ?c24 ?k24 ?l25 ?c25 ?k25 ?l26 ?c26 ?k26 ?l27 ?c27 ?k27 ?l28 ?c28 ?k28 ?l29 ?c29 ?k29 ?l30 ?c30 ?k30 ?l1002 ?c1002 ?k1002 ?l1003 ?c1003 ?k1003 ?l2000 ?c2000 ?k2000 ?l2001 ?c2001 ?k2001 ?l2003 ?c2003 ?k2003 ?l2006 ?c2006 ?k2006 ?l2007 ?c2007 ?k2007 ?l2010 ?c2010 ?k2010 ?l2011 ?c2011 ?k2011 ?l2012 ?c2012 ?k2012 ?l2013 ?c2013 ?k2013 ?l2014 ?c2014 ?k2014 ?l2015 ?c2015 ?k2015 ?t4000 ?e4000 ?t4001 ?e4001 ?z_len ?z_abs ?z_max ?z_int ?z_str ?z_list ?z_tuple ?z_all ?z_isinstance ?z_range ?z_enumerate ?z_zip ?z_bool ?z_ValueError ?z_NotImplemented ?is_Hands ?is_bool ?is_int ?is_list ?is_tuple ?it_bool_str ?it_list_tuple ?xt_BelowZero
    (case a16 => k_is)
    (case a10 => k_is)
    (case a18 => k_is)
    (case a23 => k_is)
    (case a12 => k_is)
    (case a27 => k_is)
    (case a15 => k_is)
    (case a17 => k_is)
    (case a19 => k_is)
    (case a21 => k_is)
    (case a25 => k_is)
    (case a26 => k_is)
    (case a20 => k_is)
    (case a22 => k_is)
    (case a24 => k_is)
    (case a28 => k_is)
    (case a29 => k_is)
    (case a14 => k_is)
    (case a30 => k_is)
    (case a1 => k_is)
    (case a2 => k_is)
    (case a3 => k_is)
    (case a9 => k_is)
    (case x2 => k_is)
    (case m2 => first | rfl | decide +kernel)
    (case i2 => k_is)
    (case b2 => kernel_rfl)
    (case x3 => k_is)
    (case m3 => first | rfl | decide +kernel)
    (case i3 => k_is)
    (case b3 => kernel_rfl)
    (case w2000 => k_is)
    (case wb2000 => kernel_rfl)
    (case w2011 => k_is)
    (case wb2011 => kernel_rfl)
    (case w2012 => k_is)
    (case wb2012 => kernel_rfl)
    (case w2013 => k_is)
    (case wb2013 => kernel_rfl)
    (case w2014 => k_is)
    (case wb2014 => kernel_rfl)
    (case w2006 => k_is)
    (case wb2006 => kernel_rfl)
    (case w2015 => k_is)
    (case wb2015 => kernel_rfl)
    (case w2007 => k_is)
    (case wb2007 => kernel_rfl)
    (case w2010 => k_is)
    (case wb2010 => kernel_rfl)
    (case w3000 => k_is)
    (case r3000 => k_is)
    (case wb3000 => kernel_rfl)
    (case w3002 => k_is)
    (case r3002 => k_is)
    (case wb3002 => kernel_rfl)
    (case cb9 => kernel_rfl)
    (case na9 => kernel_rfl)
    (case su9 => kernel_rfl)
    (case au9_Add => kernel_rfl)
    (case au9_Sub => kernel_rfl)
    (case l10 => k_is)
    (case c10 => k_is)
    (case k10 => k_is)
    (case l12 => k_is)
    (case c12 => k_is)
    (case k12 => k_is)
    (case l14 => k_is)
    (case c14 => k_is)
    (case k14 => k_is)
    (case l15 => k_is)
    (case c15 => k_is)
    (case k15 => k_is)
    (case l16 => k_is)
    (case c16 => k_is)
    (case k16 => k_is)
    (case l17 => k_is)
    (case c17 => k_is)
    (case k17 => k_is)
    (case l18 => k_is)
    (case c18 => k_is)
    (case k18 => k_is)
    (case l19 => k_is)
    (case c19 => k_is)
    (case k19 => k_is)
    (case l20 => k_is)
    (case c20 => k_is)
    (case k20 => k_is)
    (case l21 => k_is)
    (case c21 => k_is)
    (case k21 => k_is)
    (case l22 => k_is)
    (case c22 => k_is)
    (case k22 => k_is)
    (case l23 => k_is)
    (case c23 => k_is)
    (case k23 => k_is)
    (case l24 => k_is)
    (case c24 => k_is)
    (case k24 => k_is)
    (case l25 => k_is)
    (case c25 => k_is)
    (case k25 => k_is)
    (case l26 => k_is)
    (case c26 => k_is)
    (case k26 => k_is)
    (case l27 => k_is)
    (case c27 => k_is)
    (case k27 => k_is)
    (case l28 => k_is)
    (case c28 => k_is)
    (case k28 => k_is)
    (case l29 => k_is)
    (case c29 => k_is)
    (case k29 => k_is)
    (case l30 => k_is)
    (case c30 => k_is)
    (case k30 => k_is)
    (case l1002 => k_is)
    (case c1002 => k_is)
    (case k1002 => k_is)
    (case l1003 => k_is)
    (case c1003 => k_is)
    (case k1003 => k_is)
    (case l2000 => k_is)
    (case c2000 => k_is)
    (case k2000 => k_is)
    (case l2001 => k_is)
    (case c2001 => k_is)
    (case k2001 => k_is)
    (case l2003 => k_is)
    (case c2003 => k_is)
    (case k2003 => k_is)
    (case l2006 => k_is)
    (case c2006 => k_is)
    (case k2006 => k_is)
    (case l2007 => k_is)
    (case c2007 => k_is)
    (case k2007 => k_is)
    (case l2010 => k_is)
    (case c2010 => k_is)
    (case k2010 => k_is)
    (case l2011 => k_is)
    (case c2011 => k_is)
    (case k2011 => k_is)
    (case l2012 => k_is)
    (case c2012 => k_is)
    (case k2012 => k_is)
    (case l2013 => k_is)
    (case c2013 => k_is)
    (case k2013 => k_is)
    (case l2014 => k_is)
    (case c2014 => k_is)
    (case k2014 => k_is)
    (case l2015 => k_is)
    (case c2015 => k_is)
    (case k2015 => k_is)
    (case t4000 => k_is)
    (case e4000 => k_is)
    (case t4001 => k_is)
    (case e4001 => rfl)
    (case z_len => k_is)
    (case z_abs => k_is)
    (case z_max => k_is)
    (case z_int => k_is)
    (case z_str => k_is)
    (case z_list => k_is)
    (case z_tuple => k_is)
    (case z_all => k_is)
    (case z_isinstance => k_is)
    (case z_range => k_is)
    (case z_enumerate => k_is)
    (case z_zip => k_is)
    (case z_bool => k_is)
    (case z_ValueError => k_is)
    (case z_NotImplemented => k_is)
    (case is_Hands => kernel_rfl)
    (case is_bool => kernel_rfl)
    (case is_int => kernel_rfl)
    (case is_list => kernel_rfl)
    (case is_tuple => kernel_rfl)
    (case it_bool_str => kernel_rfl)
    (case it_list_tuple => kernel_rfl)
    (case xt_BelowZero => kernel_rfl)
