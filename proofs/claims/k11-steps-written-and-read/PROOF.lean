import PyProof.Rows.All
import PySem.Challenge.RW_ringwords_k11_steps_written_and_read
import HandS.ForMost
import HandS.Exc
import HandS.Walk
import HandS.WordsExc
import HandS.Ends
import HandS.Codes
import HandS.Replace
import HandS.More
import HandS.RaiseMore
import HandS.MapJoin
import HandS.TupAny
import HandS.Dict
import HandS.Iter
import HandS.Style
import PyProof.ReprRoads
import HandS.Words
import HandS.IsInst
import HandS.SortInts
import KE.DataMinMax
import PyProof.Rows.SortShellAny
import HandS.Zip
import KE.GoesEnum
import PyProof.Rows.RegReprOcc
import PyProof.ListStr
import HandS.TupLe
import HandS.NoneIn
import HandS.ExcInit
import KE.KExcIs
import HandS.ExcField
import HandS.ExcIs
import HandS.Deep
import HandS.Flow
import PyProof.CollectStr
import HandS.SuiteRaise
import HandS.RaiseFrom
import HandS.ExcInitHot
import HandS.TupMul
import HandS.Text
set_option Elab.async false
set_option linter.all false
set_option maxRecDepth 100000
set_option maxHeartbeats 4000000
/-! values as trees, owned lists and dicts in the slots -/
namespace GB
open PySem PySem.Spec PyProof.Rows L2
abbrev St := L2.St

inductive D where
  | non | bl (b : Bool) | int (i : Int) | str (l : List Nat) | tup (ds : List D) | lst (ds : List D) | scr (ds : List D) | dic (ks : List Key) (ds : List D)

/-- what a slot or a value holds: fz frozen; ol, od owned; br, bd borrowed; lk, kd locked -/
inductive S where
  | fz (d : D)
  | ol (ds : List D) | br (ds : List D) | lk (ds : List D)
  | od (kvs : List (Key × D)) | bd (kvs : List (Key × D)) | kd (kvs : List (Key × D))
  | exc (a dx : Addr) (c : Str) (fs : List (Str × D))
def S.own : S → Bool
  | .ol _ => true | .br _ => true | .od _ => true | .bd _ => true | _ => false
/-- tied to its slot: neither rebound nor handed on -/
def S.hard : S → Bool
  | .br _ => true | .bd _ => true | .lk _ => true | .kd _ => true | _ => false
def S.lkd : S → Bool
  | .lk _ => true | .kd _ => true | _ => false
def S.soft : S → Bool
  | .fz _ => true | .exc _ _ _ _ => true | _ => false
/-- what a slot's word may become -/
def Sl : S → S → Prop
  | .lk ds, t => t = .lk ds
  | .kd ds, t => t = .kd ds
  | .br _, t => ∃ ds, t = .br ds
  | .bd _, t => ∃ ds, t = .bd ds
  | _, _ => True
abbrev Rho := List (Option S)
/-- the end of an expression -/
inductive Rs (α : Type) where
  | ok (a : α) (r : Rho) | ex (c : Str) (fs : List (Str × D)) (r : Rho) | st
def Rs.bind {α β : Type} (x : Rs α) (f : α → Rho → Rs β) : Rs β :=
  match x with
  | .ok a r => f a r
  | .ex c fs r => .ex c fs r
  | .st => .st

/-- the law's own script: it stands as it is -/
def Scr (K : PySem.W.Frag) (H : Hp) (a : Addr) (xs : List V) : Prop := (∃ o, H a = some (.frz o (.lst xs))) ∨
    ∃ (o : Obj) (its : Array Value) (n : Nat), K.lookup a = some o ∧ o.cls = .type "list" ∧ o.dict = none ∧ o.data = .seq its n ∧ its.size ≤ sizeLine ∧ Vals xs its.toList
theorem Scr.seq {K : PySem.W.Frag} {H : Hp} {a : Addr} {xs : List V} (h : Scr K H a xs) : SqL K H a xs := h.elim (fun z => .inl (.inr z)) .inr
mutual
inductive Rp (K : PySem.W.Frag) (W : Addr → Prop) (H : Hp) : V → D → Prop
  | non : Rp K W H .non .non
  | bl (b : Bool) : Rp K W H (.bl b) (.bl b)
  | int (i : Int) : Rp K W H (.int i) (.int i)
  | str (l : List Nat) : Rp K W H (.str ⟨l.toArray⟩) (.str l)
  | tup {a : Addr} {xs : List V} {ds : List D} : SqT K H a xs → Rps K W H xs ds → Rp K W H (.ref a) (.tup ds)
  | lst {a : Addr} {xs : List V} {ds : List D} : H a = some (.lst xs) → ¬ W a → Rps K W H xs ds → Rp K W H (.ref a) (.lst ds)
  | scr {a : Addr} {xs : List V} {ds : List D} : Scr K H a xs → Rps K W H xs ds → Rp K W H (.ref a) (.scr ds)
  | dic {a : Addr} {xs : List (Key × V)} {ks : List Key} {ds : List D} : H a = some (.dK xs) → ¬ W a → xs.map Prod.fst = ks → Rps K W H (xs.map Prod.snd) ds → Rp K W H (.ref a) (.dic ks ds)
inductive Rps (K : PySem.W.Frag) (W : Addr → Prop) (H : Hp) : List V → List D → Prop
  | nil : Rps K W H [] []
  | cons {v : V} {vs : List V} {d : D} {ds : List D} : Rp K W H v d → Rps K W H vs ds → Rps K W H (v :: vs) (d :: ds)
end

def KR {κ : Type} (K : PySem.W.Frag) (W : Addr → Prop) (H : Hp) : List (κ × V) → List (κ × D) → Prop := Paired fun p q => p.1 = q.1 ∧ Rp K W H p.2 q.2

inductive SR (K : PySem.W.Frag) (U W : Addr → Prop) (H : Hp) : V → S → Prop
  | fz {v : V} {d : D} : Rp K W H v d → SR K U W H v (.fz d)
  | ol {p : Addr} {xs : List V} {ds : List D} : H p = some (.lst xs) → Rps K W H xs ds → SR K U W H (.ref p) (.ol ds)
  | br {p : Addr} {xs : List V} {ds : List D} : H p = some (.lst xs) → Rps K W H xs ds → SR K U W H (.ref p) (.br ds)
  | lk {p : Addr} {xs : List V} {ds : List D} : H p = some (.lst xs) → U p → Rps K W H xs ds → SR K U W H (.ref p) (.lk ds)
  | od {p : Addr} {xs : List (Key × V)} {ds : List (Key × D)} : H p = some (.dK xs) → KR K W H xs ds → SR K U W H (.ref p) (.od ds)
  | bd {p : Addr} {xs : List (Key × V)} {ds : List (Key × D)} : H p = some (.dK xs) → KR K W H xs ds → SR K U W H (.ref p) (.bd ds)
  | kd {p : Addr} {xs : List (Key × V)} {ds : List (Key × D)} : H p = some (.dK xs) → U p → KR K W H xs ds → SR K U W H (.ref p) (.kd ds)
  | exc {a dx : Addr} {c : Str} {fv : List (Str × V)} {fs : List (Str × D)} : H dx = some (.xd fv) → KR K W H fv fs → SR K U W H (.ref a) (.exc a dx c fs)

/-- an object that may be written -/
def Lv (H : Hp) (a : Addr) : Prop := (∃ xs, H a = some (.lst xs)) ∨ ∃ kvs, H a = some (.dK kvs)
def Own (σ : St) (r : Rho) (a : Addr) : Prop := ∃ (i : Nat) (s : S), r[i]? = some (some s) ∧ s.own = true ∧ σ[i]? = some (some (V.ref a))
def Wn (U : Addr → Prop) (σ : St) (r : Rho) (a : Addr) : Prop := Own σ r a ∨ U a

structure Ct where
  K : PySem.W.Frag
  mg : Str → Option Value
  W : WX

structure Sit (C : Ct) (U : Addr → Prop) (H : Hp) (σ : St) (r : Rho) : Prop where
  len : σ.length = r.length
  rep : ∀ (i : Nat) (s : S), r[i]? = some (some s) → ∃ v, σ[i]? = some (some v) ∧ SR C.K U (Wn U σ r) H v s
  inj : ∀ (i j : Nat) (s t : S) (v : V), r[i]? = some (some s) → s.soft = false → r[j]? = some (some t) → t.soft = false → σ[i]? = some (some v) → σ[j]? = some (some v) → i = j
  dis : ∀ a, Own σ r a → ¬ U a
  uok : ∀ a, U a → Lv H a

theorem Lv.xd {H : Hp} {a : Addr} {fv : List (Str × V)} (h : Lv H a) (k : H a = some (.xd fv)) : False := by
  rcases h with ⟨_, q⟩ | ⟨_, q⟩ <;> (rw [k] at q; cases q)
theorem SR.ownLv {K : PySem.W.Frag} {U W : Addr → Prop} {H : Hp} {v : V} {s : S} (x : SR K U W H v s) (h : s.own = true) : ∃ p, v = .ref p ∧ Lv H p := by
  cases x with
  | ol e _ => exact ⟨_, rfl, .inl ⟨_, e⟩⟩
  | br e _ => exact ⟨_, rfl, .inl ⟨_, e⟩⟩
  | od e _ => exact ⟨_, rfl, .inr ⟨_, e⟩⟩
  | bd e _ => exact ⟨_, rfl, .inr ⟨_, e⟩⟩
  | fz _ => cases h
  | lk _ _ _ => cases h
  | kd _ _ _ => cases h
  | exc _ _ => cases h

theorem Sit.wlv {C : Ct} {U : Addr → Prop} {H : Hp} {σ : St} {r : Rho} (x : Sit C U H σ r) : ∀ a, Wn U σ r a → Lv H a := fun a h => by
  rcases h with ⟨i, s, h1, h2, h3⟩ | h
  · obtain ⟨v, e, y⟩ := x.rep i s h1
    rw [h3] at e; cases e
    obtain ⟨p, e, l⟩ := y.ownLv h2
    cases e; exact l
  · exact x.uok a h

/-- what carries a tree over -/
structure Mono (U W : Addr → Prop) (H : Hp) (U' W' : Addr → Prop) (H' : Hp) : Prop where
  lv : ∀ a, W a → Lv H a
  keep : ∀ a o, ¬ W a → H a = some o → H' a = some o
  free : ∀ a o, ¬ W a → H a = some o → ¬ W' a
  keepU : ∀ a o, U a → H a = some o → H' a = some o
  sub : ∀ a, U a → U' a

section
variable {K : PySem.W.Frag} {U W U' W' : Addr → Prop} {H H' : Hp}
theorem Rd.lvn {a : Addr} {u : HO} (h : Rd H a u) (l : Lv H a) (hu : ∀ o, Rd H a (.lst o) ∨ True) : H a = some u := by
  rcases h with h | ⟨o, h⟩
  · exact h
  · rcases l with ⟨_, e⟩ | ⟨_, e⟩ <;> (rw [h] at e; cases e)
theorem Mono.rd (m : Mono U W H U' W' H') {a : Addr} {u : HO} (h : Rd H a u) (n : ¬ W a) : Rd H' a u ∧ ¬ W' a := by
  rcases h with h | ⟨o, h⟩
  · exact ⟨.inl (m.keep a _ n h), m.free a _ n h⟩
  · exact ⟨.inr ⟨o, m.keep a _ n h⟩, m.free a _ n h⟩
theorem Mono.tup (m : Mono U W H U' W' H') {a : Addr} {xs : List V} (h : SqT K H a xs) : SqT K H' a xs := by
  rcases h with h | h
  · have n : ¬ W a := fun w => by
      rcases h with h | ⟨o, h⟩ <;> (rcases m.lv a w with ⟨_, e⟩ | ⟨_, e⟩ <;> (rw [h] at e; cases e))
    exact .inl (m.rd h n).1
  · exact .inr h
theorem Mono.scr (m : Mono U W H U' W' H') {a : Addr} {xs : List V} (h : Scr K H a xs) : Scr K H' a xs := by
  rcases h with ⟨o, h⟩ | h
  · have n : ¬ W a := fun w => by rcases m.lv a w with ⟨_, e⟩ | ⟨_, e⟩ <;> (rw [h] at e; cases e)
    exact .inl ⟨o, m.keep a _ n h⟩
  · exact .inr h
mutual
theorem Rp.mono (m : Mono U W H U' W' H') : ∀ {v : V} {d : D}, Rp K W H v d → Rp K W' H' v d
  | _, _, .non => .non
  | _, _, .bl b => .bl b
  | _, _, .int i => .int i
  | _, _, .str l => .str l
  | _, _, .tup h t => .tup (m.tup h) (Rps.mono m t)
  | _, _, .lst h n t => .lst (m.keep _ _ n h) (m.free _ _ n h) (Rps.mono m t)
  | _, _, .scr h t => .scr (m.scr h) (Rps.mono m t)
  | _, _, .dic h n e t => .dic (m.keep _ _ n h) (m.free _ _ n h) e (Rps.mono m t)
theorem Rps.mono (m : Mono U W H U' W' H') : ∀ {v : List V} {d : List D}, Rps K W H v d → Rps K W' H' v d
  | _, _, .nil => .nil
  | _, _, .cons h t => .cons (Rp.mono m h) (Rps.mono m t)
end
theorem KR.mono {κ : Type} (m : Mono U W H U' W' H') {v : List (κ × V)} {d : List (κ × D)} (h : KR K W H v d) : KR K W' H' v d := Paired.mapP h fun _ _ q => ⟨q.1, q.2.mono m⟩
theorem SR.mono (m : Mono U W H U' W' H') {v : V} {s : S} (h : SR K U W H v s) (ho : ∀ a o, s.own = true → v = .ref a → H a = some o → H' a = some o) : SR K U' W' H' v s := by
  cases h with
  | fz x => exact .fz (x.mono m)
  | ol e x => exact .ol (ho _ _ rfl rfl e) (x.mono m)
  | br e x => exact .br (ho _ _ rfl rfl e) (x.mono m)
  | lk e u x => exact .lk (m.keepU _ _ u e) (m.sub _ u) (x.mono m)
  | od e x => exact .od (ho _ _ rfl rfl e) (x.mono m)
  | bd e x => exact .bd (ho _ _ rfl rfl e) (x.mono m)
  | kd e u x => exact .kd (m.keepU _ _ u e) (m.sub _ u) (x.mono m)
  | exc e x => exact .exc (m.keep _ _ (fun w => (m.lv _ w).xd e) e) (x.mono m)
end

/-- an operand: a slot's thing as it stands when it is used, or a value of its own -/
inductive Opd where
  | loc (i : Nat) | val (s : S)
def res (r : Rho) : Opd → Option S
  | .loc i => (r[i]?).join
  | .val s => some s
def OpOk (C : Ct) (U : Addr → Prop) (H : Hp) (σ : St) (r : Rho) (o : Opd) (v : V) : Prop :=
  match o with
  | .loc i => σ[i]? = some (some v) ∧ ∃ s, r[i]? = some (some s)
  | .val s => SR C.K U (Wn U σ r) H v s ∧ (∀ p, s.own = true → v = .ref p → U p) ∧ s.hard = false
/-- from one state of the code to a later one -/
structure Aft (U : Addr → Prop) (H : Hp) (σ : St) (r : Rho) (U' : Addr → Prop) (H' : Hp) (σ' : St) (r' : Rho) : Prop where
  sub : ∀ a, U a → U' a
  new : ∀ a, U' a → U a ∨ H a = none ∨ Own σ r a
  grow : ∀ a, Own σ' r' a → Own σ r a ∨ H a = none
  keep : ∀ a o, H a = some o → ¬ Own σ r a → H' a = some o
  there : ∀ a o, H a = some o → ∃ o', H' a = some o'
  pin : ∀ (i : Nat) (s : S), r[i]? = some (some s) → s.hard = true → ∃ s', r'[i]? = some (some s') ∧ Sl s s' ∧ σ'[i]? = σ[i]?
  lok : ∀ (i : Nat) (s : S), r'[i]? = some (some s) → s.lkd = true → r[i]? = some (some s) ∧ σ'[i]? = σ[i]?
/-- within an expression the slots stay -/
def Per (r r' : Rho) : Prop := ∀ (i : Nat) (s : S), r[i]? = some (some s) → ∃ s', r'[i]? = some (some s')

section
variable {C : Ct} {U U' U'' : Addr → Prop} {H H' H'' : Hp} {σ σ' σ'' : St} {r r' r'' : Rho}
theorem Sl.refl (s : S) : Sl s s := by cases s <;> simp [Sl]
theorem Sl.hard {s t : S} (h : Sl s t) (k : s.hard = true) : t.hard = true := by
  cases s <;> simp [S.hard] at k <;> simp [Sl] at h
  · obtain ⟨_, rfl⟩ := h; rfl
  · subst h; rfl
  · obtain ⟨_, rfl⟩ := h; rfl
  · subst h; rfl
theorem Sl.trans {s t u : S} (h : Sl s t) (k : Sl t u) : Sl s u := by
  cases s <;> simp only [Sl] at *
  · obtain ⟨_, rfl⟩ := h; simpa [Sl] using k
  · subst h; simpa [Sl] using k
  · obtain ⟨_, rfl⟩ := h; simpa [Sl] using k
  · subst h; simpa [Sl] using k
theorem Aft.refl : Aft U H σ r U H σ r := ⟨fun _ h => h, fun _ h => .inl h, fun _ h => .inl h, fun _ _ h _ => h, fun _ o h => ⟨o, h⟩, fun i s h _ => ⟨s, h, Sl.refl s, rfl⟩, fun i s h _ => ⟨h, rfl⟩⟩
theorem Aft.back (x : Aft U H σ r U' H' σ' r') {a : Addr} (h : H' a = none) : H a = none := by
  cases e : H a with
  | none => rfl
  | some o =>
    obtain ⟨_, q⟩ := x.there a o e
    rw [h] at q; cases q
theorem Aft.trans (x : Aft U H σ r U' H' σ' r') (y : Aft U' H' σ' r' U'' H'' σ'' r'') : Aft U H σ r U'' H'' σ'' r'' where
  sub := fun a h => y.sub a (x.sub a h)
  new := fun a h => by
    rcases y.new a h with h | h | h
    · exact x.new a h
    · exact .inr (.inl (x.back h))
    · rcases x.grow a h with h | h
      · exact .inr (.inr h)
      · exact .inr (.inl h)
  grow := fun a h => by
    rcases y.grow a h with h | h
    · exact x.grow a h
    · exact .inr (x.back h)
  keep := fun a o h n => by
    have q := x.keep a o h n
    exact y.keep a o q fun z => by
      rcases x.grow a z with z | z
      · exact n z
      · rw [h] at z; cases z
  there := fun a o h => by
    obtain ⟨o', h'⟩ := x.there a o h
    exact y.there a o' h'
  pin := fun i s h k => by
    obtain ⟨s', h', l, e⟩ := x.pin i s h k
    obtain ⟨s'', h'', l', e'⟩ := y.pin i s' h' (l.hard k)
    exact ⟨s'', h'', l.trans l', e'.trans e⟩
  lok := fun i s h k => by
    obtain ⟨h1, e1⟩ := y.lok i s h k
    obtain ⟨h2, e2⟩ := x.lok i s h1 k
    exact ⟨h2, e1.trans e2⟩
theorem Aft.mono (x : Aft U H σ r U' H' σ' r') (s : Sit C U H σ r) : Mono U (Wn U σ r) H U' (Wn U' σ' r') H' where
  lv := s.wlv
  keep := fun a o n h => x.keep a o h fun z => n (.inl z)
  free := fun a o n h => fun z => by
    rcases z with z | z
    · rcases x.grow a z with z | z
      · exact n (.inl z)
      · rw [h] at z; cases z
    · rcases x.new a z with z | z | z
      · exact n (.inr z)
      · rw [h] at z; cases z
      · exact n (.inl z)
  keepU := fun a o u h => x.keep a o h fun z => s.dis a z u
  sub := x.sub
theorem OpOk.after {o : Opd} {v : V} (k : OpOk C U H σ r o v) (x : Aft U H σ r U' H' σ r') (s : Sit C U H σ r) (p : Per r r') : OpOk C U' H' σ r' o v := by
  cases o with
  | loc i => exact ⟨k.1, let ⟨t, h⟩ := k.2; p i t h⟩
  | val t =>
    obtain ⟨k1, k2, k3⟩ := k
    refine ⟨k1.mono (x.mono s) fun a o ho hv h => ?_, fun p ho hv => x.sub p (k2 p ho hv), k3⟩
    exact x.keep a o h fun z => s.dis a z (k2 a ho hv)
theorem OpOk.res {o : Opd} {v : V} (k : OpOk C U H σ r o v) (s : Sit C U H σ r) : ∃ t, res r o = some t ∧ SR C.K U (Wn U σ r) H v t := by
  cases o with
  | loc i =>
    obtain ⟨e, t, h⟩ := k
    obtain ⟨v', e', y⟩ := s.rep i t h
    rw [e] at e'; cases e'
    exact ⟨t, by simp [GB.res, h], y⟩
  | val t => exact ⟨t, rfl, k.1⟩
theorem Per.refl : Per r r := fun _ s h => ⟨s, h⟩
theorem Per.trans (x : Per r r') (y : Per r' r'') : Per r r'' := fun i s h => let ⟨t, h'⟩ := x i s h; y i t h'
end

/-- an exception: its class by name, its fields -/
def XRp (C : Ct) (W : Addr → Prop) (c : Str) (fs : List (Str × D)) (cls : Value) (d : Option Addr) (H : Hp) : Prop :=
  ∃ (a dx : Addr) (fv : List (Str × V)), cls = .ref a ∧ C.mg c = some (.ref a) ∧ d = some dx ∧ H dx = some (.xd fv) ∧ KR C.K W H fv fs
/-- what is wanted where an exception leaves -/
def XWant (C : Ct) (U : Addr → Prop) (H : Hp) (σ : St) (r : Rho) (c : Str) (fs : List (Str × D)) (r' : Rho) : Prop :=
  ∀ cls d σ' H' U', Sit C U' H' σ' r' → Aft U H σ r U' H' σ' r' → XRp C (Wn U' σ' r') c fs cls d H' → C.W cls d σ' H'
/-- a value of its own is a new object -/
def New (H : Hp) (o : Opd) (v : V) : Prop := ∀ s p, o = .val s → s.own = true → v = .ref p → H p = none
/-- the reading of an expression by its function -/
def tE (C : Ct) (f : Rho → Rs Opd) : TE := fun σ H Q => ∃ U r, Sit C U H σ r ∧
  match f r with
  | .ok o r' => ∀ v H' U', Sit C U' H' σ r' → Aft U H σ r U' H' σ r' → Per r r' → OpOk C U' H' σ r' o v → New H o v → Q v H'
  | .ex c fs r' => XWant C U H σ r c fs r'
  | .st => False
abbrev GE (X : Cx) (C : Ct) (e : Expr) (f : Rho → Rs Opd) : Prop := PE X e (tE C f)
end GB

/-! expressions -/
namespace GB
open PySem PySem.Spec PyProof.Rows L2

theorem weakE {X : Cx} {e : Expr} {t t' : TE} (h : PE X e t) (k : ∀ σ H Q, t' σ H Q → t σ H Q) : PE X e t' := ⟨fun pins s σ H Q I q => h.run pins s σ H Q I (k σ H Q q)⟩
theorem weakT {X : Cx} {e : Expr} {t t' : TT} (h : PT X e t) (k : ∀ σ H Q, t' σ H Q → t σ H Q) : PT X e t' := ⟨fun pins s σ H Q I q => h.run pins s σ H Q I (k σ H Q q)⟩
theorem orE {X : Cx} {e : Expr} {t t' : TE} (h : PE X e t) (h' : PE X e t') : PE X e (fun σ H Q => t σ H Q ∨ t' σ H Q) := ⟨fun pins s σ H Q I q => q.elim (h.run pins s σ H Q I) (h'.run pins s σ H Q I)⟩

section
variable {C : Ct} {U U' : Addr → Prop} {H H' : Hp} {σ : St} {r : Rho}
theorem Lv.grow {a : Addr} (h : Lv H a) (k : ∀ a o, H a = some o → H' a = some o) : Lv H' a := by
  rcases h with ⟨x, h⟩ | ⟨x, h⟩
  · exact .inl ⟨x, k _ _ h⟩
  · exact .inr ⟨x, k _ _ h⟩
theorem Lv.ne {a : Addr} (h : Lv H a) (k : H a = none) : False := by
  rcases h with ⟨x, h⟩ | ⟨x, h⟩ <;> (rw [h] at k; cases k)
/-- the heap has grown -/
theorem Sit.ext (s : Sit C U H σ r) (k : ∀ a o, H a = some o → H' a = some o) (u1 : ∀ a, U a → U' a) (u2 : ∀ a, U' a → U a ∨ H a = none) (u3 : ∀ a, U' a → Lv H' a) : Sit C U' H' σ r ∧ Aft U H σ r U' H' σ r := by
  have x : Aft U H σ r U' H' σ r := ⟨u1, fun a h => (u2 a h).elim .inl fun z => .inr (.inl z), fun _ h => .inl h, fun a o h _ => k a o h, fun a o h => ⟨o, k a o h⟩, fun i s h _ => ⟨s, h, Sl.refl s, rfl⟩, fun i s h _ => ⟨h, rfl⟩⟩
  refine ⟨⟨s.len, fun i t h => ?_, s.inj, fun a h z => ?_, u3⟩, x⟩
  · obtain ⟨v, e, y⟩ := s.rep i t h
    exact ⟨v, e, y.mono (x.mono s) fun a o _ _ q => k a o q⟩
  · rcases u2 a z with z | z
    · exact s.dis a h z
    · exact (s.wlv a (.inl h)).ne z

/-- what a built-in gives: a frozen tree, or a new object of its own -/
inductive Got (K : PySem.W.Frag) (W : Addr → Prop) (H : Hp) : S → V → Hp → Prop
  | fz {v : V} {d : D} {H' : Hp} : (∀ a o, H a = some o → H' a = some o) → Rp K W H' v d → Got K W H (.fz d) v H'
  | ol {p : Addr} {xs : List V} {ds : List D} {H' : Hp} : (∀ a o, H a = some o → H' a = some o) → H p = none → H' p = some (.lst xs) → Rps K (fun a => W a ∨ a = p) H' xs ds → Got K W H (.ol ds) (.ref p) H'
  | od {p : Addr} {xs : List (Key × V)} {ds : List (Key × D)} {H' : Hp} : (∀ a o, H a = some o → H' a = some o) → H p = none → H' p = some (.dK xs) → KR K (fun a => W a ∨ a = p) H' xs ds → Got K W H (.od ds) (.ref p) H'

theorem own_set {p : Addr} (hp : H p = none) (s : Sit C U H σ r) (k : ∀ a o, H a = some o → H' a = some o) (l : Lv H' p) : Sit C (fun a => U a ∨ a = p) H' σ r ∧ Aft U H σ r (fun a => U a ∨ a = p) H' σ r :=
  s.ext k (fun a h => .inl h) (fun a h => h.elim .inl fun z => .inr (by rw [z]; exact hp)) fun a h => h.elim (fun z => (s.uok a z).grow k) fun z => by rw [z]; exact l
theorem wn_or {p : Addr} : (Wn (fun a => U a ∨ a = p) σ r) = fun a => Wn U σ r a ∨ a = p := by
  funext a
  simp only [Wn, or_assoc]
theorem Got.fin {s : S} {v : V} (g : Got C.K (Wn U σ r) H s v H') (st : Sit C U H σ r) : ∃ U', Sit C U' H' σ r ∧ Aft U H σ r U' H' σ r ∧ OpOk C U' H' σ r (.val s) v ∧ New H (.val s) v := by
  cases g with
  | fz k x =>
    obtain ⟨s1, a1⟩ := st.ext k (fun _ h => h) (fun _ h => .inl h) fun a h => (st.uok a h).grow k
    exact ⟨U, s1, a1, ⟨.fz x, fun p h => (nomatch h), rfl⟩, fun _ _ h q _ => by cases h; cases q⟩
  | @ol p xs ds _ k hp e x =>
    obtain ⟨s1, a1⟩ := own_set hp st k (.inl ⟨_, e⟩)
    refine ⟨_, s1, a1, ⟨.ol e (by rw [wn_or]; exact x), fun q _ h => .inr (V.ref.inj h).symm, rfl⟩, fun _ _ _ _ h => by cases h; exact hp⟩
  | @od p xs ds _ k hp e x =>
    obtain ⟨s1, a1⟩ := own_set hp st k (.inr ⟨_, e⟩)
    refine ⟨_, s1, a1, ⟨.od e (by rw [wn_or]; exact x), fun q _ h => .inr (V.ref.inj h).symm, rfl⟩, fun _ _ _ _ h => by cases h; exact hp⟩
/-- a new object at p: the trees stay -/
theorem monoNew {W : Addr → Prop} {p : Addr} (lv : ∀ a, W a → Lv H a) (hp : H p = none) (k : ∀ a o, H a = some o → H' a = some o) : Mono (fun _ => False) W H (fun _ => False) (fun a => W a ∨ a = p) H' :=
  ⟨lv, fun a o _ h => k a o h, fun a o n h z => z.elim n fun z => (by rw [z, hp] at h; cases h), fun _ _ z => z.elim, fun _ z => z.elim⟩
theorem monoKeep {W : Addr → Prop} (lv : ∀ a, W a → Lv H a) (k : ∀ a o, H a = some o → H' a = some o) : Mono (fun _ => False) W H (fun _ => False) W H' :=
  ⟨lv, fun a o _ h => k a o h, fun a o n h => n, fun _ _ z => z.elim, fun _ z => z.elim⟩
theorem upd_keep {p : Addr} {o : HO} (hp : H p = none) : ∀ a u, H a = some u → upd H p o a = some u := fun a u h => by rw [upd_ne (ne_of_none h hp)]; exact h
theorem Got.newL {W : Addr → Prop} {p : Addr} {xs : List V} {ds : List D} (lv : ∀ a, W a → Lv H a) (hp : H p = none) (x : Rps C.K W H xs ds) : Got C.K W H (.ol ds) (.ref p) (upd H p (.lst xs)) :=
  .ol (upd_keep hp) hp upd_same (x.mono (monoNew lv hp (upd_keep hp)))
theorem Got.newT {W : Addr → Prop} {p : Addr} {xs : List V} {ds : List D} (lv : ∀ a, W a → Lv H a) (hp : H p = none) (x : Rps C.K W H xs ds) : Got C.K W H (.fz (.tup ds)) (.ref p) (upd H p (.tup xs)) :=
  .fz (upd_keep hp) (.tup (.inl (.inl upd_same)) (x.mono (monoKeep lv (upd_keep hp))))
theorem Got.same {K : PySem.W.Frag} {W : Addr → Prop} {v : V} {d : D} (x : Rp K W H v d) : Got K W H (.fz d) v H := .fz (fun _ _ h => h) x
end

/-! ### names and constants -/
section
variable {X : Cx} {C : Ct} {a b e : Expr} {es : List Expr} {fa fb fe : Rho → Rs Opd} {pos : Pos}
def eVar (i : Nat) : Rho → Rs Opd := fun r => match r[i]? with
  | some (some _) => .ok (.loc i) r
  | _ => .st
theorem ge_var {i : Nat} {x : Str} (hN : X.N[i]? = some x) (hv : Vis X.env.scope x) (hd : (x == ("__debug__" : Str)) = false := by decide) (hcd : (x == ("__classdict__" : Str)) = false := by decide) : GE X C (.Name x pos) (eVar i) := by
  refine weakE (pe_var hN hv hd hcd) fun σ H Q h => ?_
  obtain ⟨U, r, s, h⟩ := h
  unfold eVar at h
  split at h
  · rename_i z h'
    split at h'
    · rename_i t ht
      obtain ⟨v, ev, y⟩ := s.rep i t ht
      cases h'
      exact ⟨v, ev, h v H U s Aft.refl Per.refl ⟨ev, t, ht⟩ fun _ _ z => (nomatch z)⟩
    · cases h'
  · rename_i h'
    split at h' <;> cases h'
  · exact h.elim
def eC (d : D) : Rho → Rs Opd := fun r => .ok (.val (.fz d)) r
theorem ge_c {v : V} {d : D} (h : PE X e (tC v)) (hr : ∀ W H, Rp C.K W H v d) : GE X C e (eC d) := by
  refine weakE h fun σ H Q h => ?_
  obtain ⟨U, r, s, h⟩ := h
  exact h v H U s Aft.refl Per.refl ⟨.fz (hr _ _), fun p z => (nomatch z), rfl⟩ fun _ _ z q _ => by cases z; cases q

/-! ### arguments -/
abbrev OpsOk (C : Ct) (U : Addr → Prop) (H : Hp) (σ : St) (r : Rho) : List Opd → List V → Prop := Paired fun o v => OpOk C U H σ r o v
abbrev NewS (H : Hp) : List Opd → List V → Prop := Paired fun o v => New H o v
def tA (C : Ct) (f : Rho → Rs (List Opd)) : TA := fun σ H Q => ∃ U r, Sit C U H σ r ∧
  match f r with
  | .ok os r' => ∀ vs H' U', Sit C U' H' σ r' → Aft U H σ r U' H' σ r' → Per r r' → OpsOk C U' H' σ r' os vs → NewS H os vs → Q vs H'
  | .ex c fs r' => XWant C U H σ r c fs r'
  | .st => False
abbrev GA (X : Cx) (C : Ct) (es : List Expr) (f : Rho → Rs (List Opd)) : Prop := PA X es (tA C f)
def eNil : Rho → Rs (List Opd) := fun r => .ok [] r
def eCons (fe : Rho → Rs Opd) (fr : Rho → Rs (List Opd)) : Rho → Rs (List Opd) := fun r => (fe r).bind fun o r1 => (fr r1).bind fun os r2 => .ok (o :: os) r2
theorem weakA {t t' : TA} (h : PA X es t) (k : ∀ σ H Q, t' σ H Q → t σ H Q) : PA X es t' := ⟨fun pos pins s σ H Q I q => h.run pos pins s σ H Q I (k σ H Q q)⟩
theorem ga_nil : GA X C [] eNil := by
  refine weakA pa_nil fun σ H Q h => ?_
  obtain ⟨U, r, s, h⟩ := h
  exact h [] H U s Aft.refl Per.refl .nil .nil
theorem XWant.before {U U' : Addr → Prop} {H H' : Hp} {σ σ' : St} {r r' r'' : Rho} {c : Str} {fs : List (Str × D)} (x : XWant C U H σ r c fs r'') (a : Aft U H σ r U' H' σ' r') : XWant C U' H' σ' r' c fs r'' :=
  fun cls d σ2 H2 U2 s2 a2 e2 => x cls d σ2 H2 U2 s2 (a.trans a2) e2
/-- one expression, then what follows with it -/
theorem tE_then {α : Type} {f : Rho → Rs Opd} {g : Opd → Rho → Rs α} {σ : St} {H : Hp} {Q : VK} {U : Addr → Prop} {r : Rho} {R : Rs α → Prop} (s : Sit C U H σ r) (h : R ((f r).bind g))
    (hst : R .st → False) (hex : ∀ c fs r', R (.ex c fs r') → XWant C U H σ r c fs r')
    (hok : ∀ o r' v H' U', Sit C U' H' σ r' → Aft U H σ r U' H' σ r' → Per r r' → OpOk C U' H' σ r' o v → New H o v → R (g o r') → Q v H') : tE C f σ H Q := by
  refine ⟨U, r, s, ?_⟩
  cases e : f r with
  | ok o r' => rw [e] at h; exact fun v H' U' s' a' p' k' n' => hok o r' v H' U' s' a' p' k' n' h
  | ex c fs r' => rw [e] at h; exact hex c fs r' h
  | st => rw [e] at h; exact hst h
theorem tA_then {α : Type} {f : Rho → Rs (List Opd)} {g : List Opd → Rho → Rs α} {σ : St} {H : Hp} {Q : List V → Hp → Prop} {U : Addr → Prop} {r : Rho} {R : Rs α → Prop} (s : Sit C U H σ r) (h : R ((f r).bind g))
    (hst : R .st → False) (hex : ∀ c fs r', R (.ex c fs r') → XWant C U H σ r c fs r')
    (hok : ∀ o r' v H' U', Sit C U' H' σ r' → Aft U H σ r U' H' σ r' → Per r r' → OpsOk C U' H' σ r' o v → NewS H o v → R (g o r') → Q v H') : tA C f σ H Q := by
  refine ⟨U, r, s, ?_⟩
  cases e : f r with
  | ok o r' => rw [e] at h; exact fun v H' U' s' a' p' k' n' => hok o r' v H' U' s' a' p' k' n' h
  | ex c fs r' => rw [e] at h; exact hex c fs r' h
  | st => rw [e] at h; exact hst h
theorem OpsOk.after {U U' : Addr → Prop} {H H' : Hp} {σ : St} {r r' : Rho} (x : Aft U H σ r U' H' σ r') (s : Sit C U H σ r) (p : Per r r') : ∀ {os : List Opd} {vs : List V}, OpsOk C U H σ r os vs → OpsOk C U' H' σ r' os vs
  | _, _, .nil => .nil
  | _, _, .cons k t => .cons (k.after x s p) (OpsOk.after x s p t)
theorem New.back {U U' : Addr → Prop} {H H' : Hp} {σ σ' : St} {r r' : Rho} (a : Aft U H σ r U' H' σ' r') {o : Opd} {v : V} (n : New H' o v) : New H o v := fun s p e1 e2 e3 => a.back (n s p e1 e2 e3)
theorem NewS.back {U U' : Addr → Prop} {H H' : Hp} {σ σ' : St} {r r' : Rho} (a : Aft U H σ r U' H' σ' r') {os : List Opd} {vs : List V} (n : NewS H' os vs) : NewS H os vs := Paired.mapP n fun _ _ q => q.back a
theorem ga_cons {fr : Rho → Rs (List Opd)} (he : GE X C e fe) (hr : GA X C es fr) (hs : starEach (e :: es) X.env = (false, eval e X.env) :: starEach es X.env := by rfl) : GA X C (e :: es) (eCons fe fr) := by
  refine weakA (pa_cons he hr hs) fun σ H Q h => ?_
  obtain ⟨U, r, s, h⟩ := h
  refine tE_then (R := fun z => match z with | .ok os r' => ∀ vs H' U', Sit C U' H' σ r' → Aft U H σ r U' H' σ r' → Per r r' → OpsOk C U' H' σ r' os vs → NewS H os vs → Q vs H' | .ex c fs r' => XWant C U H σ r c fs r' | .st => False) s h id (fun _ _ _ z => z) ?_
  intro o r1 v H1 U1 s1 a1 p1 k1 n1 h1
  refine tA_then (R := fun z => match z with | .ok os r' => ∀ vs H' U', Sit C U' H' σ r' → Aft U H σ r U' H' σ r' → Per r r' → OpsOk C U' H' σ r' os vs → NewS H os vs → Q vs H' | .ex c fs r' => XWant C U H σ r c fs r' | .st => False) s1 h1 id (fun _ _ _ z => XWant.before z a1) ?_
  intro os r2 vs H2 U2 s2 a2 p2 k2 n2 h2
  exact h2 (v :: vs) H2 U2 s2 (a1.trans a2) (p1.trans p2) (.cons (k1.after a2 s1 p2) k2) (.cons n1 (NewS.back a1 n2))
def resAll (r : Rho) : List Opd → Option (List S)
  | [] => some []
  | o :: os => match res r o, resAll r os with
    | some s, some ss => some (s :: ss)
    | _, _ => none
abbrev SRs (K : PySem.W.Frag) (U W : Addr → Prop) (H : Hp) : List V → List S → Prop := Paired fun v s => SR K U W H v s
theorem OpsOk.res {U : Addr → Prop} {H : Hp} {σ : St} {r : Rho} (s : Sit C U H σ r) : ∀ {os : List Opd} {vs : List V}, OpsOk C U H σ r os vs → ∃ ss, resAll r os = some ss ∧ SRs C.K U (Wn U σ r) H vs ss
  | _, _, .nil => ⟨[], rfl, .nil⟩
  | _, _, .cons k t => by
    obtain ⟨a, e1, x1⟩ := k.res s
    obtain ⟨as, e2, x2⟩ := OpsOk.res s t
    exact ⟨a :: as, by simp only [resAll, e1, e2], .cons x1 x2⟩
/-- a built-in by its function on words -/
abbrev Pr := List S → Option S
def PN (C : Ct) (rr : List V → Hp → VK → Prop) (p : Pr) : Prop :=
  ∀ (U W : Addr → Prop) (H : Hp) (vs : List V) (ss : List S) (s : S) (Q : VK), (∀ a, W a → Lv H a) → SRs C.K U W H vs ss → p ss = some s → (∀ v H', Got C.K W H s v H' → Q v H') → rr vs H Q
/-- the words' function applied to operands -/
def eP (p : Pr) (os : List Opd) (r : Rho) : Rs Opd := match resAll r os with
  | some ss => (match p ss with | some s => .ok (.val s) r | none => .st)
  | none => .st
def eCall (p : Pr) (fa : Rho → Rs (List Opd)) : Rho → Rs Opd := fun r => (fa r).bind (eP p)
theorem eP_fin {rr : List V → Hp → VK → Prop} {p : Pr} (hp : PN C rr p) {U U' : Addr → Prop} {H H' : Hp} {σ : St} {r r' : Rho} {os : List Opd} {vs : List V} {Q : VK} (s : Sit C U' H' σ r') (a : Aft U H σ r U' H' σ r') (pe : Per r r') (k : OpsOk C U' H' σ r' os vs)
    (h : match eP p os r' with | .ok o r' => ∀ v H' U', Sit C U' H' σ r' → Aft U H σ r U' H' σ r' → Per r r' → OpOk C U' H' σ r' o v → New H o v → Q v H' | .ex c fs r' => XWant C U H σ r c fs r' | .st => False) : rr vs H' Q := by
  obtain ⟨ss, e, x⟩ := k.res s
  unfold eP at h
  simp only [e] at h
  cases e2 : p ss with
  | none => simp only [e2] at h
  | some t =>
    simp only [e2] at h
    refine hp U' _ H' vs ss t Q s.wlv x e2 fun v H2 g => ?_
    obtain ⟨U2, s2, a2, k2, n2⟩ := g.fin s
    exact h v H2 U2 s2 (a.trans a2) pe k2 (n2.back a)
theorem ge_call {rr : List V → Hp → VK → Prop} {p : Pr} {f : Rho → Rs (List Opd)} (hp : PN C rr p) (h : PE X e (tCB rr (tA C f))) : GE X C e (eCall p f) := by
  refine weakE h fun σ H Q h => ?_
  obtain ⟨U, r, s, h⟩ := h
  refine tA_then (R := fun z => match z with | .ok o r' => ∀ v H' U', Sit C U' H' σ r' → Aft U H σ r U' H' σ r' → Per r r' → OpOk C U' H' σ r' o v → New H o v → Q v H' | .ex c fs r' => XWant C U H σ r c fs r' | .st => False) s h id (fun _ _ _ z => z) ?_
  intro os r1 vs H1 U1 s1 a1 p1 k1 n1 h1
  exact eP_fin hp s1 a1 p1 k1 h1
/-- two operands -/
theorem ge_op {rr : R2} {p : Pr} (hp : PN C (fun vs H Q => ∃ x y, vs = [x, y] ∧ rr x y H Q) p) (h : PE X e (tOp rr (tE C fa) (tE C fb))) : GE X C e (eCall p (eCons fa (eCons fb eNil))) := by
  refine weakE h fun σ H Q h => ?_
  obtain ⟨U, r, s, h⟩ := h
  refine tE_then (g := fun o r1 => ((fb r1).bind fun o2 r2 => eP p [o, o2] r2)) (R := fun z => match z with | .ok o r' => ∀ v H' U', Sit C U' H' σ r' → Aft U H σ r U' H' σ r' → Per r r' → OpOk C U' H' σ r' o v → New H o v → Q v H' | .ex c fs r' => XWant C U H σ r c fs r' | .st => False) s ?_ id (fun _ _ _ z => z) ?_
  · refine cast ?_ h
    unfold eCall eCons eNil Rs.bind
    cases fa r with
    | ok o r1 => simp only []; cases fb r1 <;> rfl
    | ex c fs r' => rfl
    | st => rfl
  intro o r1 v H1 U1 s1 a1 p1 k1 n1 h1
  refine tE_then (R := fun z => match z with | .ok o r' => ∀ v H' U', Sit C U' H' σ r' → Aft U H σ r U' H' σ r' → Per r r' → OpOk C U' H' σ r' o v → New H o v → Q v H' | .ex c fs r' => XWant C U H σ r c fs r' | .st => False) s1 h1 id (fun _ _ _ z => XWant.before z a1) ?_
  intro o2 r2 v2 H2 U2 s2 a2 p2 k2 n2 h2
  obtain ⟨x, y, e, q⟩ := eP_fin hp s2 (a1.trans a2) (p1.trans p2) (.cons (k1.after a2 s1 p2) (.cons k2 .nil)) h2
  cases e
  exact q
end
end GB

/-! what is kept in a tree; displays; calls of defs -/
namespace GB
open PySem PySem.Spec PyProof.Rows L2
section
variable {C : Ct} {U U' : Addr → Prop} {H H' : Hp} {σ σ' : St} {r r' : Rho} {K : PySem.W.Frag} {W W' : Addr → Prop}
mutual
theorem Rp.less (h : ∀ a, W' a → W a) : ∀ {v : V} {d : D}, Rp K W H v d → Rp K W' H v d
  | _, _, .non => .non
  | _, _, .bl b => .bl b
  | _, _, .int i => .int i
  | _, _, .str l => .str l
  | _, _, .tup h1 t => .tup h1 (Rps.less h t)
  | _, _, .lst h1 n t => .lst h1 (fun z => n (h _ z)) (Rps.less h t)
  | _, _, .scr h1 t => .scr h1 (Rps.less h t)
  | _, _, .dic h1 n e t => .dic h1 (fun z => n (h _ z)) e (Rps.less h t)
theorem Rps.less (h : ∀ a, W' a → W a) : ∀ {v : List V} {d : List D}, Rps K W H v d → Rps K W' H v d
  | _, _, .nil => .nil
  | _, _, .cons h1 t => .cons (Rp.less h h1) (Rps.less h t)
end
theorem KR.less {κ : Type} (h : ∀ a, W' a → W a) {v : List (κ × V)} {d : List (κ × D)} (x : KR K W H v d) : KR K W' H v d := Paired.mapP x fun _ _ q => ⟨q.1, q.2.less h⟩
/-- a smaller world of what may be written -/
theorem SR.less (h : ∀ a, W' a → W a) {v : V} {s : S} (x : SR K U W H v s) (hl : ∀ p, s.lkd = true → v = .ref p → U' p) : SR K U' W' H v s := by
  cases x with
  | fz x => exact .fz (x.less h)
  | ol e x => exact .ol e (x.less h)
  | br e x => exact .br e (x.less h)
  | lk e u x => exact .lk e (hl _ rfl rfl) (x.less h)
  | od e x => exact .od e (x.less h)
  | bd e x => exact .bd e (x.less h)
  | kd e u x => exact .kd e (hl _ rfl rfl) (x.less h)
  | exc e x => exact .exc e (x.less h)
theorem SR.lkLv {v : V} {s : S} (x : SR K U W H v s) {p : Addr} (h : s.lkd = true) (e : v = .ref p) : U p := by
  cases x with
  | lk _ u _ => cases e; exact u
  | kd _ u _ => cases e; exact u
  | exc _ _ => cases h
  | fz _ => cases h
  | ol _ _ => cases h
  | br _ _ => cases h
  | od _ _ => cases h
  | bd _ _ => cases h
theorem lkd_hard {s : S} (h : s.lkd = true) : s.hard = true := by cases s <;> first | rfl | cases h
/-- new objects need no longer be held as writable -/
theorem Sit.drop (s0 : Sit C U H σ r) (s : Sit C U' H' σ' r') (a : Aft U H σ r U' H' σ' r') (Z : Addr → Prop) (hz : ∀ a, Z a → H a = none) :
    Sit C (fun a => U' a ∧ ¬ Z a) H' σ' r' ∧ Aft U H σ r (fun a => U' a ∧ ¬ Z a) H' σ' r' := by
  have u0 : ∀ a, U a → ¬ Z a := fun a h z => (s0.uok a h).ne (hz a z)
  refine ⟨⟨s.len, fun i t h => ?_, s.inj, fun b h z => s.dis b h z.1, fun b h => s.uok b h.1⟩, ⟨fun b h => ⟨a.sub b h, u0 b h⟩, fun b h => a.new b h.1, a.grow, a.keep, a.there, a.pin, a.lok⟩⟩
  obtain ⟨v, e, x⟩ := s.rep i t h
  refine ⟨v, e, x.less (fun b z => z.elim .inl fun z => .inr z.1) fun p hl hv => ?_⟩
  obtain ⟨h1, e1⟩ := a.lok i t h hl
  obtain ⟨v0, e0, x0⟩ := s0.rep i t h1
  rw [e1, e0] at e; cases e
  have q := x0.lkLv hl hv
  exact ⟨a.sub p q, u0 p q⟩

/-- one operand kept in a tree -/
def frz1 (o : Opd) (r : Rho) : Option (D × Rho) := match o with
  | .val (.fz d) => some (d, r)
  | .val (.ol ds) => some (.lst ds, r)
  | .val (.od kvs) => some (.dic (kvs.map Prod.fst) (kvs.map Prod.snd), r)
  | .val _ => none
  | .loc i => match r[i]? with
    | some (some (.fz d)) => some (d, r)
    | some (some (.ol ds)) => some (.lst ds, r.set i (some (.fz (.lst ds))))
    | _ => none
def frzAll : List Opd → Rho → Option (List D × Rho)
  | [], r => some ([], r)
  | o :: os, r => match frz1 o r with
    | some (d, r1) => (match frzAll os r1 with | some (ds, r2) => some (d :: ds, r2) | none => none)
    | none => none
/-- the operand's thing without its own object being held -/
def Ops2 (C : Ct) (U : Addr → Prop) (H : Hp) (σ : St) (r : Rho) (o : Opd) (v : V) : Prop :=
  match o with
  | .loc i => σ[i]? = some (some v) ∧ ∃ s, r[i]? = some (some s)
  | .val s => SR C.K U (Wn U σ r) H v s ∧ (∀ p, s.own = true → v = .ref p → ¬ Wn U σ r p) ∧ s.hard = false
theorem own_setfz {i : Nat} {d : D} {a : Addr} (h : Own σ (r.set i (some (.fz d))) a) : Own σ r a ∧ σ[i]? ≠ some (some (V.ref a)) ∨ (∃ j s, j ≠ i ∧ r[j]? = some (some s) ∧ s.own = true ∧ σ[j]? = some (some (V.ref a))) := by
  obtain ⟨j, s, h1, h2, h3⟩ := h
  by_cases e : i = j
  · subst e
    by_cases hl : i < r.length
    · rw [List.getElem?_set_self hl] at h1; cases h1; cases h2
    · rw [List.getElem?_eq_none (by simpa using hl)] at h1; cases h1
  · rw [List.getElem?_set_ne e] at h1
    exact .inr ⟨j, s, fun z => e z.symm, h1, h2, h3⟩
/-- a slot's own list becomes a frozen one -/
theorem frzSlot {i : Nat} {ds : List D} {v : V} (s : Sit C U H σ r) (hi : r[i]? = some (some (.ol ds))) (hv : σ[i]? = some (some v)) :
    Sit C U H σ (r.set i (some (.fz (.lst ds)))) ∧ Aft U H σ r U H σ (r.set i (some (.fz (.lst ds)))) ∧ Per r (r.set i (some (.fz (.lst ds)))) ∧ Rp C.K (Wn U σ (r.set i (some (.fz (.lst ds))))) H v (.lst ds) := by
  have hlt : i < r.length := by
    by_cases q : i < r.length
    · exact q
    · rw [List.getElem?_eq_none (by simpa using q)] at hi; cases hi
  have sub : ∀ a, Own σ (r.set i (some (.fz (.lst ds)))) a → Own σ r a ∧ σ[i]? ≠ some (some (V.ref a)) := fun a h => by
    rcases own_setfz h with h | ⟨j, t, n, h1, h2, h3⟩
    · exact h
    · refine ⟨⟨j, t, h1, h2, h3⟩, fun z => n ?_⟩
      refine (s.inj i j (.ol ds) t (.ref a) hi rfl h1 ?_ z h3).symm
      cases t <;> first | rfl | cases h2
  have wsub : ∀ a, Wn U σ (r.set i (some (.fz (.lst ds)))) a → Wn U σ r a := fun a h => h.elim (fun z => .inl (sub a z).1) .inr
  have rv : Rp C.K (Wn U σ (r.set i (some (.fz (.lst ds))))) H v (.lst ds) := by
    obtain ⟨v', e, x⟩ := s.rep i _ hi
    rw [hv] at e; cases e
    cases x with
    | ol e x =>
      refine .lst e (fun z => ?_) (x.less wsub)
      rcases z with z | z
      · exact (sub _ z).2 hv
      · exact s.dis _ ⟨i, _, hi, rfl, hv⟩ z
  have at' : ∀ (j : Nat) (t : S), (r.set i (some (.fz (.lst ds))))[j]? = some (some t) → (j = i ∧ t = .fz (.lst ds)) ∨ (j ≠ i ∧ r[j]? = some (some t)) := fun j t h => by
    by_cases e : i = j
    · subst e; rw [List.getElem?_set_self hlt] at h; cases h; exact .inl ⟨rfl, rfl⟩
    · rw [List.getElem?_set_ne e] at h; exact .inr ⟨fun z => e z.symm, h⟩
  refine ⟨⟨by rw [List.length_set]; exact s.len, fun j t h => ?_, fun j k t u w h1 q1 h2 q2 => ?_, fun a h => s.dis a (sub a h).1, s.uok⟩, ⟨fun _ h => h, fun _ h => .inl h, fun a h => .inl (sub a h).1, fun a o h _ => h, fun a o h => ⟨o, h⟩, fun j t h k => ?_, fun j t h k => ?_⟩, fun j t h => ?_, rv⟩
  · rcases at' j t h with ⟨rfl, rfl⟩ | ⟨n, h⟩
    · exact ⟨v, hv, .fz rv⟩
    · obtain ⟨w, e, x⟩ := s.rep j t h
      exact ⟨w, e, x.less wsub fun p hl hp => x.lkLv hl hp⟩
  · rcases at' j t h1 with ⟨rfl, rfl⟩ | ⟨n, h1⟩
    · cases q1
    · rcases at' k u h2 with ⟨rfl, rfl⟩ | ⟨n', h2⟩
      · cases q2
      · exact s.inj j k t u w h1 q1 h2 q2
  · have n : i ≠ j := fun z => by subst z; rw [hi] at h; cases h; cases k
    exact ⟨t, by rw [List.getElem?_set_ne n]; exact h, Sl.refl t, rfl⟩
  · rcases at' j t h with ⟨rfl, rfl⟩ | ⟨n, h⟩
    · cases k
    · exact ⟨h, rfl⟩
  · by_cases e : i = j
    · subst e; exact ⟨_, List.getElem?_set_self hlt⟩
    · exact ⟨t, by rw [List.getElem?_set_ne e]; exact h⟩
theorem kr_rps {κ : Type} : ∀ {xs : List (κ × V)} {ds : List (κ × D)}, KR K W H xs ds → xs.map Prod.fst = ds.map Prod.fst ∧ Rps K W H (xs.map Prod.snd) (ds.map Prod.snd)
  | _, _, .nil => ⟨rfl, .nil⟩
  | _, _, .cons h t => by
    obtain ⟨h1, h2⟩ := kr_rps t
    exact ⟨by rw [List.map_cons, List.map_cons, h.1, h1], .cons h.2 h2⟩
theorem frz1_ok {o : Opd} {v : V} {d : D} {r1 : Rho} (s : Sit C U H σ r) (k : Ops2 C U H σ r o v) (h : frz1 o r = some (d, r1)) :
    Sit C U H σ r1 ∧ Aft U H σ r U H σ r1 ∧ Per r r1 ∧ Rp C.K (Wn U σ r1) H v d := by
  cases o with
  | val t =>
    obtain ⟨x, n, _⟩ := k
    cases t with
    | fz d' => cases h; cases x with | fz x => exact ⟨s, Aft.refl, Per.refl, x⟩
    | ol ds =>
      cases h
      cases x with
      | ol e x => exact ⟨s, Aft.refl, Per.refl, .lst e (n _ rfl rfl) x⟩
    | od kvs =>
      cases h
      cases x with
      | od e x => exact ⟨s, Aft.refl, Per.refl, .dic e (n _ rfl rfl) (kr_rps x).1 (kr_rps x).2⟩
    | _ => cases h
  | loc i =>
    obtain ⟨hv, t, ht⟩ := k
    unfold frz1 at h
    simp only [ht] at h
    cases t with
    | fz d' =>
      cases h
      obtain ⟨w, e, x⟩ := s.rep i _ ht
      rw [hv] at e; cases e
      cases x with | fz x => exact ⟨s, Aft.refl, Per.refl, x⟩
    | ol ds =>
      cases h
      exact frzSlot s ht hv
    | _ => cases h
theorem Ops2.after {o : Opd} {v : V} (k : Ops2 C U H σ r o v) (x : Aft U H σ r U H σ r') (s : Sit C U H σ r) (p : Per r r') : Ops2 C U H σ r' o v := by
  cases o with
  | loc i => exact ⟨k.1, let ⟨t, h⟩ := k.2; p i t h⟩
  | val t =>
    obtain ⟨k1, k2, k3⟩ := k
    refine ⟨k1.mono (x.mono s) fun a o ho hv h => h, fun p ho hv z => ?_, k3⟩
    obtain ⟨q, e, l⟩ := k1.ownLv ho
    rw [hv] at e; cases e
    have n := k2 p ho hv
    rcases z with z | z
    · rcases x.grow p z with z | z
      · exact n (.inl z)
      · exact l.ne z
    · exact n (.inr z)
theorem frzAll_ok (s : Sit C U H σ r) : ∀ {os : List Opd} {vs : List V} {ds : List D} {r1 : Rho}, Paired (fun o v => Ops2 C U H σ r o v) os vs → frzAll os r = some (ds, r1) →
    Sit C U H σ r1 ∧ Aft U H σ r U H σ r1 ∧ Per r r1 ∧ Rps C.K (Wn U σ r1) H vs ds := by
  intro os
  induction os generalizing r with
  | nil =>
    intro vs ds r1 k h
    cases k
    cases h
    exact ⟨s, Aft.refl, Per.refl, .nil⟩
  | cons o os ih =>
    intro vs ds r1 k h
    cases k with
    | cons k1 k2 =>
      unfold frzAll at h
      cases e : frz1 o r with
      | none => simp only [e] at h; cases h
      | some q =>
        obtain ⟨d, r2⟩ := q
        simp only [e] at h
        obtain ⟨s2, a2, p2, x2⟩ := frz1_ok s k1 e
        cases e' : frzAll os r2 with
        | none => simp only [e'] at h; cases h
        | some q =>
          obtain ⟨ds', r3⟩ := q
          simp only [e'] at h
          cases h
          obtain ⟨s3, a3, p3, x3⟩ := ih s2 (Paired.mapP k2 fun _ _ z => z.after a2 s p2) e'
          exact ⟨s3, a2.trans a3, p2.trans p3, .cons (x2.mono (a3.mono s2)) x3⟩
/-- operands behind their evaluation: their own objects are let go -/
theorem ops_drop (s0 : Sit C U H σ r) (s : Sit C U' H' σ r') (a : Aft U H σ r U' H' σ r') {os : List Opd} {vs : List V} (k : OpsOk C U' H' σ r' os vs) (n : NewS H os vs) :
    ∃ U2, Sit C U2 H' σ r' ∧ Aft U H σ r U2 H' σ r' ∧ (∀ a, U2 a → U' a) ∧ Paired (fun o v => Ops2 C U2 H' σ r' o v) os vs := by
  let Z : Addr → Prop := fun a => ∃ s, s.own = true ∧ (∃ i : Nat, os[i]? = some (.val s) ∧ vs[i]? = some (V.ref a))
  have hz : ∀ a, Z a → H a = none := by
    rintro a ⟨t, ho, i, h1, h2⟩
    clear s k
    induction n generalizing i with
    | nil => cases h1
    | cons q _ ih =>
      cases i with
      | zero => cases h1; cases h2; exact q t a rfl ho rfl
      | succ i => exact ih i h1 h2
  obtain ⟨s2, a2⟩ := s0.drop s a Z hz
  refine ⟨_, s2, a2, fun a h => h.1, ?_⟩
  have key : ∀ (os' : List Opd) (vs' : List V), OpsOk C U' H' σ r' os' vs' → (∀ (i : Nat) o v, os'[i]? = some o → vs'[i]? = some v → ∃ j : Nat, os[j]? = some o ∧ vs[j]? = some v) → Paired (fun o v => Ops2 C (fun a => U' a ∧ ¬ Z a) H' σ r' o v) os' vs' := by
    intro os' vs' k'
    induction k' with
    | nil => exact fun _ => .nil
    | @cons o v os' vs' q _ ih =>
      intro hj
      refine .cons ?_ (ih fun i o v h1 h2 => hj (i + 1) o v h1 h2)
      cases o with
      | loc i => exact q
      | val t =>
        obtain ⟨x, hu, hh⟩ := q
        refine ⟨x.less (fun b z => z.elim .inl fun z => .inr z.1) fun p hl _ => ?_, fun p ho hv z => ?_, hh⟩
        · rw [lkd_hard hl] at hh; cases hh
        · obtain ⟨j, h1, h2⟩ := hj 0 _ v rfl rfl
          rcases z with z | z
          · exact s.dis p z (hu p ho hv)
          · exact z.2 ⟨t, ho, j, h1, by rw [h2, hv]⟩
  exact key os vs k fun i o v h1 h2 => ⟨i, h1, h2⟩
end

/-! ### displays -/
section
variable {X : Cx} {C : Ct} {e : Expr} {es : List Expr}
def okLen (n : Nat) : Bool := decide (n ≤ sizeLine)
def eTup (fa : Rho → Rs (List Opd)) : Rho → Rs Opd := fun r => (fa r).bind fun os r1 => match frzAll os r1 with
  | some (ds, r2) => if os.length ≤ 1000 then .ok (.val (.fz (.tup ds))) r2 else .st
  | none => .st
def eLst (fa : Rho → Rs (List Opd)) : Rho → Rs Opd := fun r => (fa r).bind fun os r1 => match frzAll os r1 with
  | some (ds, r2) => if os.length ≤ 1000 then .ok (.val (.ol ds)) r2 else .st
  | none => .st
theorem k1000 {n : Nat} (h : n ≤ 1000) : n ≤ sizeLine := by rw [sizeLine_eq]; omega
abbrev RE (C : Ct) (U : Addr → Prop) (H : Hp) (σ : St) (r : Rho) (Q : VK) (z : Rs Opd) : Prop := match z with
  | .ok o r' => ∀ v H' U', Sit C U' H' σ r' → Aft U H σ r U' H' σ r' → Per r r' → OpOk C U' H' σ r' o v → New H o v → Q v H'
  | .ex c fs r' => XWant C U H σ r c fs r'
  | .st => False
theorem ge_tup {fa : Rho → Rs (List Opd)} (h : PE X e (tTup (tA C fa))) : GE X C e (eTup fa) := by
  refine weakE h fun σ H Q h => ?_
  obtain ⟨U, r, s, h⟩ := h
  refine tA_then (R := RE C U H σ r Q) s h id (fun _ _ _ z => z) ?_
  intro os r1 vs H1 U1 s1 a1 p1 k1 n1 h1
  cases e : frzAll os r1 with
  | none => simp only [e] at h1; exact (show False from h1).elim
  | some q =>
    obtain ⟨ds, r2⟩ := q
    simp only [e] at h1
    by_cases hl : os.length ≤ 1000
    · rw [if_pos hl] at h1
      obtain ⟨U2, s2, a2, u2, k2⟩ := ops_drop s s1 a1 k1 n1
      obtain ⟨s3, a3, p3, x3⟩ := frzAll_ok s2 k2 e
      refine ⟨k1000 (by rw [← Paired.length k1]; exact hl), fun p hp => ?_⟩
      obtain ⟨U4, s4, a4, k4, n4⟩ := (Got.newT s3.wlv hp x3).fin s3
      exact h1 _ _ U4 s4 ((a2.trans a3).trans a4) (p1.trans p3) k4 (n4.back a1)
    · rw [if_neg hl] at h1
      exact h1.elim
theorem ge_lst {fa : Rho → Rs (List Opd)} (h : PE X e (tLst (tA C fa))) : GE X C e (eLst fa) := by
  refine weakE h fun σ H Q h => ?_
  obtain ⟨U, r, s, h⟩ := h
  refine tA_then (R := RE C U H σ r Q) s h id (fun _ _ _ z => z) ?_
  intro os r1 vs H1 U1 s1 a1 p1 k1 n1 h1
  cases e : frzAll os r1 with
  | none => simp only [e] at h1; exact (show False from h1).elim
  | some q =>
    obtain ⟨ds, r2⟩ := q
    simp only [e] at h1
    by_cases hl : os.length ≤ 1000
    · rw [if_pos hl] at h1
      obtain ⟨U2, s2, a2, u2, k2⟩ := ops_drop s s1 a1 k1 n1
      obtain ⟨s3, a3, p3, x3⟩ := frzAll_ok s2 k2 e
      refine ⟨k1000 (by rw [← Paired.length k1]; exact hl), fun p hp => ?_⟩
      obtain ⟨U4, s4, a4, k4, n4⟩ := (Got.newL s3.wlv hp x3).fin s3
      exact h1 _ _ U4 s4 ((a2.trans a3).trans a4) (p1.trans p3) k4 (n4.back a1)
    · rw [if_neg hl] at h1
      exact h1.elim
end
end GB

/-! calls of defs -/
namespace GB
open PySem PySem.Spec PyProof.Rows L2

/-- a def's end: its value, what its borrowed things are behind it -/
inductive FR where
  | ok (s : S) (outs : List S) | ex (c : Str) (fs : List (Str × D)) (outs : List S) | st
abbrev Fs := List S → FR
abbrev slots (vs : List V) : St := vs.map some
abbrev words (ss : List S) : Rho := ss.map some
/-- the promise of a def that is run by F -/
def spF (C : Ct) (n : Nat) (F : Fs) : Sp := fun vs H Q E => vs.length = n ∧ ∃ U ss, (∀ s ∈ ss, s.own = true → s.hard = true) ∧ Sit C U H (slots vs) (words ss) ∧
  match F ss with
  | .ok s outs => ∀ v H' U', Sit C U' H' (slots vs) (words outs) → Aft U H (slots vs) (words ss) U' H' (slots vs) (words outs) → OpOk C U' H' (slots vs) (words outs) (.val s) v → New H (.val s) v → Q v H'
  | .ex c fs outs => ∀ cls d H' U', Sit C U' H' (slots vs) (words outs) → Aft U H (slots vs) (words ss) U' H' (slots vs) (words outs) → XRp C (Wn U' (slots vs) (words outs)) c fs cls d H' → E cls d H'
  | .st => False

def pass1 (r : Rho) : Opd → Option S
  | .val (.fz d) => some (.fz d)
  | .val (.ol ds) => some (.fz (.lst ds))
  | .val _ => none
  | .loc i => match r[i]? with
    | some (some s) => (match s with
      | .fz d => some (.fz d) | .ol ds => some (.br ds) | .br ds => some (.br ds) | .lk ds => some (.lk ds)
      | .od k => some (.bd k) | .bd k => some (.bd k) | .kd k => some (.kd k) | .exc _ _ _ _ => none)
    | _ => none
def passAll (r : Rho) : List Opd → Option (List S)
  | [] => some []
  | o :: os => match pass1 r o, passAll r os with
    | some s, some ss => some (s :: ss)
    | _, _ => none
def isLoc (i : Nat) : Opd → Bool
  | .loc j => i == j
  | _ => false
def hardAt (r : Rho) (i : Nat) : Bool := match r[i]? with
  | some (some s) => !s.soft
  | _ => false
/-- nothing writable is handed in twice -/
def dst (r : Rho) : List Opd → Bool
  | [] => true
  | o :: os => (match o with | .loc i => if hardAt r i then !(os.any (isLoc i)) else true | _ => true) && dst r os
def wb1 (o : Opd) (t : S) (r : Rho) : Option Rho := match o with
  | .val _ => some r
  | .loc i => match r[i]? with
    | some (some (.ol _)) => (match t with | .br ds => some (r.set i (some (.ol ds))) | _ => none)
    | some (some (.br _)) => (match t with | .br ds => some (r.set i (some (.br ds))) | _ => none)
    | some (some (.od _)) => (match t with | .bd ds => some (r.set i (some (.od ds))) | _ => none)
    | some (some (.bd _)) => (match t with | .bd ds => some (r.set i (some (.bd ds))) | _ => none)
    | some (some _) => some r
    | _ => none
def wbAll : List Opd → List S → Rho → Option Rho
  | [], [], r => some r
  | o :: os, t :: ts, r => (match wb1 o t r with | some r1 => wbAll os ts r1 | none => none)
  | _, _, _ => none
def eFnO (F : Fs) (os : List Opd) (r : Rho) : Rs Opd := match passAll r os with
  | some ss => if dst r os then
      (match F ss with
        | .ok s outs => (match wbAll os outs r with | some r1 => .ok (.val s) r1 | none => .st)
        | .ex c fs outs => (match wbAll os outs r with | some r1 => .ex c fs r1 | none => .st)
        | .st => .st)
      else .st
  | none => .st
def eFn (F : Fs) (fa : Rho → Rs (List Opd)) : Rho → Rs Opd := fun r => (fa r).bind (eFnO F)

/-- a borrowed thing as its owner has it again -/
def Ub (t' t : S) : Prop := (∃ ds, t' = .br ds ∧ (t = .ol ds ∨ t = .br ds)) ∨ (∃ k, t' = .bd k ∧ (t = .od k ∨ t = .bd k))
def Kd (s t : S) : Prop := t.own = true ∧ (s.hard = true → Sl s t) ∧ t.lkd = false ∧ s.own = true
theorem Ub.own {t' t : S} (h : Ub t' t) : t.own = true := by
  rcases h with ⟨_, _, h | h⟩ | ⟨_, _, h | h⟩ <;> (subst h; rfl)
theorem wb1_spec {o : Opd} {t : S} {r r1 : Rho} (h : wb1 o t r = some r1) : r1.length = r.length ∧ Per r r1 ∧ ∀ (j : Nat) (u : S), r1[j]? = some (some u) →
    (r[j]? = some (some u) ∧ (o = .loc j → u.own = false)) ∨ (∃ s, o = .loc j ∧ r[j]? = some (some s) ∧ Ub t u ∧ Kd s u) := by
  cases o with
  | val s => cases h; exact ⟨rfl, Per.refl, fun j u q => .inl ⟨q, fun z => nomatch z⟩⟩
  | loc i =>
    unfold wb1 at h
    cases e : r[i]? with
    | none => simp only [e] at h; cases h
    | some q =>
      cases q with
      | none => simp only [e] at h; cases h
      | some s =>
        have hlt : i < r.length := by
          by_cases q : i < r.length
          · exact q
          · rw [List.getElem?_eq_none (by simpa using q)] at e; cases e
        have setc : ∀ w, Ub t w → Kd s w → (r.set i (some w)).length = r.length ∧ Per r (r.set i (some w)) ∧ ∀ (j : Nat) (u : S), (r.set i (some w))[j]? = some (some u) →
            (r[j]? = some (some u) ∧ (Opd.loc i = .loc j → u.own = false)) ∨ (∃ s, Opd.loc i = .loc j ∧ r[j]? = some (some s) ∧ Ub t u ∧ Kd s u) := fun w h1 h2 => by
          refine ⟨List.length_set, fun j u q => ?_, fun j u q => ?_⟩
          · by_cases z : i = j
            · subst z; exact ⟨w, List.getElem?_set_self hlt⟩
            · exact ⟨u, by rw [List.getElem?_set_ne z]; exact q⟩
          · by_cases z : i = j
            · subst z; rw [List.getElem?_set_self hlt] at q; cases q; exact .inr ⟨s, rfl, e, h1, h2⟩
            · rw [List.getElem?_set_ne z] at q; exact .inl ⟨q, fun y => by cases y; exact absurd rfl z⟩
        have same : s.own = false → r1 = r → r1.length = r.length ∧ Per r r1 ∧ ∀ (j : Nat) (u : S), r1[j]? = some (some u) →
            (r[j]? = some (some u) ∧ (Opd.loc i = .loc j → u.own = false)) ∨ (∃ s, Opd.loc i = .loc j ∧ r[j]? = some (some s) ∧ Ub t u ∧ Kd s u) := fun h1 h2 => by
          subst h2
          exact ⟨rfl, Per.refl, fun j u q => .inl ⟨q, fun z => by cases z; rw [e] at q; cases q; exact h1⟩⟩
        simp only [e] at h
        cases s with
        | ol ds => cases t <;> first | (cases h; done) | (cases h; exact setc _ (.inl ⟨_, rfl, .inl rfl⟩) ⟨rfl, (fun z => nomatch z), rfl, rfl⟩)
        | br ds => cases t <;> first | (cases h; done) | (cases h; exact setc _ (.inl ⟨_, rfl, .inr rfl⟩) ⟨rfl, fun z => ⟨_, rfl⟩, rfl, rfl⟩)
        | od ds => cases t <;> first | (cases h; done) | (cases h; exact setc _ (.inr ⟨_, rfl, .inl rfl⟩) ⟨rfl, (fun z => nomatch z), rfl, rfl⟩)
        | bd ds => cases t <;> first | (cases h; done) | (cases h; exact setc _ (.inr ⟨_, rfl, .inr rfl⟩) ⟨rfl, fun z => ⟨_, rfl⟩, rfl, rfl⟩)
        | fz d => cases h; exact same rfl rfl
        | lk d => cases h; exact same rfl rfl
        | kd d => cases h; exact same rfl rfl
        | exc _ _ _ _ => cases h; exact same rfl rfl
theorem Kd.trans {s t u : S} (h : Kd s t) (k : Kd t u) : Kd s u := ⟨k.1, fun z => (h.2.1 z).trans (k.2.1 ((h.2.1 z).hard z)), k.2.2.1, h.2.2.2⟩
theorem wbAll_spec : ∀ {os : List Opd} {ts : List S} {r r1 : Rho}, wbAll os ts r = some r1 → r1.length = r.length ∧ Per r r1 ∧ ∀ (j : Nat) (u : S), r1[j]? = some (some u) →
    (r[j]? = some (some u) ∧ (∀ k : Nat, os[k]? = some (.loc j) → u.own = false)) ∨ (∃ (k : Nat) (s t : S), os[k]? = some (.loc j) ∧ ts[k]? = some t ∧ r[j]? = some (some s) ∧ Ub t u ∧ Kd s u)
  | [], [], r, r1, h => by cases h; exact ⟨rfl, Per.refl, fun j u q => .inl ⟨q, (fun k z => by simp at z)⟩⟩
  | [], _ :: _, _, _, h => by cases h
  | _ :: _, [], _, _, h => by cases h
  | o :: os, t :: ts, r, r1, h => by
    unfold wbAll at h
    cases e : wb1 o t r with
    | none => simp only [e] at h; cases h
    | some r2 =>
      simp only [e] at h
      obtain ⟨l1, p1, c1⟩ := wb1_spec e
      obtain ⟨l2, p2, c2⟩ := wbAll_spec h
      refine ⟨l2.trans l1, p1.trans p2, fun j u q => ?_⟩
      rcases c2 j u q with ⟨q2, n2⟩ | ⟨k, s, t', h1, h2, h3, h4, h5⟩
      · rcases c1 j u q2 with ⟨q1, n1⟩ | ⟨s, h1, h2, h3, h4⟩
        · refine .inl ⟨q1, fun k hk => ?_⟩
          cases k with
          | zero => exact n1 (by simpa using hk)
          | succ k => exact n2 k (by simpa using hk)
        · exact .inr ⟨0, s, t, by simp [h1], rfl, h2, h3, h4⟩
      · rcases c1 j s h3 with ⟨q1, n1⟩ | ⟨s', g1, g2, g3, g4⟩
        · exact .inr ⟨k + 1, s, t', by simpa using h1, by simpa using h2, q1, h4, h5⟩
        · exact .inr ⟨k + 1, s', t', by simpa using h1, by simpa using h2, g2, h4, g4.trans h5⟩
theorem dst_spec {r : Rho} : ∀ {os : List Opd}, dst r os = true → ∀ (k l i : Nat), os[k]? = some (.loc i) → os[l]? = some (.loc i) → hardAt r i = true → k = l
  | [], _, _, _, _, h, _, _ => by simp at h
  | o :: os, h, k, l, i, h1, h2, h3 => by
    unfold dst at h
    rw [Bool.and_eq_true] at h
    have no : ∀ m : Nat, o = .loc i → os[m]? = some (.loc i) → False := fun m e hm => by
      subst e
      have q := h.1
      simp only [h3, if_true] at q
      have : os.any (isLoc i) = true := List.any_eq_true.mpr ⟨.loc i, List.mem_of_getElem? hm, by simp [isLoc]⟩
      rw [this] at q; cases q
    cases k with
    | zero =>
      cases l with
      | zero => rfl
      | succ l => exact (no l (by simpa using h1) (by simpa using h2)).elim
    | succ k =>
      cases l with
      | zero => exact (no k (by simpa using h2) (by simpa using h1)).elim
      | succ l => exact congrArg (· + 1) (dst_spec h.2 k l i (by simpa using h1) (by simpa using h2) h3)
theorem pass_spec {r : Rho} : ∀ {os : List Opd} {ss : List S}, passAll r os = some ss → os.length = ss.length ∧ ∀ (k : Nat) (s : S), ss[k]? = some s → ∃ o, os[k]? = some o ∧ pass1 r o = some s
  | [], ss, h => by cases h; exact ⟨rfl, fun k s z => by simp at z⟩
  | o :: os, ss, h => by
    unfold passAll at h
    cases e1 : pass1 r o with
    | none => simp only [e1] at h; cases h
    | some s =>
      cases e2 : passAll r os with
      | none => simp only [e1, e2] at h; cases h
      | some ss' =>
        simp only [e1, e2] at h
        cases h
        obtain ⟨l, c⟩ := pass_spec e2
        refine ⟨by simp [l], fun k t z => ?_⟩
        cases k with
        | zero => cases z; exact ⟨o, rfl, e1⟩
        | succ k => exact c k t (by simpa using z)
end GB
namespace GB
open PySem PySem.Spec PyProof.Rows L2
section
variable {C : Ct} {U : Addr → Prop} {H : Hp} {σ : St} {r : Rho}
theorem slots_at {vs : List V} {k : Nat} {v : V} : (slots vs)[k]? = some (some v) ↔ vs[k]? = some v := by
  unfold slots
  rw [List.getElem?_map]
  cases vs[k]? <;> simp
theorem words_at {ss : List S} {k : Nat} {s : S} : (words ss)[k]? = some (some s) ↔ ss[k]? = some s := by
  unfold words
  rw [List.getElem?_map]
  cases ss[k]? <;> simp
theorem paired_at {α β : Type} {F : α → β → Prop} : ∀ {xs : List α} {ys : List β}, Paired F xs ys → ∀ (k : Nat) (x : α), xs[k]? = some x → ∃ y, ys[k]? = some y ∧ F x y
  | _, _, .nil, _, _, h => by simp at h
  | _, _, .cons p _, 0, _, h => by cases h; exact ⟨_, rfl, p⟩
  | _, _, .cons _ t, k + 1, x, h => paired_at t k x (by simpa using h)
/-- what a word of an argument says of the operand -/
theorem pass1_spec {o : Opd} {s : S} (h : pass1 r o = some s) : (∃ d, s = .fz d) ∨ (∃ i t, o = .loc i ∧ r[i]? = some (some t) ∧ t.soft = false ∧ s.hard = true ∧ s.own = t.own ∧ s.lkd = t.lkd) := by
  cases o with
  | val t => cases t <;> first | (cases h; done) | (cases h; exact .inl ⟨_, rfl⟩)
  | loc i =>
    unfold pass1 at h
    cases e : r[i]? with
    | none => simp only [e] at h; cases h
    | some q =>
      cases q with
      | none => simp only [e] at h; cases h
      | some t =>
        simp only [e] at h
        cases t <;> cases h <;> first | exact .inl ⟨_, rfl⟩ | exact .inr ⟨i, _, rfl, e, rfl, rfl, rfl, rfl⟩
theorem soft_of_own {s : S} (h : s.own = true) : s.soft = false := by cases s <;> first | rfl | cases h
/-- the arguments' own state -/
theorem args_sit {os : List Opd} {vs : List V} {ss : List S} (s : Sit C U H σ r) (k : Paired (fun o v => Ops2 C U H σ r o v) os vs) (hp : passAll r os = some ss) (hd : dst r os = true) :
    Sit C (fun a => Wn U σ r a ∧ ¬ Own (slots vs) (words ss) a) H (slots vs) (words ss) ∧
    (∀ a, Own (slots vs) (words ss) a → ∃ (n i : Nat) (t : S), os[n]? = some (.loc i) ∧ r[i]? = some (some t) ∧ t.own = true ∧ σ[i]? = some (some (V.ref a)) ∧ vs[n]? = some (V.ref a)) := by
  obtain ⟨hl, hs⟩ := pass_spec hp
  have own : ∀ a, Own (slots vs) (words ss) a → ∃ (n i : Nat) (t : S), os[n]? = some (.loc i) ∧ r[i]? = some (some t) ∧ t.own = true ∧ σ[i]? = some (some (V.ref a)) ∧ vs[n]? = some (V.ref a) := by
    rintro a ⟨n, t, h1, h2, h3⟩
    rw [words_at] at h1
    rw [slots_at] at h3
    obtain ⟨o, ho, hq⟩ := hs n t h1
    rcases pass1_spec hq with ⟨d, rfl⟩ | ⟨i, u, rfl, hi, hu, ht, e1, e2⟩
    · cases h2
    · obtain ⟨v, hv, kv⟩ := paired_at k n _ ho
      rw [h3] at hv; cases hv
      exact ⟨n, i, u, ho, hi, e1.symm.trans h2, kv.1, h3⟩
  have wsub : ∀ a, Wn (fun a => Wn U σ r a ∧ ¬ Own (slots vs) (words ss) a) (slots vs) (words ss) a → Wn U σ r a := fun a h => by
    rcases h with h | h
    · obtain ⟨n, i, t, _, h2, h3, h4, _⟩ := own a h
      exact .inl ⟨i, t, h2, h3, h4⟩
    · exact h.1
  refine ⟨⟨?_, fun n t h => ?_, fun m n t u v h1 q1 h2 q2 e1 e2 => ?_, fun a h z => z.2 h, fun a h => s.wlv a h.1⟩, own⟩
  · simp only [slots, words, List.length_map]
    rw [← Paired.length k, hl]
  · rw [words_at] at h
    obtain ⟨o, ho, hq⟩ := hs n t h
    obtain ⟨v, hv, kv⟩ := paired_at k n _ ho
    refine ⟨v, slots_at.mpr hv, ?_⟩
    cases o with
    | val u =>
      obtain ⟨x, nw, _⟩ := kv
      cases u with
      | fz d => cases hq; cases x with | fz x => exact .fz (x.less wsub)
      | ol ds =>
        cases hq
        cases x with
        | ol e x => exact .fz (.lst e (fun z => nw _ rfl rfl (wsub _ z)) (x.less wsub))
      | _ => cases hq
    | loc i =>
      obtain ⟨kv1, u, hu⟩ := kv
      obtain ⟨w, hw, x⟩ := s.rep i u hu
      rw [kv1] at hw; cases hw
      unfold pass1 at hq
      simp only [hu] at hq
      cases x with
      | fz x => cases hq; exact .fz (x.less wsub)
      | ol e x => cases hq; exact .br e (x.less wsub)
      | br e x => cases hq; exact .br e (x.less wsub)
      | od e x => cases hq; exact .bd e (x.less wsub)
      | bd e x => cases hq; exact .bd e (x.less wsub)
      | exc _ _ => cases hq
      | @lk p _ _ e u' x =>
        cases hq
        refine .lk e ⟨.inr u', fun z => ?_⟩ (x.less wsub)
        obtain ⟨_, j, t', _, z2, z3, z4, _⟩ := own p z
        exact s.dis p ⟨j, t', z2, z3, z4⟩ u'
      | @kd p _ _ e u' x =>
        cases hq
        refine .kd e ⟨.inr u', fun z => ?_⟩ (x.less wsub)
        obtain ⟨_, j, t', _, z2, z3, z4, _⟩ := own p z
        exact s.dis p ⟨j, t', z2, z3, z4⟩ u'
  · rw [words_at] at h1 h2
    rw [slots_at] at e1 e2
    obtain ⟨o1, ho1, hq1⟩ := hs m t h1
    obtain ⟨o2, ho2, hq2⟩ := hs n u h2
    rcases pass1_spec hq1 with ⟨d, rfl⟩ | ⟨i, t1, rfl, hi, hti, _, _, _⟩
    · cases q1
    rcases pass1_spec hq2 with ⟨d, rfl⟩ | ⟨j, t2, rfl, hj, htj, _, _, _⟩
    · cases q2
    obtain ⟨v1, hv1, k1⟩ := paired_at k m _ ho1
    obtain ⟨v2, hv2, k2⟩ := paired_at k n _ ho2
    rw [e1] at hv1; cases hv1
    rw [e2] at hv2; cases hv2
    have ij := s.inj i j t1 t2 v hi hti hj htj k1.1 k2.1
    subst ij
    exact dst_spec hd m n i ho1 ho2 (by simp [hardAt, hi, hti])
end
end GB

/-! behind a call -/
namespace GB
open PySem PySem.Spec PyProof.Rows L2
section
variable {C : Ct} {U : Addr → Prop} {H : Hp} {σ : St} {r : Rho}
theorem Aft.ownPin {U U' : Addr → Prop} {H H' : Hp} {vs : List V} {ss outs : List S} (x : Aft U H (slots vs) (words ss) U' H' (slots vs) (words outs)) (hh : ∀ (k : Nat) (s : S), ss[k]? = some s → s.own = true → s.hard = true) {a : Addr} (h : Own (slots vs) (words ss) a) : Own (slots vs) (words outs) a := by
  obtain ⟨k, s, h1, h2, h3⟩ := h
  have hd := hh k s (words_at.mp h1) h2
  obtain ⟨s', h1', l, e⟩ := x.pin k s h1 hd
  refine ⟨k, s', h1', ?_, h3⟩
  cases s <;> simp [S.hard] at hd <;> simp [S.own] at h2 <;> simp [Sl] at l <;> (obtain ⟨_, rfl⟩ := l; rfl)
theorem Ub.sr {K : PySem.W.Frag} {U W U' W' : Addr → Prop} {H : Hp} {v : V} {t' t : S} (u : Ub t' t) (h : ∀ a, W' a → W a) (x : SR K U W H v t') : SR K U' W' H v t := by
  rcases u with ⟨ds, rfl, rfl | rfl⟩ | ⟨ds, rfl, rfl | rfl⟩
  · cases x with | br e x => exact .ol e (x.less h)
  · cases x with | br e x => exact .br e (x.less h)
  · cases x with | bd e x => exact .od e (x.less h)
  · cases x with | bd e x => exact .bd e (x.less h)
/-- the caller's state behind a call; Z: the value's own object, new -/
theorem call_back {os : List Opd} {vs : List V} {ss outs : List S} {H' : Hp} {U' : Addr → Prop} {r1 : Rho} (s : Sit C U H σ r) (k : Paired (fun o v => Ops2 C U H σ r o v) os vs) (hp : passAll r os = some ss) (hd : dst r os = true)
    (s' : Sit C U' H' (slots vs) (words outs)) (a' : Aft (fun a => Wn U σ r a ∧ ¬ Own (slots vs) (words ss) a) H (slots vs) (words ss) U' H' (slots vs) (words outs)) (hw : wbAll os outs r = some r1)
    (Z : Addr → Prop) (hz : ∀ a, Z a → H a = none ∧ U' a ∧ Lv H' a) :
    Sit C (fun a => U a ∨ Z a) H' σ r1 ∧ Aft U H σ r (fun a => U a ∨ Z a) H' σ r1 ∧ Per r r1 ∧ ∀ a, Wn (fun a => U a ∨ Z a) σ r1 a → Wn U' (slots vs) (words outs) a := by
  obtain ⟨sA, own⟩ := args_sit s k hp hd
  obtain ⟨hl, hs⟩ := pass_spec hp
  obtain ⟨wl, wp, wc⟩ := wbAll_spec hw
  have hh : ∀ (k : Nat) (s : S), ss[k]? = some s → s.own = true → s.hard = true := fun n t h1 h2 => by
    obtain ⟨o, _, hq⟩ := hs n t h1
    rcases pass1_spec hq with ⟨d, rfl⟩ | ⟨_, _, _, _, _, q, _, _⟩
    · cases h2
    · exact q
  -- the owned objects are the same
  have own1 : ∀ a, Own σ r1 a → Own σ r a := fun a ⟨j, t, h1, h2, h3⟩ => by
    rcases wc j t h1 with ⟨q, _⟩ | ⟨_, u, _, _, _, q, _, kd⟩
    · exact ⟨j, t, q, h2, h3⟩
    · exact ⟨j, u, q, kd.2.2.2, h3⟩
  have wsub : ∀ a, Wn (fun a => U a ∨ Z a) σ r1 a → Wn U' (slots vs) (words outs) a := fun a h => by
    have base : Wn U σ r a → Wn U' (slots vs) (words outs) a := fun h => by
      by_cases q : Own (slots vs) (words ss) a
      · exact .inl (a'.ownPin hh q)
      · exact .inr (a'.sub a ⟨h, q⟩)
    rcases h with h | h | h
    · exact base (.inl (own1 a h))
    · exact base (.inr h)
    · exact .inr (hz a h).2.1
  have m : Mono U (Wn U σ r) H (fun a => U a ∨ Z a) (Wn (fun a => U a ∨ Z a) σ r1) H' := by
    refine ⟨s.wlv, fun a o n h => a'.keep a o h fun z => ?_, fun a o n h z => ?_, fun a o u h => a'.keep a o h fun z => ?_, fun a h => .inl h⟩
    · obtain ⟨_, i, t, _, z2, z3, z4, _⟩ := own a z
      exact n (.inl ⟨i, t, z2, z3, z4⟩)
    · rcases z with z | z | z
      · exact n (.inl (own1 a z))
      · exact n (.inr z)
      · have q := (hz a z).1
        rw [h] at q; cases q
    · obtain ⟨_, i, t, _, z2, z3, z4, _⟩ := own a z
      exact s.dis a ⟨i, t, z2, z3, z4⟩ u
  have softeq : ∀ (j : Nat) (t : S), r1[j]? = some (some t) → ∃ u, r[j]? = some (some u) ∧ (t.soft = false → u.soft = false) := fun j t h1 => by
    rcases wc j t h1 with ⟨q, _⟩ | ⟨_, u, _, _, _, q, _, kd⟩
    · exact ⟨t, q, id⟩
    · exact ⟨u, q, fun _ => soft_of_own kd.2.2.2⟩
  have npass : ∀ (j : Nat) (t : S) (a : Addr), r[j]? = some (some t) → t.own = true → σ[j]? = some (some (V.ref a)) → (∀ k : Nat, os[k]? = some (.loc j) → t.own = false) → ¬ Own (slots vs) (words ss) a := fun j t a h1 h2 h3 h4 z => by
    obtain ⟨n, i, u, z1, z2, z3, z4, _⟩ := own a z
    have ij := s.inj i j u t (.ref a) z2 (soft_of_own z3) h1 (soft_of_own h2) z4 h3
    subst ij
    rw [h4 n z1] at h2; cases h2
  refine ⟨⟨by rw [wl]; exact s.len, fun j t h1 => ?_, fun i j t u v h1 q1 h2 q2 e1 e2 => ?_, fun a h z => ?_, fun a h => ?_⟩, ⟨fun a h => .inl h, fun a h => ?_, fun a h => .inl (own1 a h), fun a o h n => a'.keep a o h fun z => ?_, fun a o h => a'.there a o h, fun j t h1 h2 => ?_, fun j t h1 h2 => ?_⟩, wp, wsub⟩
  · rcases wc j t h1 with ⟨q, nq⟩ | ⟨n, u, t', z1, z2, z3, z4, kd⟩
    · obtain ⟨v, e, x⟩ := s.rep j t q
      refine ⟨v, e, x.mono m fun a o ho hv h => a'.keep a o h ?_⟩
      exact npass j t a q ho (by rw [e, hv]) nq
    · obtain ⟨v, hv, kv⟩ := paired_at k n _ z1
      obtain ⟨w, hw', x⟩ := s'.rep n t' (words_at.mpr z2)
      rw [slots_at] at hw'
      rw [hv] at hw'; cases hw'
      exact ⟨v, kv.1, z4.sr wsub x⟩
  · obtain ⟨t', g1, g2⟩ := softeq i t h1
    obtain ⟨u', g3, g4⟩ := softeq j u h2
    exact s.inj i j t' u' v g1 (g2 q1) g3 (g4 q2) e1 e2
  · rcases z with z | z
    · exact s.dis a (own1 a h) z
    · exact (s.wlv a (.inl (own1 a h))).ne (hz a z).1
  · rcases h with h | h
    · have l := s.uok a h
      have nA : ¬ Own (slots vs) (words ss) a := fun z => by
        obtain ⟨_, i, t, _, z2, z3, z4, _⟩ := own a z
        exact s.dis a ⟨i, t, z2, z3, z4⟩ h
      rcases l with ⟨x, l⟩ | ⟨x, l⟩
      · exact .inl ⟨x, a'.keep a _ l nA⟩
      · exact .inr ⟨x, a'.keep a _ l nA⟩
    · exact (hz a h).2.2
  · rcases h with h | h
    · exact .inl h
    · exact .inr (.inl (hz a h).1)
  · obtain ⟨_, i, t, _, z2, z3, z4, _⟩ := own a z
    exact n ⟨i, t, z2, z3, z4⟩
  · obtain ⟨u, hu⟩ := wp j t h1
    refine ⟨u, hu, ?_, rfl⟩
    rcases wc j u hu with ⟨q, _⟩ | ⟨_, u', _, _, _, q, _, kd⟩
    · rw [h1] at q; cases q; exact Sl.refl _
    · rw [h1] at q; cases q; exact kd.2.1 h2
  · rcases wc j t h1 with ⟨q, _⟩ | ⟨_, u', _, _, _, q, _, kd⟩
    · exact ⟨q, rfl⟩
    · rw [kd.2.2.1] at h2; cases h2
end
section
variable {X : Cx} {C : Ct} {e : Expr}
def Ar (fa : Rho → Rs (List Opd)) (n : Nat) : Prop := ∀ r os r1, fa r = .ok os r1 → os.length = n
theorem ar_nil : Ar eNil 0 := fun r os r1 h => by cases h; rfl
theorem ar_cons {fe : Rho → Rs Opd} {fr : Rho → Rs (List Opd)} {n : Nat} (h : Ar fr n) : Ar (eCons fe fr) (n + 1) := fun r os r1 e => by
  unfold eCons Rs.bind at e
  cases e1 : fe r with
  | st => rw [e1] at e; cases e
  | ex c fs r' => rw [e1] at e; cases e
  | ok o r2 =>
    rw [e1] at e
    simp only [] at e
    cases e2 : fr r2 with
    | st => rw [e2] at e; cases e
    | ex c fs r' => rw [e2] at e; cases e
    | ok os' r3 =>
      rw [e2] at e
      cases e
      rw [List.length_cons, h r2 os' _ e2]
theorem pass_hard {r : Rho} {os : List Opd} {ss : List S} (h : passAll r os = some ss) : ∀ s ∈ ss, s.own = true → s.hard = true := fun s hs ho => by
  obtain ⟨k, hk⟩ := List.mem_iff_getElem?.mp hs
  obtain ⟨o, _, q⟩ := (pass_spec h).2 k s hk
  rcases pass1_spec q with ⟨d, rfl⟩ | ⟨_, _, _, _, _, z, _, _⟩
  · cases ho
  · exact z
theorem fn_reading {n : Nat} {F : Fs} {fa : Rho → Rs (List Opd)} {σ : St} {H : Hp} {Q : VK} {E : XK} (hn : Ar fa n) (hE : ∀ cls d H2, C.W cls d σ H2 → E cls d H2) (h : tE C (eFn F fa) σ H Q) :
    tA C fa σ H (fun vs H1 => spF C n F (vs ++ []) H1 Q E) := by
  obtain ⟨U, r, s, h⟩ := h
  have hfa := hn r
  refine ⟨U, r, s, ?_⟩
  unfold eFn at h
  cases e : fa r with
  | ex c fs r' => rw [e] at h; exact h
  | st => rw [e] at h; exact h
  | ok os r1 =>
    rw [e] at h
    simp only [Rs.bind] at h
    intro vs H1 U1 s1 a1 p1 k1 n1
    obtain ⟨U2, s2, a2, u2, k2⟩ := ops_drop s s1 a1 k1 n1
    unfold eFnO at h
    cases hp : passAll r1 os with
    | none => simp only [hp] at h
    | some ss =>
      simp only [hp] at h
      by_cases hd : dst r1 os = true
      · rw [if_pos hd] at h
        obtain ⟨sA, own⟩ := args_sit s2 k2 hp hd
        obtain ⟨hl, hs⟩ := pass_spec hp
        rw [List.append_nil]
        refine ⟨by rw [← Paired.length k1, hl]; rw [← hl]; exact hfa os r1 e, _, ss, pass_hard hp, sA, ?_⟩
        cases hF : F ss with
        | st => simp only [hF] at h
        | ok t outs =>
          simp only [hF] at h
          intro v H2 U' s' a' ok' nw
          cases hw : wbAll os outs r1 with
          | none => simp only [hw] at h
          | some r2 =>
            simp only [hw] at h
            obtain ⟨x, hu, hh⟩ := ok'
            obtain ⟨s3, a3, p3, w3⟩ := call_back s2 k2 hp hd s' a' hw (fun a => t.own = true ∧ v = .ref a) (fun a ⟨z1, z2⟩ => ⟨nw t a rfl z1 z2, hu a z1 z2, by
              obtain ⟨p, e1, l⟩ := x.ownLv z1
              rw [z2] at e1; cases e1; exact l⟩)
            refine h v H2 _ s3 (a2.trans a3) (p1.trans p3) ⟨?_, fun p z1 z2 => .inr ⟨z1, z2⟩, hh⟩ (nw.back a2)
            exact x.less w3 fun p z1 z2 => by rw [lkd_hard z1] at hh; cases hh
        | ex c fs outs =>
          simp only [hF] at h
          intro cls d H2 U' s' a' x
          cases hw : wbAll os outs r1 with
          | none => simp only [hw] at h
          | some r2 =>
            simp only [hw] at h
            obtain ⟨s3, a3, p3, w3⟩ := call_back s2 k2 hp hd s' a' hw (fun a => False) (fun a z => z.elim)
            obtain ⟨b, dx, fv, e1, e2, e3, e4, e5⟩ := x
            exact hE cls d H2 (h cls d σ H2 _ s3 (a2.trans a3) ⟨b, dx, fv, e1, e2, e3, e4, e5.less w3⟩)
      · rw [if_neg hd] at h
        exact h.elim
theorem ge_fnc {n : Nat} {F : Fs} {fa : Rho → Rs (List Opd)} {E : St → XK} (h : PE X e (fun σ H Q => tCall (spF C n F) [] (E σ) (tA C fa) σ H Q)) (hn : Ar fa n) (hE : ∀ σ cls d H2, C.W cls d σ H2 → E σ cls d H2) : GE X C e (eFn F fa) :=
  weakE h fun σ H Q q => fn_reading hn (hE σ) q
end
end GB

/-! slots stored, locked; tests; statements -/
namespace GB
open PySem PySem.Spec PyProof.Rows L2
section
variable {C : Ct} {U U' : Addr → Prop} {H H' : Hp} {σ σ' : St} {r r' : Rho}
theorem lt_of_at {α : Type} {l : List α} {i : Nat} {x : α} (h : l[i]? = some x) : i < l.length := by
  by_cases q : i < l.length
  · exact q
  · rw [List.getElem?_eq_none (by simpa using q)] at h; cases h
theorem at_set {α : Type} {l : List α} {i j : Nat} {x y : α} (h : (l.set i x)[j]? = some y) : (j = i ∧ y = x) ∨ (j ≠ i ∧ l[j]? = some y) := by
  by_cases e : i = j
  · subst e
    have := lt_of_at h
    rw [List.length_set] at this
    rw [List.getElem?_set_self this] at h; cases h; exact .inl ⟨rfl, rfl⟩
  · rw [List.getElem?_set_ne e] at h; exact .inr ⟨fun z => e z.symm, h⟩
/-- a slot that may be stored to -/
def free (r : Rho) (i : Nat) : Bool := match r[i]? with
  | some none => true
  | some (some s) => !s.hard
  | none => false
theorem free_lt {i : Nat} (h : free r i = true) : i < r.length := by
  unfold free at h
  cases e : r[i]? with
  | none => rw [e] at h; cases h
  | some q => exact lt_of_at e
theorem free_hard {i : Nat} {s : S} (h : free r i = true) (e : r[i]? = some (some s)) : s.hard = false := by
  unfold free at h
  rw [e] at h
  simpa using h
theorem soft_cases {s : S} (h : s.soft = false) : s.own = true ∨ s.lkd = true := by cases s <;> first | exact .inl rfl | exact .inr rfl | cases h
/-- name i = v -/
theorem Sit.store {i : Nat} {s : S} {v : V} (st : Sit C U H σ r) (hf : free r i = true) (op : OpOk C U H σ r (.val s) v)
    (hlk : ∀ (j : Nat) (t : S) (q : Addr), r[j]? = some (some t) → t.lkd = true → σ[j]? = some (some (V.ref q)) → ¬ (s.own = true ∧ v = .ref q)) :
    Sit C (fun a => U a ∧ ¬ (s.own = true ∧ v = .ref a)) H (σ.set i (some v)) (r.set i (some s)) ∧ (∀ a, Own (σ.set i (some v)) (r.set i (some s)) a → Own σ r a ∨ (s.own = true ∧ v = .ref a)) := by
  have hlt := free_lt hf
  have hls : i < σ.length := by rw [st.len]; exact hlt
  obtain ⟨x, hu, hs⟩ := op
  have own' : ∀ a, Own (σ.set i (some v)) (r.set i (some s)) a → Own σ r a ∨ (s.own = true ∧ v = .ref a) := fun a ⟨j, t, h1, h2, h3⟩ => by
    rcases at_set h1 with ⟨rfl, e⟩ | ⟨n, h1⟩
    · cases e
      rw [List.getElem?_set_self hls] at h3
      exact .inr ⟨h2, by simpa using h3⟩
    · rw [List.getElem?_set_ne (fun z => n z.symm)] at h3
      exact .inl ⟨j, t, h1, h2, h3⟩
  have wsub : ∀ a, Wn (fun a => U a ∧ ¬ (s.own = true ∧ v = .ref a)) (σ.set i (some v)) (r.set i (some s)) a → Wn U σ r a := fun a h => by
    rcases h with h | h
    · rcases own' a h with h | ⟨h1, h2⟩
      · exact .inl h
      · exact .inr (hu a h1 h2)
    · exact .inr h.1
  refine ⟨⟨by rw [List.length_set, List.length_set]; exact st.len, fun j t h => ?_, fun j k t u w h1 q1 h2 q2 e1 e2 => ?_, fun a h z => ?_, fun a h => st.uok a h.1⟩, own'⟩
  · rcases at_set h with ⟨rfl, e⟩ | ⟨n, h⟩
    · cases e
      exact ⟨v, List.getElem?_set_self hls, x.less wsub fun p hl _ => by rw [lkd_hard hl] at hs; cases hs⟩
    · obtain ⟨w, e, y⟩ := st.rep j t h
      refine ⟨w, by rw [List.getElem?_set_ne (fun z => n z.symm)]; exact e, y.less wsub fun p hl hp => ⟨y.lkLv hl hp, ?_⟩⟩
      exact hlk j t p h hl (by rw [e, hp])
  · have clash : ∀ (k : Nat) (u : S), r[k]? = some (some u) → u.soft = false → s.soft = false → σ[k]? = some (some v) → False := fun k u g1 g2 g3 g4 => by
      have so : s.own = true := (soft_cases g3).resolve_right fun z => by rw [lkd_hard z] at hs; cases hs
      obtain ⟨p, e, _⟩ := x.ownLv so
      subst e
      rcases soft_cases g2 with g | g
      · exact st.dis p ⟨k, u, g1, g, g4⟩ (hu p so rfl)
      · exact hlk k u p g1 g g4 ⟨so, rfl⟩
    rcases at_set h1 with ⟨rfl, z1⟩ | ⟨n1, g1⟩
    · cases z1
      rw [List.getElem?_set_self hls] at e1; cases e1
      rcases at_set h2 with ⟨rfl, z2⟩ | ⟨n2, h2⟩
      · rfl
      · rw [List.getElem?_set_ne (fun z => n2 z.symm)] at e2
        exact (clash k u h2 q2 q1 e2).elim
    · rw [List.getElem?_set_ne (fun z => n1 z.symm)] at e1
      rcases at_set h2 with ⟨rfl, z2⟩ | ⟨n2, g2⟩
      · cases z2
        rw [List.getElem?_set_self hls] at e2; cases e2
        exact (clash j t g1 q1 q2 e1).elim
      · rw [List.getElem?_set_ne (fun z => n2 z.symm)] at e2
        exact st.inj j k t u w g1 q1 g2 q2 e1 e2
  · rcases own' a h with h | h
    · exact st.dis a h z.1
    · exact z.2 h
/-- the store behind an expression -/
theorem store_aft {i : Nat} {s : S} {v : V} (s0 : Sit C U H σ r) (st : Sit C U' H' σ r') (a : Aft U H σ r U' H' σ r') (hf : free r' i = true) (op : OpOk C U' H' σ r' (.val s) v) (nw : New H (.val s) v) :
    ∃ U2, Sit C U2 H' (σ.set i (some v)) (r'.set i (some s)) ∧ Aft U H σ r U2 H' (σ.set i (some v)) (r'.set i (some s)) := by
  have hlk : ∀ (j : Nat) (t : S) (q : Addr), r'[j]? = some (some t) → t.lkd = true → σ[j]? = some (some (V.ref q)) → ¬ (s.own = true ∧ v = .ref q) := fun j t q h1 h2 h3 ⟨z1, z2⟩ => by
    obtain ⟨g1, _⟩ := a.lok j t h1 h2
    obtain ⟨w, e, x⟩ := s0.rep j t g1
    rw [h3] at e; cases e
    exact (s0.uok q (x.lkLv h2 rfl)).ne (nw s q rfl z1 z2)
  obtain ⟨s1, own'⟩ := st.store hf op hlk
  refine ⟨_, s1, ⟨fun b h => ⟨a.sub b h, fun z => (s0.uok b h).ne (nw s b rfl z.1 z.2)⟩, fun b h => a.new b h.1, fun b h => ?_, a.keep, a.there, fun j t h1 h2 => ?_, fun j t h1 h2 => ?_⟩⟩
  · rcases own' b h with h | h
    · exact a.grow b h
    · exact .inr (nw s b rfl h.1 h.2)
  · obtain ⟨t', g1, g2, g3⟩ := a.pin j t h1 h2
    have n : i ≠ j := fun z => by
      subst z
      have := free_hard hf g1
      rw [g2.hard h2] at this; cases this
    exact ⟨t', by rw [List.getElem?_set_ne n]; exact g1, g2, by rw [List.getElem?_set_ne n]⟩
  · rcases at_set h1 with ⟨rfl, e⟩ | ⟨n, h1⟩
    · cases e
      have := op.2.2
      rw [lkd_hard h2] at this; cases this
    · obtain ⟨g1, g2⟩ := a.lok j t h1 h2
      exact ⟨g1, by rw [List.getElem?_set_ne (fun z => n z.symm)]⟩
end

/-! ### statements -/
inductive Fl where
  | nx (r : Rho) | rt (s : S) (r : Rho) | bk (r : Rho) | ct (r : Rho) | ex (c : Str) (fs : List (Str × D)) (r : Rho) | st
/-- a value handed back: a new object, or one that was a slot's -/
def NewO (H : Hp) (σ : St) (r : Rho) (s : S) (v : V) : Prop := ∀ p, s.own = true → v = .ref p → Own σ r p ∨ H p = none
def RS (C : Ct) (U : Addr → Prop) (H : Hp) (σ : St) (r : Rho) (D : Ends) : Fl → Prop
  | .nx r' => ∀ σ' H' U', Sit C U' H' σ' r' → Aft U H σ r U' H' σ' r' → D.nx σ' H'
  | .rt s r' => ∀ v σ' H' U', Sit C U' H' σ' r' → Aft U H σ r U' H' σ' r' → OpOk C U' H' σ' r' (.val s) v → NewO H σ r s v → D.rt v H'
  | .bk r' => ∀ σ' H' U', Sit C U' H' σ' r' → Aft U H σ r U' H' σ' r' → D.bk σ' H'
  | .ct r' => ∀ σ' H' U', Sit C U' H' σ' r' → Aft U H σ r U' H' σ' r' → D.ct σ' H'
  | .ex c fs r' => XWant C U H σ r c fs r'
  | .st => False
def tS (C : Ct) (f : Rho → Fl) : TS := fun D σ H => ∃ U r, Sit C U H σ r ∧ RS C U H σ r D (f r)
abbrev GS (X : Cx) (C : Ct) (st : Stmt) (f : Rho → Fl) : Prop := PS X st (tS C f)
abbrev GSs (X : Cx) (C : Ct) (st : List Stmt) (f : Rho → Fl) : Prop := PSs X st (tS C f)
section
variable {X : Cx} {C : Ct} {st : Stmt} {sts : List Stmt} {f g : Rho → Fl} {e : Expr} {fe : Rho → Rs Opd} {pos : Pos}
theorem weakS {t t' : TS} (h : PS X st t) (k : ∀ D σ H, t' D σ H → t D σ H) : PS X st t' := ⟨fun pins s σ H D I q => h.run pins s σ H D I (k D σ H q)⟩
theorem weakSs {t t' : TS} (h : PSs X sts t) (k : ∀ D σ H, t' D σ H → t D σ H) : PSs X sts t' := ⟨fun pins s σ H D I q => h.run pins s σ H D I (k D σ H q)⟩
/-- what is wanted later is wanted now -/
theorem RS.before {U U' : Addr → Prop} {H H' : Hp} {σ σ' : St} {r r' : Rho} {D : Ends} {z : Fl} (h : RS C U H σ r D z) (a : Aft U H σ r U' H' σ' r') : RS C U' H' σ' r' D z := by
  cases z with
  | nx r2 => exact fun σ2 H2 U2 s2 a2 => h σ2 H2 U2 s2 (a.trans a2)
  | bk r2 => exact fun σ2 H2 U2 s2 a2 => h σ2 H2 U2 s2 (a.trans a2)
  | ct r2 => exact fun σ2 H2 U2 s2 a2 => h σ2 H2 U2 s2 (a.trans a2)
  | rt s r2 => exact fun v σ2 H2 U2 s2 a2 o n => h v σ2 H2 U2 s2 (a.trans a2) o fun p e1 e2 => (n p e1 e2).elim (a.grow p) fun z => .inr (a.back z)
  | ex c fs r2 => exact fun cls d σ2 H2 U2 s2 a2 x => h cls d σ2 H2 U2 s2 (a.trans a2) x
  | st => exact h
def fSeq (f g : Rho → Fl) : Rho → Fl := fun r => match f r with
  | .nx r1 => g r1
  | z => z
def fNil : Rho → Fl := fun r => .nx r
theorem gs_nil : GSs X C [] fNil := weakSs pss_nil fun D σ H ⟨U, r, s, h⟩ => h σ H U s Aft.refl
theorem gs_cons (h1 : GS X C st f) (h2 : GSs X C sts g) : GSs X C (st :: sts) (fSeq f g) := by
  refine weakSs (pss_cons h1 h2) fun D σ H h => ?_
  obtain ⟨U, r, s, h⟩ := h
  refine ⟨U, r, s, ?_⟩
  unfold fSeq at h
  cases e : f r with
  | nx r1 => rw [e] at h; exact fun σ' H' U' s' a' => ⟨U', r1, s', RS.before h a'⟩
  | rt t r1 => rw [e] at h; exact h
  | bk r1 => rw [e] at h; exact h
  | ct r1 => rw [e] at h; exact h
  | ex c fs r1 => rw [e] at h; exact h
  | st => rw [e] at h; exact h
theorem gs_one (h1 : GS X C st f) : GSs X C [st] f := weakSs (pss_one h1) fun D σ H h => h
def fPass : Rho → Fl := fun r => .nx r
theorem gs_pass : GS X C (.Pass pos) fPass := weakS ps_pass fun D σ H ⟨U, r, s, h⟩ => h σ H U s Aft.refl
theorem gs_doc {x j pos'} : GS X C (.Expr (.Constant (.str x) j pos) pos') fPass := weakS ps_doc fun D σ H ⟨U, r, s, h⟩ => h σ H U s Aft.refl
/-- an expression within a statement -/
theorem tE_stmt {k : Opd → Rho → Fl} {σ : St} {H : Hp} {Q : VK} {D : Ends} {U : Addr → Prop} {r : Rho} (s : Sit C U H σ r)
    (h : RS C U H σ r D (match fe r with | .ok o r1 => k o r1 | .ex c fs r1 => .ex c fs r1 | .st => .st))
    (hok : ∀ o r' v H' U', Sit C U' H' σ r' → Aft U H σ r U' H' σ r' → Per r r' → OpOk C U' H' σ r' o v → New H o v → RS C U H σ r D (k o r') → Q v H') : tE C fe σ H Q := by
  refine ⟨U, r, s, ?_⟩
  cases e : fe r with
  | ok o r' => rw [e] at h; exact fun v H' U' s' a' p' k' n' => hok o r' v H' U' s' a' p' k' n' h
  | ex c fs r' => rw [e] at h; exact h
  | st => rw [e] at h; exact h
def fExpr (fe : Rho → Rs Opd) : Rho → Fl := fun r => match fe r with
  | .ok _ r1 => .nx r1
  | .ex c fs r1 => .ex c fs r1
  | .st => .st
theorem gs_expr (he : GE X C e fe) (hs : swapsWith e none pos.line X.env = pure false := by rfl) : GS X C (.Expr e pos) (fExpr fe) := by
  refine weakS (ps_expr he hs) fun D σ H h => ?_
  obtain ⟨U, r, s, h⟩ := h
  exact tE_stmt (k := fun _ r1 => .nx r1) s h fun o r' v H' U' s' a' p' k' n' q => q σ H' U' s' a'
/-- what is stored of an operand -/
def take (o : Opd) (r : Rho) : Option (S × Rho) := match o with
  | .val s => if s.hard then none else some (s, r)
  | .loc _ => match frz1 o r with
    | some (d, r1) => some (.fz d, r1)
    | none => none
theorem take_ok {U' : Addr → Prop} {H H' : Hp} {σ : St} {r' r2 : Rho} {o : Opd} {v : V} {s : S} (s' : Sit C U' H' σ r') (k : OpOk C U' H' σ r' o v) (n : New H o v) (h : take o r' = some (s, r2)) :
    Sit C U' H' σ r2 ∧ Aft U' H' σ r' U' H' σ r2 ∧ Per r' r2 ∧ OpOk C U' H' σ r2 (.val s) v ∧ New H (.val s) v := by
  cases o with
  | val t =>
    unfold take at h
    dsimp only at h
    split at h
    · cases h
    · cases h
      exact ⟨s', Aft.refl, Per.refl, k, n⟩
  | loc i =>
    unfold take at h
    dsimp only at h
    cases e : frz1 (.loc i) r' with
    | none => rw [e] at h; cases h
    | some q =>
      obtain ⟨d, r3⟩ := q
      rw [e] at h
      cases h
      obtain ⟨s2, a2, p2, x2⟩ := frz1_ok s' (o := .loc i) k e
      exact ⟨s2, a2, p2, ⟨.fz x2, fun p z => (nomatch z), rfl⟩, fun _ _ z q _ => by cases z; cases q⟩
def putS (i : Nat) (o : Opd) (r : Rho) : Fl := match take o r with
  | some (s, r1) => if free r1 i then .nx (r1.set i (some s)) else .st
  | none => .st
def fSet (i : Nat) (fe : Rho → Rs Opd) : Rho → Fl := fun r => match fe r with
  | .ok o r1 => putS i o r1
  | .ex c fs r1 => .ex c fs r1
  | .st => .st
theorem put_ok {i : Nat} {U U' : Addr → Prop} {H H' : Hp} {σ : St} {r r' : Rho} {o : Opd} {v : V} {D : Ends} (s0 : Sit C U H σ r) (s' : Sit C U' H' σ r') (a' : Aft U H σ r U' H' σ r') (k : OpOk C U' H' σ r' o v) (n : New H o v) (q : RS C U H σ r D (putS i o r')) : D.nx (σ.set i (some v)) H' := by
  unfold putS at q
  cases e : take o r' with
  | none => rw [e] at q; exact q.elim
  | some z =>
    obtain ⟨t, r2⟩ := z
    rw [e] at q
    dsimp only at q
    obtain ⟨s2, a2, p2, k2, n2⟩ := take_ok s' k n e
    by_cases hf : free r2 i = true
    · rw [if_pos hf] at q
      obtain ⟨U3, s3, a3⟩ := store_aft s0 s2 (a'.trans a2) hf k2 n2
      exact q _ _ U3 s3 a3
    · rw [if_neg hf] at q
      exact q.elim
theorem gs_set {i : Nat} {x : Str} {pos' : Pos} (hN : X.N.Nodup) (hi : X.N[i]? = some x) (hx : Loc X.env.scope x) (he : GE X C e fe) (hs : swapsWith e (some (.Name x pos')) pos.line X.env = pure false := by rfl) (hf : X.fn x = true ∨ X.env.scope.names.lookup x = some .local := by first | exact .inl rfl | exact .inr rfl | assumption) :
    GS X C (.Assign [.Name x pos'] e pos) (fSet i fe) := by
  refine weakS (ps_set hN hi hx he hs hf) fun D σ H h => ?_
  obtain ⟨U, r, s, h⟩ := h
  exact tE_stmt (k := putS i) s h fun o r' v H' U' s' a' p' k' n' q => put_ok s s' a' k' n' q
end
end GB

/-! return, tests, if, while -/
namespace GB
open PySem PySem.Spec PyProof.Rows L2
section
variable {C : Ct} {U U' : Addr → Prop} {H H' : Hp} {σ σ' : St} {r r' : Rho}
/-- a slot is emptied, its thing handed on -/
theorem Sit.moved {i : Nat} {s : S} {v : V} (st : Sit C U H σ r) (hi : r[i]? = some (some s)) (ho : s.own = true) (hv : σ[i]? = some (some v)) :
    Sit C (fun a => U a ∨ v = .ref a) H σ (r.set i none) ∧ (∀ a, Own σ (r.set i none) a → Own σ r a) ∧ SR C.K (fun a => U a ∨ v = .ref a) (Wn (fun a => U a ∨ v = .ref a) σ (r.set i none)) H v s := by
  obtain ⟨w, e, x⟩ := st.rep i s hi
  rw [hv] at e; cases e
  obtain ⟨p, e, l⟩ := x.ownLv ho
  subst e
  have own' : ∀ a, Own σ (r.set i none) a → Own σ r a ∧ a ≠ p := fun a ⟨j, t, h1, h2, h3⟩ => by
    rcases at_set h1 with ⟨_, e⟩ | ⟨n, h1⟩
    · cases e
    · refine ⟨⟨j, t, h1, h2, h3⟩, fun z => n ?_⟩
      subst z
      exact st.inj j i t s _ h1 (soft_of_own h2) hi (soft_of_own ho) h3 hv
  have wsub : ∀ a, Wn (fun a => U a ∨ V.ref p = .ref a) σ (r.set i none) a → Wn U σ r a := fun a h => by
    rcases h with h | h | h
    · exact .inl (own' a h).1
    · exact .inr h
    · cases h; exact .inl ⟨i, s, hi, ho, hv⟩
  have slot : ∀ (j : Nat) (t : S), (r.set i none)[j]? = some (some t) → r[j]? = some (some t) := fun j t h => by
    rcases at_set h with ⟨_, e⟩ | ⟨n, h⟩
    · cases e
    · exact h
  refine ⟨⟨by rw [List.length_set]; exact st.len, fun j t h => ?_, fun j k t u w h1 q1 h2 q2 e1 e2 => st.inj j k t u w (slot j t h1) q1 (slot k u h2) q2 e1 e2, fun a h z => ?_, fun a h => ?_⟩, fun a h => (own' a h).1, x.less wsub fun q z1 z2 => .inl (x.lkLv z1 z2)⟩
  · obtain ⟨w, e, y⟩ := st.rep j t (slot j t h)
    exact ⟨w, e, y.less wsub fun q z1 z2 => .inl (y.lkLv z1 z2)⟩
  · rcases z with z | z
    · exact st.dis a (own' a h).1 z
    · cases z; exact (own' _ h).2 rfl
  · rcases h with h | h
    · exact st.uok a h
    · cases h; exact l
theorem moved_aft {i : Nat} {s : S} {v : V} (st : Sit C U H σ r) (hi : r[i]? = some (some s)) (ho : s.own = true) (hh : s.hard = false) (hv : σ[i]? = some (some v)) :
    Aft U H σ r (fun a => U a ∨ v = .ref a) H σ (r.set i none) := by
  obtain ⟨_, own', _⟩ := st.moved hi ho hv
  refine ⟨fun a h => .inl h, fun a h => h.elim .inl fun z => .inr (.inr ⟨i, s, hi, ho, by rw [hv, z]⟩), fun a h => .inl (own' a h), fun a o h _ => h, fun a o h => ⟨o, h⟩, fun j t h1 h2 => ?_, fun j t h1 h2 => ?_⟩
  · have n : i ≠ j := fun z => by subst z; rw [hi] at h1; cases h1; rw [h2] at hh; cases hh
    exact ⟨t, by rw [List.getElem?_set_ne n]; exact h1, Sl.refl t, rfl⟩
  · rcases at_set h1 with ⟨_, e⟩ | ⟨n, h1⟩
    · cases e
    · exact ⟨h1, rfl⟩
end
section
variable {X : Cx} {C : Ct} {st : Stmt} {sts : List Stmt} {f g : Rho → Fl} {a b c e : Expr} {fe fa fb : Rho → Rs Opd} {pos : Pos}
/-- what a return gives of an operand -/
def handed (o : Opd) (r : Rho) : Fl := match o with
  | .val s => if s.hard then .st else .rt s r
  | .loc i => match r[i]? with
    | some (some (.fz d)) => .rt (.fz d) r
    | some (some (.ol ds)) => .rt (.ol ds) (r.set i none)
    | some (some (.od ds)) => .rt (.od ds) (r.set i none)
    | _ => .st
def fRet (fe : Rho → Rs Opd) : Rho → Fl := fun r => match fe r with
  | .ok o r1 => handed o r1
  | .ex c fs r1 => .ex c fs r1
  | .st => .st
theorem gs_ret (he : GE X C e fe) : GS X C (.Return (some e) pos) (fRet fe) := by
  refine weakS (ps_ret he) fun D σ H h => ?_
  obtain ⟨U, r, s, h⟩ := h
  refine tE_stmt (k := handed) s h fun o r' v H' U' s' a' p' k' n' q => ?_
  cases o with
  | val t =>
    unfold handed at q
    dsimp only at q
    split at q
    · exact q.elim
    · exact q v σ H' U' s' a' k' fun p e1 e2 => .inr (n' t p rfl e1 e2)
  | loc i =>
    obtain ⟨hv, t, ht⟩ := k'
    unfold handed at q
    simp only [ht] at q
    have move : ∀ t, r'[i]? = some (some t) → t.own = true → t.hard = false → RS C U H σ r D (.rt t (r'.set i none)) → D.rt v H' := fun t ht ho hh q => by
      obtain ⟨s2, _, x2⟩ := s'.moved ht ho hv
      have a2 := moved_aft s' ht ho hh hv
      refine q v σ H' _ s2 (a'.trans a2) ⟨x2, fun p _ z => .inr z, hh⟩ fun p _ z => a'.grow p ⟨i, t, ht, ho, by rw [hv, z]⟩
    cases t with
    | fz d =>
      obtain ⟨w, e, x⟩ := s'.rep i _ ht
      rw [hv] at e; cases e
      exact q v σ H' U' s' a' ⟨x, fun p z => (nomatch z), rfl⟩ fun p z => (nomatch z)
    | ol ds => exact move _ ht rfl rfl q
    | od ds => exact move _ ht rfl rfl q
    | _ => exact q.elim
def fRetN : Rho → Fl := fun r => .rt (.fz .non) r
theorem gs_retN : GS X C (.Return none pos) fRetN := by
  refine weakS ps_retN fun D σ H h => ?_
  obtain ⟨U, r, s, h⟩ := h
  exact h .non σ H U s Aft.refl ⟨.fz .non, fun p z => (nomatch z), rfl⟩ fun p z => (nomatch z)

/-! ### tests -/
abbrev RT (C : Ct) (U : Addr → Prop) (H : Hp) (σ : St) (r : Rho) (Q : Bool → Hp → Prop) : Rs Bool → Prop
  | .ok b r' => ∀ H' U', Sit C U' H' σ r' → Aft U H σ r U' H' σ r' → Per r r' → Q b H'
  | .ex c fs r' => XWant C U H σ r c fs r'
  | .st => False
def tT (C : Ct) (f : Rho → Rs Bool) : TT := fun σ H Q => ∃ U r, Sit C U H σ r ∧ RT C U H σ r Q (f r)
abbrev GT (X : Cx) (C : Ct) (e : Expr) (f : Rho → Rs Bool) : Prop := PT X e (tT C f)
abbrev GW (X : Cx) (C : Ct) (e : Expr) (f : Rho → Rs Bool) : Prop := PW X e (tT C f)
theorem weakW {t t' : TT} (h : PW X e t) (k : ∀ σ H Q, t' σ H Q → t σ H Q) : PW X e t' := ⟨fun w pins s σ H Q I q => h.run w pins s σ H Q I (k σ H Q q)⟩
theorem RT.before {U U' : Addr → Prop} {H H' : Hp} {σ : St} {r r' : Rho} {Q : Bool → Hp → Prop} {z : Rs Bool} (h : RT C U H σ r Q z) (a : Aft U H σ r U' H' σ r') (p : Per r r') : RT C U' H' σ r' Q z := by
  cases z with
  | ok b r2 => exact fun H2 U2 s2 a2 p2 => h H2 U2 s2 (a.trans a2) (p.trans p2)
  | ex c fs r2 => exact XWant.before h a
  | st => exact h
theorem RE.before {U U' : Addr → Prop} {H H' : Hp} {σ : St} {r r' : Rho} {Q : VK} {z : Rs Opd} (h : RE C U H σ r Q z) (a : Aft U H σ r U' H' σ r') (p : Per r r') : RE C U' H' σ r' Q z := by
  cases z with
  | ok b r2 => exact fun v H2 U2 s2 a2 p2 o n => h v H2 U2 s2 (a.trans a2) (p.trans p2) o (n.back a)
  | ex c fs r2 => exact XWant.before h a
  | st => exact h
/-- a word's truth -/
def tru : S → Option Bool
  | .fz .non => some false
  | .fz (.bl b) => some b
  | .fz (.int i) => some (i != 0)
  | .fz (.str l) => if l.length ≤ 16777216 then some (!l.isEmpty) else none
  | .fz (.tup ds) => some (!ds.isEmpty)
  | .fz (.lst ds) => some (!ds.isEmpty)
  | .fz (.scr ds) => some (!ds.isEmpty)
  | .fz (.dic _ _) => none
  | .ol ds => some (!ds.isEmpty)
  | .br ds => some (!ds.isEmpty)
  | .lk ds => some (!ds.isEmpty)
  | .od k => some (!k.isEmpty)
  | .bd k => some (!k.isEmpty)
  | .kd k => some (!k.isEmpty)
  | .exc _ _ _ _ => none
theorem Rps.len {K : PySem.W.Frag} {W : Addr → Prop} {H : Hp} : ∀ {xs : List V} {ds : List D}, Rps K W H xs ds → xs.length = ds.length
  | _, _, .nil => rfl
  | _, _, .cons _ t => congrArg (· + 1) (Rps.len t)
theorem KR.len {κ : Type} {K : PySem.W.Frag} {W : Addr → Prop} {H : Hp} {xs : List (κ × V)} {ds : List (κ × D)} (h : KR K W H xs ds) : xs.length = ds.length := Paired.length h
theorem emp_len {α β : Type} {xs : List α} {ys : List β} (h : xs.length = ys.length) : (!ys.isEmpty) = !xs.isEmpty := by
  cases xs <;> cases ys <;> first | rfl | (simp at h)
theorem truV_of {K : PySem.W.Frag} {U W : Addr → Prop} {H : Hp} {v : V} {s : S} {k : Bool} (x : SR K U W H v s) (h : tru s = some k) : TruV K v H k := by
  cases x with
  | fz x =>
    cases x with
    | non => cases h; rfl
    | bl b => cases h; rfl
    | int i => cases h; rfl
    | str l =>
      have h : (if l.length ≤ 16777216 then some (!l.isEmpty) else none) = some k := h
      by_cases hl : l.length ≤ 16777216
      · rw [if_pos hl] at h
        cases h
        have e : (⟨l.toArray⟩ : Str).length = l.length := by simp [Str.length]
        refine ⟨by rw [e, sizeLine_eq]; exact hl, ?_⟩
        rw [e]
        cases l with
        | nil => rfl
        | cons a r =>
          have q : ((((a :: r).length : Nat) : Int) != 0) = true := by
            rw [bne_iff_ne]
            simp only [List.length_cons]
            omega
          rw [q]; rfl
      · rw [if_neg hl] at h; cases h
    | tup e x => cases h; exact .inr (.inl ⟨_, e, emp_len x.len⟩)
    | lst e n x => cases h; exact .inl ⟨_, .inl (.inl e), emp_len x.len⟩
    | scr e x => cases h; exact .inl ⟨_, e.seq, emp_len x.len⟩
    | dic _ _ _ _ => cases h
  | ol e x => cases h; exact .inl ⟨_, .inl (.inl e), emp_len x.len⟩
  | br e x => cases h; exact .inl ⟨_, .inl (.inl e), emp_len x.len⟩
  | lk e u x => cases h; exact .inl ⟨_, .inl (.inl e), emp_len x.len⟩
  | od e x => cases h; exact .inr (.inr ⟨_, e, emp_len x.len⟩)
  | bd e x => cases h; exact .inr (.inr ⟨_, e, emp_len x.len⟩)
  | kd e u x => cases h; exact .inr (.inr ⟨_, e, emp_len x.len⟩)
  | exc _ _ => cases h
def tTru (o : Opd) (r : Rho) : Rs Bool := match res r o with
  | some s => (match tru s with | some b => .ok b r | none => .st)
  | none => .st
def eTru (fe : Rho → Rs Opd) : Rho → Rs Bool := fun r => (fe r).bind tTru
theorem gt_tru (he : GE X C e fe) (hp : ∀ whole, isTrue e X.env whole = (do let v ← whole; standAt e.pos; holding [v] (truthy v)) := by intro _; rfl) (hK : C.K = X.K := by rfl) : GT X C e (eTru fe) := by
  refine weakT (pt_truth he hp) fun σ H Q h => ?_
  obtain ⟨U, r, s, h⟩ := h
  refine tE_then (R := RT C U H σ r Q) s h id (fun _ _ _ z => z) ?_
  intro o r1 v H1 U1 s1 a1 p1 k1 n1 h1
  obtain ⟨t, e, x⟩ := k1.res s1
  unfold tTru at h1
  simp only [e] at h1
  cases e2 : tru t with
  | none => simp only [e2] at h1; exact (show False from h1).elim
  | some b =>
    simp only [e2] at h1
    exact ⟨b, hK ▸ truV_of x e2, h1 H1 U1 s1 a1 p1⟩
def eNotT (f : Rho → Rs Bool) : Rho → Rs Bool := fun r => (f r).bind fun b r1 => .ok (!b) r1
def eAndT (f g : Rho → Rs Bool) : Rho → Rs Bool := fun r => (f r).bind fun b r1 => if b then g r1 else .ok false r1
def eOrT (f g : Rho → Rs Bool) : Rho → Rs Bool := fun r => (f r).bind fun b r1 => if b then .ok true r1 else g r1
theorem tT_then {α : Type} {f : Rho → Rs Bool} {g : Bool → Rho → Rs α} {σ : St} {H : Hp} {Q : Bool → Hp → Prop} {U : Addr → Prop} {r : Rho} {R : Rs α → Prop} (s : Sit C U H σ r) (h : R ((f r).bind g))
    (hst : R .st → False) (hex : ∀ c fs r', R (.ex c fs r') → XWant C U H σ r c fs r')
    (hok : ∀ b r' H' U', Sit C U' H' σ r' → Aft U H σ r U' H' σ r' → Per r r' → R (g b r') → Q b H') : tT C f σ H Q := by
  refine ⟨U, r, s, ?_⟩
  cases e : f r with
  | ok o r' => rw [e] at h; exact fun H' U' s' a' p' => hok o r' H' U' s' a' p' h
  | ex c fs r' => rw [e] at h; exact hex c fs r' h
  | st => rw [e] at h; exact hst h
variable {ft gt : Rho → Rs Bool} {rest : List Expr}
theorem gt_not (h : GT X C a ft) : GT X C (.UnaryOp .Not a pos) (eNotT ft) := by
  refine weakT (pt_not h) fun σ H Q h => ?_
  obtain ⟨U, r, s, h⟩ := h
  exact tT_then (R := RT C U H σ r Q) s h id (fun _ _ _ z => z) fun b r1 H1 U1 s1 a1 p1 h1 => h1 H1 U1 s1 a1 p1
theorem gw_and1 (h : GT X C a ft) : GW X C (.BoolOp .And [a] pos) ft := weakW (pw_and1 h) fun σ H Q h => h
theorem gw_or1 (h : GT X C a ft) : GW X C (.BoolOp .Or [a] pos) ft := weakW (pw_or1 h) fun σ H Q h => h
theorem gw_and (h : GT X C a ft) (h' : GW X C (.BoolOp .And (b :: rest) pos) gt) : GW X C (.BoolOp .And (a :: b :: rest) pos) (eAndT ft gt) := by
  refine weakW (pw_and h h') fun σ H Q h => ?_
  obtain ⟨U, r, s, h⟩ := h
  refine tT_then (R := RT C U H σ r Q) s h id (fun _ _ _ z => z) fun b r1 H1 U1 s1 a1 p1 h1 => ?_
  cases b with
  | true => exact ⟨U1, r1, s1, RT.before h1 a1 p1⟩
  | false => exact h1 H1 U1 s1 a1 p1
theorem gw_or (h : GT X C a ft) (h' : GW X C (.BoolOp .Or (b :: rest) pos) gt) : GW X C (.BoolOp .Or (a :: b :: rest) pos) (eOrT ft gt) := by
  refine weakW (pw_or h h') fun σ H Q h => ?_
  obtain ⟨U, r, s, h⟩ := h
  refine tT_then (R := RT C U H σ r Q) s h id (fun _ _ _ z => z) fun b r1 H1 U1 s1 a1 p1 h1 => ?_
  cases b with
  | true => exact h1 H1 U1 s1 a1 p1
  | false => exact ⟨U1, r1, s1, RT.before h1 a1 p1⟩
theorem gt_w (h : GW X C e ft) : GT X C e ft := h.pt
def tBl (o : Opd) (r : Rho) : Rs Bool := match o with
  | .val (.fz (.bl b)) => .ok b r
  | _ => .st
def eBl (fe : Rho → Rs Opd) : Rho → Rs Bool := fun r => (fe r).bind tBl
/-- a test whose parts are compared: by its value -/
theorem gt_cmp {op : CmpOp} {rr : R2} {p : Pr} (ho : OpR X (compareOp op) rr) (hp : PN C (fun vs H Q => ∃ x y, vs = [x, y] ∧ rr x y H Q) p) (ha : GE X C a fa) (hb : GE X C b fb) (hm : behindInMarks op b = false) :
    GT X C (.Compare a [op] [b] pos) (eBl (eCall p (eCons fa (eCons fb eNil)))) := by
  refine weakT (pt_cmpR ho ha hb hm) fun σ H Q h => ?_
  show tOp rr (tE C fa) (tE C fb) σ H fun x H' => ∃ k, x = .bl k ∧ Q k H'
  obtain ⟨U, r, s, h⟩ := h
  refine tE_then (g := fun o r1 => ((fb r1).bind fun o2 r2 => (eP p [o, o2] r2).bind tBl)) (R := RT C U H σ r Q) s ?_ id (fun _ _ _ z => z) ?_
  · refine cast ?_ h
    unfold eBl eCall eCons eNil Rs.bind
    cases fa r with
    | ok o r1 => simp only []; cases fb r1 <;> rfl
    | ex c fs r' => rfl
    | st => rfl
  intro o r1 v H1 U1 s1 a1 p1 k1 n1 h1
  refine tE_then (R := RT C U H σ r Q) s1 h1 id (fun _ _ _ z => XWant.before z a1) ?_
  intro o2 r2 v2 H2 U2 s2 a2 p2 k2 n2 h2
  obtain ⟨ss, e, x⟩ := OpsOk.res s2 (.cons (k1.after a2 s1 p2) (.cons k2 .nil))
  unfold eP at h2
  simp only [e] at h2
  cases e2 : p ss with
  | none => simp only [e2, Rs.bind] at h2; exact (show False from h2).elim
  | some t =>
    simp only [e2, Rs.bind] at h2
    obtain ⟨x1, y1, e3, q⟩ := hp U2 _ H2 [v, v2] ss t (fun x H' => ∃ k, x = .bl k ∧ Q k H') s2.wlv x e2 fun w H3 g => by
      obtain ⟨U3, s3, a3, k3, n3⟩ := g.fin s2
      cases t with
      | fz d =>
        cases d with
        | bl k' =>
          have fin : RT C U H σ r Q (.ok k' r2) := h2
          cases k3.1 with | fz y => cases y; exact ⟨_, rfl, fin H3 U3 s3 ((a1.trans a2).trans a3) (p1.trans p2)⟩
        | _ => exact (show False from h2).elim
      | _ => exact (show False from h2).elim
    cases e3
    exact q
end
end GB

/-! if, while, targets, for -/
namespace GB
open PySem PySem.Spec PyProof.Rows L2
section
variable {X : Cx} {C : Ct} {st : Stmt} {sts sts' : List Stmt} {f g : Rho → Fl} {a b c e : Expr} {fe fa fb : Rho → Rs Opd} {ft : Rho → Rs Bool} {pos : Pos}
def ofR {α : Type} (z : Rs α) (k : α → Rho → Fl) : Fl := match z with
  | .ok o r1 => k o r1
  | .ex c fs r1 => .ex c fs r1
  | .st => .st
theorem tT_stmt {k : Bool → Rho → Fl} {σ : St} {H : Hp} {Q : Bool → Hp → Prop} {D : Ends} {U : Addr → Prop} {r : Rho} (s : Sit C U H σ r)
    (h : RS C U H σ r D (ofR (ft r) k))
    (hok : ∀ b r' H' U', Sit C U' H' σ r' → Aft U H σ r U' H' σ r' → Per r r' → RS C U H σ r D (k b r') → Q b H') : tT C ft σ H Q := by
  refine ⟨U, r, s, ?_⟩
  cases e : ft r with
  | ok o r' => rw [e] at h; exact fun H' U' s' a' p' => hok o r' H' U' s' a' p' h
  | ex c fs r' => rw [e] at h; exact h
  | st => rw [e] at h; exact h
def fIf (ft : Rho → Rs Bool) (f g : Rho → Fl) : Rho → Fl := fun r => ofR (ft r) fun b r1 => if b then f r1 else g r1
theorem gs_if (hc : GT X C c ft) (ha : GSs X C sts f) (hb : GSs X C sts' g) : GS X C (.If c sts sts' pos) (fIf ft f g) := by
  refine weakS (ps_if hc ha hb) fun D σ H h => ?_
  obtain ⟨U, r, s, h⟩ := h
  refine tT_stmt (D := D) s h fun b r' H' U' s' a' p' q => ?_
  cases b with
  | true => exact ⟨U', r', s', RS.before q a'⟩
  | false => exact ⟨U', r', s', RS.before q a'⟩

/-! ### while -/
def whileN (ft : Rho → Rs Bool) (f : Rho → Fl) : Nat → Rho → Option Fl
  | 0, _ => none
  | n + 1, r => match ft r with
    | .ok true r1 => (match f r1 with
      | .nx r2 => whileN ft f n r2
      | .ct r2 => whileN ft f n r2
      | .bk r2 => some (.nx r2)
      | z => some z)
    | .ok false r1 => some (.nx r1)
    | .ex c fs r1 => some (.ex c fs r1)
    | .st => some .st
open Classical in
noncomputable def fWhile (ft : Rho → Rs Bool) (f : Rho → Fl) : Rho → Fl := fun r => if h : ∃ n z, whileN ft f n r = some z then h.choose_spec.choose else .st
theorem whileN_succ {ft : Rho → Rs Bool} {f : Rho → Fl} : ∀ {n : Nat} {r : Rho} {z : Fl}, whileN ft f n r = some z → whileN ft f (n + 1) r = some z := by
  intro n
  induction n with
  | zero => intro r z h; cases h
  | succ n ih =>
    intro r z h
    unfold whileN at h ⊢
    cases e : ft r with
    | ok b r1 =>
      cases b with
      | true =>
        simp only [e] at h ⊢
        cases e2 : f r1 with
        | nx r2 => simp only [e2] at h ⊢; exact ih h
        | ct r2 => simp only [e2] at h ⊢; exact ih h
        | bk r2 => simp only [e2] at h ⊢; exact h
        | rt s r2 => simp only [e2] at h ⊢; exact h
        | ex c fs r2 => simp only [e2] at h ⊢; exact h
        | st => simp only [e2] at h ⊢; exact h
      | false => simp only [e] at h ⊢; exact h
    | ex c fs r1 => simp only [e] at h ⊢; exact h
    | st => simp only [e] at h ⊢; exact h
theorem whileN_le {ft : Rho → Rs Bool} {f : Rho → Fl} {m n : Nat} {r : Rho} {z : Fl} (h : whileN ft f m r = some z) (l : m ≤ n) : whileN ft f n r = some z := by
  induction l with
  | refl => exact h
  | step _ ih => exact whileN_succ ih
theorem fWhile_of {ft : Rho → Rs Bool} {f : Rho → Fl} {n : Nat} {r : Rho} {z : Fl} (h : whileN ft f n r = some z) : fWhile ft f r = z := by
  unfold fWhile
  have ex : ∃ n z, whileN ft f n r = some z := ⟨n, z, h⟩
  rw [dif_pos ex]
  have h' := ex.choose_spec.choose_spec
  have h1 := whileN_le h (Nat.le_max_left n ex.choose)
  have h2 := whileN_le h' (Nat.le_max_right n ex.choose)
  rw [h1] at h2
  exact (Option.some.inj h2).symm
theorem fWhile_some {ft : Rho → Rs Bool} {f : Rho → Fl} {r : Rho} : fWhile ft f r = .st ∨ ∃ n, whileN ft f n r = some (fWhile ft f r) := by
  by_cases ex : ∃ n z, whileN ft f n r = some z
  · obtain ⟨n, z, h⟩ := ex
    exact .inr ⟨n, by rw [fWhile_of h]; exact h⟩
  · left; unfold fWhile; rw [dif_neg ex]
/-- a while's own equation -/
theorem fWhile_eq (ft : Rho → Rs Bool) (f : Rho → Fl) (r : Rho) : fWhile ft f r = ofR (ft r) fun b r1 => if b then (match f r1 with | .nx r2 => fWhile ft f r2 | .ct r2 => fWhile ft f r2 | .bk r2 => .nx r2 | z => z) else .nx r1 := by
  have go : ∀ r2, (∃ n, whileN ft f n r2 = some (fWhile ft f r2)) ∨ (fWhile ft f r2 = .st ∧ ∀ n, whileN ft f n r2 = none ∨ whileN ft f n r2 = some .st) := fun r2 => by
    rcases fWhile_some (ft := ft) (f := f) (r := r2) with h | h
    · refine .inr ⟨h, fun n => ?_⟩
      cases e : whileN ft f n r2 with
      | none => exact .inl rfl
      | some z => rw [← fWhile_of e, h]; exact .inr rfl
    · exact .inl h
  have lift : ∀ r1 r2 : Rho, ft r = .ok true r1 → (f r1 = .nx r2 ∨ f r1 = .ct r2) → fWhile ft f r = fWhile ft f r2 := fun r1 r2 h1 h2 => by
    have step : ∀ n, whileN ft f (n + 1) r = whileN ft f n r2 := fun n => by
      rw [whileN]
      rcases h2 with h2 | h2 <;> simp only [h1, h2]
    rcases go r2 with ⟨n, h⟩ | ⟨h, hn⟩
    · exact fWhile_of (n := n + 1) ((step n).trans h)
    · rw [h]
      rcases fWhile_some (ft := ft) (f := f) (r := r) with q | ⟨m, q⟩
      · exact q
      · cases m with
        | zero => cases q
        | succ m =>
          rw [step] at q
          rcases hn m with z | z
          · rw [z] at q; cases q
          · rw [z] at q; exact (Option.some.inj q).symm
  cases e : ft r with
  | ok b r1 =>
    cases b with
    | true =>
      cases e2 : f r1 with
      | nx r2 => exact (lift r1 r2 e (.inl e2)).trans (by simp [ofR, e2])
      | ct r2 => exact (lift r1 r2 e (.inr e2)).trans (by simp [ofR, e2])
      | bk r2 => exact fWhile_of (n := 1) (by simp only [whileN, e, e2]; simp [ofR, e2])
      | rt s r2 => exact fWhile_of (n := 1) (by simp only [whileN, e, e2]; simp [ofR, e2])
      | ex c fs r2 => exact fWhile_of (n := 1) (by simp only [whileN, e, e2]; simp [ofR, e2])
      | st => exact fWhile_of (n := 1) (by simp only [whileN, e, e2]; simp [ofR, e2])
    | false => exact fWhile_of (n := 1) (by simp only [whileN, e]; simp [ofR])
  | ex c fs r1 => exact fWhile_of (n := 1) (by simp only [whileN, e]; simp [ofR])
  | st => exact fWhile_of (n := 1) (by simp only [whileN, e]; simp [ofR])
theorem gs_while (hp : PassesOwn (model X.prog X.w) X.A X.env X.xe) (hc : GT X C c ft) (hb : GSs X C sts f) : GS X C (.While c sts [] pos) (fWhile ft f) := by
  refine weakS (ps_while hp hc hb) fun D σ H h => ?_
  obtain ⟨U, r, s, h⟩ := h
  rcases fWhile_some (ft := ft) (f := f) (r := r) with q | ⟨n, q⟩
  · rw [q] at h; exact h.elim
  refine ⟨fun m σ' H' => ∃ U' r', Sit C U' H' σ' r' ∧ Aft U H σ r U' H' σ' r' ∧ whileN ft f m r' = some (fWhile ft f r), ⟨n, U, r, s, Aft.refl, q⟩, ?_⟩
  rintro m σ1 H1 ⟨U1, r1, s1, a1, e1⟩
  cases m with
  | zero => cases e1
  | succ m =>
    rw [whileN] at e1
    refine ⟨U1, r1, s1, ?_⟩
    cases e : ft r1 with
    | ok b r2 =>
      intro H2 U2 s2 a2 p2
      cases b with
      | false =>
        simp only [e] at e1
        rw [← Option.some.inj e1] at h
        exact h σ1 H2 U2 s2 (a1.trans a2)
      | true =>
        simp only [e] at e1
        rw [if_pos rfl]
        refine ⟨fun σ' H' => ∃ U' r', Sit C U' H' σ' r' ∧ Aft U H σ r U' H' σ' r' ∧ whileN ft f m r' = some (fWhile ft f r), fun σ' H' z => ⟨m, Nat.lt_succ_self m, z⟩, U2, r2, s2, ?_⟩
        cases e2 : f r2 with
        | nx r3 => simp only [e2] at e1; exact fun σ' H' U' s' a' => ⟨U', r3, s', (a1.trans a2).trans a', e1⟩
        | ct r3 => simp only [e2] at e1; exact fun σ' H' U' s' a' => ⟨U', r3, s', (a1.trans a2).trans a', e1⟩
        | bk r3 => simp only [e2] at e1; rw [← Option.some.inj e1] at h; exact fun σ' H' U' s' a' => h σ' H' U' s' ((a1.trans a2).trans a')
        | rt t r3 => simp only [e2] at e1; rw [← Option.some.inj e1] at h; exact RS.before h (a1.trans a2)
        | ex c fs r3 => simp only [e2] at e1; rw [← Option.some.inj e1] at h; exact RS.before h (a1.trans a2)
        | st => simp only [e2] at e1; rw [← Option.some.inj e1] at h; exact h
    | ex c fs r2 =>
      simp only [e] at e1
      rw [← Option.some.inj e1] at h
      exact XWant.before (show XWant C U H σ r c fs r2 from h) a1
    | st =>
      simp only [e] at e1
      rw [← Option.some.inj e1] at h
      exact h
end
end GB

/-! targets, locks, for -/
namespace GB
open PySem PySem.Spec PyProof.Rows L2

/-! ### targets -/
def tG (C : Ct) (tgt : List Nat) (fg : D → Rho → Option Rho) : TG := fun v σ H Q => ∃ U r d, Sit C U H σ r ∧ Rp C.K (Wn U σ r) H v d ∧
  match fg d r with
  | some r' => ∀ σ' U', Sit C U' H σ' r' → Aft U H σ r U' H σ' r' → (Per r r' ∧ σ'.length = σ.length) → (∀ j, j ∉ tgt → σ'[j]? = σ[j]?) → Q σ' H
  | none => False
def tGs (C : Ct) (tgt : List Nat) (fg : List D → Rho → Option Rho) : TGs := fun vs σ H Q => ∃ U r ds, Sit C U H σ r ∧ Rps C.K (Wn U σ r) H vs ds ∧
  match fg ds r with
  | some r' => ∀ σ' U', Sit C U' H σ' r' → Aft U H σ r U' H σ' r' → (Per r r' ∧ σ'.length = σ.length) → (∀ j, j ∉ tgt → σ'[j]? = σ[j]?) → Q σ' H
  | none => False
section
variable {X : Cx} {C : Ct} {e : Expr} {es : List Expr} {pos : Pos}
abbrev GG (X : Cx) (C : Ct) (e : Expr) (tgt : List Nat) (fg : D → Rho → Option Rho) : Prop := PG X e (tG C tgt fg)
abbrev GGs (X : Cx) (C : Ct) (es : List Expr) (tgt : List Nat) (fg : List D → Rho → Option Rho) : Prop := PGs X es (tGs C tgt fg)
theorem weakG {t t' : TG} (h : PG X e t) (k : ∀ v σ H Q, t' v σ H Q → t v σ H Q) : PG X e t' := ⟨fun pins s σ H v u Q I r q => h.run pins s σ H v u Q I r (k v σ H Q q)⟩
theorem weakGs {t t' : TGs} (h : PGs X es t) (k : ∀ v σ H Q, t' v σ H Q → t v σ H Q) : PGs X es t' := ⟨fun pins s σ H v u Q I r q => h.run pins s σ H v u Q I r (k v σ H Q q)⟩
def gNm (i : Nat) : D → Rho → Option Rho := fun d r => if free r i then some (r.set i (some (.fz d))) else none
theorem gg_name {i : Nat} {x : Str} (hN : X.N.Nodup) (hi : X.N[i]? = some x) (hx : Loc X.env.scope x) (hf : X.fn x = true ∨ X.env.scope.names.lookup x = some .local := by first | exact .inl rfl | exact .inr rfl | assumption) : GG X C (.Name x pos) [i] (gNm i) := by
  refine weakG (pg_name hN hi hx hf) fun v σ H Q h => ?_
  obtain ⟨U, r, d, s, x, h⟩ := h
  unfold gNm at h
  by_cases hf : free r i = true
  · rw [if_pos hf] at h
    obtain ⟨U3, s3, a3⟩ := store_aft (s := .fz d) (v := v) s s Aft.refl hf ⟨.fz x, fun p z => (nomatch z), rfl⟩ fun _ _ z q _ => by cases z; cases q
    exact h _ U3 s3 a3 ⟨fun j t hj => (by
      by_cases z : i = j
      · subst z; exact ⟨_, List.getElem?_set_self (free_lt hf)⟩
      · exact ⟨t, by rw [List.getElem?_set_ne z]; exact hj⟩), List.length_set⟩ fun j hj => by rw [List.getElem?_set_ne (fun z => hj (by simp [z]))]
  · rw [if_neg hf] at h
    exact h.elim
def gsNil : List D → Rho → Option Rho
  | [], r => some r
  | _, _ => none
def gsCons (f : D → Rho → Option Rho) (g : List D → Rho → Option Rho) : List D → Rho → Option Rho
  | d :: ds, r => (match f d r with | some r1 => g ds r1 | none => none)
  | [], _ => none
theorem ggs_nil : GGs X C [] [] gsNil := by
  refine weakGs pgs_nil fun vs σ H Q h => ?_
  obtain ⟨U, r, ds, s, x, h⟩ := h
  cases x with
  | nil => exact ⟨rfl, h σ U s Aft.refl ⟨Per.refl, rfl⟩ fun _ _ => rfl⟩
  | cons _ _ => exact h.elim
theorem ggs_cons {f : D → Rho → Option Rho} {g : List D → Rho → Option Rho} {t1 t2 : List Nat} (h1 : GG X C e t1 f) (h2 : GGs X C es t2 g)
    (hs : (assignEach (e :: es) X.env).map (·.2) = assign e X.env :: (assignEach es X.env).map (·.2) := by rfl) : GGs X C (e :: es) (t1 ++ t2) (gsCons f g) := by
  refine weakGs (pgs_cons h1 h2 hs) fun vs σ H Q h => ?_
  obtain ⟨U, r, ds, s, x, h⟩ := h
  cases x with
  | nil => exact h.elim
  | @cons v vs d ds x xs =>
    refine ⟨v, vs, rfl, U, r, d, s, x, ?_⟩
    unfold gsCons at h
    cases e1 : f d r with
    | none => simp only [e1] at h
    | some r1 =>
      simp only [e1] at h
      intro σ1 U1 s1 a1 l1 o1
      refine ⟨U1, r1, ds, s1, xs.mono (a1.mono s), ?_⟩
      cases e2 : g ds r1 with
      | none => simp only [e2] at h
      | some r2 =>
        simp only [e2] at h
        intro σ2 U2 s2 a2 l2 o2
        exact h σ2 U2 s2 (a1.trans a2) ⟨l1.1.trans l2.1, l2.2.trans l1.2⟩ fun j hj => (o2 j fun z => hj (List.mem_append_right _ z)).trans (o1 j fun z => hj (List.mem_append_left _ z))
def gTp (n : Nat) (f : List D → Rho → Option Rho) : D → Rho → Option Rho := fun d r => match d with
  | .tup ds => if ds.length = n then f ds r else none
  | _ => none
theorem gg_tup {k : Nat} {f : List D → Rho → Option Rho} {n : Nat} {t : List Nat} (hc : X.calm = true) (h : GGs X C es t f) (hK : C.K = X.K := by rfl)
    (hn : (assignEach es X.env).length = n := by rfl) (hst : (assignEach es X.env).findIdx? (·.1) = none := by rfl) : GG X C (.Tuple es k pos) t (gTp n f) := by
  refine weakG (pg_tup hc h hn hst) fun v σ H Q h => ?_
  obtain ⟨U, r, d, s, x, h⟩ := h
  cases x with
  | @tup a xs ds q xs' =>
    unfold gTp at h
    dsimp only at h
    by_cases hl : ds.length = n
    · rw [if_pos hl] at h
      exact ⟨a, xs, rfl, hK ▸ q, xs'.len.trans hl, U, r, ds, s, xs', h⟩
    · rw [if_neg hl] at h
      exact h.elim
  | _ => exact h.elim
/-- target = e (a tuple of names; one name is gs_set) -/
def fAsg (fg : D → Rho → Option Rho) (fe : Rho → Rs Opd) : Rho → Fl := fun r => ofR (fe r) fun o r1 => match frz1 o r1 with
  | some (d, r2) => (match fg d r2 with | some r3 => .nx r3 | none => .st)
  | none => .st
theorem tE_stmt2 {fe : Rho → Rs Opd} {k : Opd → Rho → Fl} {σ : St} {H : Hp} {Q : VK} {D : Ends} {U : Addr → Prop} {r : Rho} (s : Sit C U H σ r) (h : RS C U H σ r D (ofR (fe r) k))
    (hok : ∀ o r' v H' U', Sit C U' H' σ r' → Aft U H σ r U' H' σ r' → Per r r' → OpOk C U' H' σ r' o v → New H o v → RS C U H σ r D (k o r') → Q v H') : tE C fe σ H Q := by
  refine ⟨U, r, s, ?_⟩
  cases e : fe r with
  | ok o r' => rw [e] at h; exact fun v H' U' s' a' p' k' n' => hok o r' v H' U' s' a' p' k' n' h
  | ex c fs r' => rw [e] at h; exact h
  | st => rw [e] at h; exact h
theorem op1_drop {U U' : Addr → Prop} {H H' : Hp} {σ : St} {r r' : Rho} {o : Opd} {v : V} (s0 : Sit C U H σ r) (s : Sit C U' H' σ r') (a : Aft U H σ r U' H' σ r') (k : OpOk C U' H' σ r' o v) (n : New H o v) :
    ∃ U2, Sit C U2 H' σ r' ∧ Aft U H σ r U2 H' σ r' ∧ (∀ a, U2 a → U' a) ∧ Ops2 C U2 H' σ r' o v := by
  obtain ⟨U2, s2, a2, u2, k2⟩ := ops_drop s0 s a (.cons k .nil) (.cons n .nil)
  cases k2 with
  | cons k2 _ => exact ⟨U2, s2, a2, u2, k2⟩
theorem gs_asg {fe : Rho → Rs Opd} {tg : Expr} {t : List Nat} {fg : D → Rho → Option Rho} (he : GE X C e fe) (hg : GG X C tg t fg) (hs : swapsWithSole [tg] e pos.line X.env = pure false := by rfl) (hw : swappedStores [tg] e X.env = pure none := by rfl)
    (h1 : (assignEach [tg] X.env).map (·.2) = [assign tg X.env] := by rfl) : GS X C (.Assign [tg] e pos) (fAsg fg fe) := by
  refine weakS (ps_asg he hg hs hw h1) fun D σ H h => ?_
  obtain ⟨U, r, s, h⟩ := h
  refine tE_stmt2 (D := D) s h fun o r' v H' U' s' a' p' k' n' q => ?_
  obtain ⟨U2, s2, a2, u2, k2⟩ := op1_drop s s' a' k' n'
  cases e1 : frz1 o r' with
  | none => simp only [e1] at q; exact (show False from q).elim
  | some z =>
    obtain ⟨d, r2⟩ := z
    simp only [e1] at q
    obtain ⟨s3, a3, p3, x3⟩ := frz1_ok s2 k2 e1
    refine ⟨U2, r2, d, s3, x3, ?_⟩
    cases e2 : fg d r2 with
    | none => simp only [e2] at q; exact (show False from q).elim
    | some r3 =>
      simp only [e2] at q
      exact fun σ' U3 s4 a4 _ _ => q σ' H' U3 s4 ((a2.trans a3).trans a4)
end

/-! ### locks -/
section
variable {C : Ct} {U U' : Addr → Prop} {H H' : Hp} {σ σ' : St} {r r' : Rho} {i : Nat} {ds : List D} {s : S} {p : Addr}
theorem Sit.lock (st : Sit C U H σ r) (hi : r[i]? = some (some s)) (hs : s = .ol ds ∨ s = .br ds) (hv : σ[i]? = some (some (V.ref p))) :
    Sit C (fun a => U a ∨ a = p) H σ (r.set i (some (.lk ds))) ∧ (∀ a, Own σ (r.set i (some (.lk ds))) a → Own σ r a ∧ a ≠ p) := by
  have ho : s.own = true := by rcases hs with h | h <;> (subst h; rfl)
  have hlt := lt_of_at hi
  obtain ⟨w, e, x⟩ := st.rep i s hi
  rw [hv] at e; cases e
  have own' : ∀ a, Own σ (r.set i (some (.lk ds))) a → Own σ r a ∧ a ≠ p := fun a ⟨j, t, h1, h2, h3⟩ => by
    rcases at_set h1 with ⟨_, e⟩ | ⟨n, h1⟩
    · cases e; cases h2
    · refine ⟨⟨j, t, h1, h2, h3⟩, fun z => n ?_⟩
      subst z
      exact st.inj j i t s _ h1 (soft_of_own h2) hi (soft_of_own ho) h3 hv
  have wsub : ∀ a, Wn (fun a => U a ∨ a = p) σ (r.set i (some (.lk ds))) a → Wn U σ r a := fun a h => by
    rcases h with h | h | h
    · exact .inl (own' a h).1
    · exact .inr h
    · subst h; exact .inl ⟨i, s, hi, ho, hv⟩
  have lk : SR C.K (fun a => U a ∨ a = p) (Wn (fun a => U a ∨ a = p) σ (r.set i (some (.lk ds)))) H (.ref p) (.lk ds) := by
    rcases hs with h | h <;> subst h
    · cases x with | ol e x => exact .lk e (.inr rfl) (x.less wsub)
    · cases x with | br e x => exact .lk e (.inr rfl) (x.less wsub)
  have slot : ∀ (j : Nat) (t : S), (r.set i (some (.lk ds)))[j]? = some (some t) → t.soft = false → ∃ u, r[j]? = some (some u) ∧ u.soft = false := fun j t h q => by
    rcases at_set h with ⟨rfl, e⟩ | ⟨n, h⟩
    · exact ⟨s, hi, soft_of_own ho⟩
    · exact ⟨t, h, q⟩
  refine ⟨⟨by rw [List.length_set]; exact st.len, fun j t h => ?_, fun j k t u w h1 q1 h2 q2 e1 e2 => ?_, fun a h z => ?_, fun a h => ?_⟩, own'⟩
  · rcases at_set h with ⟨rfl, e⟩ | ⟨n, h⟩
    · cases e; exact ⟨_, hv, lk⟩
    · obtain ⟨w, e, y⟩ := st.rep j t h
      exact ⟨w, e, y.less wsub fun q z1 z2 => .inl (y.lkLv z1 z2)⟩
  · obtain ⟨_, g1, g2⟩ := slot j t h1 q1
    obtain ⟨_, g3, g4⟩ := slot k u h2 q2
    exact st.inj j k _ _ w g1 g2 g3 g4 e1 e2
  · rcases z with z | z
    · exact st.dis a (own' a h).1 z
    · exact (own' a h).2 z
  · rcases h with h | h
    · exact st.uok a h
    · subst h
      exact st.wlv a (.inl ⟨i, s, hi, ho, hv⟩)
/-- behind the loop -/
theorem Sit.unlock (s0 : Sit C U H σ r) (hi : r[i]? = some (some s)) (hs : s = .ol ds ∨ s = .br ds) (hv : σ[i]? = some (some (V.ref p)))
    (st : Sit C U' H' σ' r') (a : Aft (fun a => U a ∨ a = p) H σ (r.set i (some (.lk ds))) U' H' σ' r') :
    Sit C (fun a => U' a ∧ a ≠ p) H' σ' (r'.set i (some s)) ∧ Aft U H σ r (fun a => U' a ∧ a ≠ p) H' σ' (r'.set i (some s)) ∧ (∀ a, Wn (fun a => U' a ∧ a ≠ p) σ' (r'.set i (some s)) a → Wn U' σ' r' a) := by
  have ho : s.own = true := by rcases hs with h | h <;> (subst h; rfl)
  have hlt := lt_of_at hi
  obtain ⟨sl, ownl⟩ := s0.lock hi hs hv
  have lp : Lv H p := s0.wlv p (.inl ⟨i, s, hi, ho, hv⟩)
  obtain ⟨t, ht, hsl, hσ⟩ := a.pin i (.lk ds) (List.getElem?_set_self hlt) rfl
  have ht' : t = .lk ds := hsl
  subst ht'
  rw [hv] at hσ
  have hlt' := lt_of_at ht
  obtain ⟨w, e, x⟩ := st.rep i _ ht
  rw [hσ] at e; cases e
  have up : U' p := x.lkLv rfl rfl
  have own' : ∀ b, Own σ' (r'.set i (some s)) b → Own σ' r' b ∨ b = p := fun b ⟨j, t, h1, h2, h3⟩ => by
    rcases at_set h1 with ⟨rfl, e⟩ | ⟨n, h1⟩
    · rw [hσ] at h3; cases h3; exact .inr rfl
    · exact .inl ⟨j, t, h1, h2, h3⟩
  have wsub : ∀ b, Wn (fun a => U' a ∧ a ≠ p) σ' (r'.set i (some s)) b → Wn U' σ' r' b := fun b h => by
    rcases h with h | h
    · rcases own' b h with h | h
      · exact .inl h
      · subst h; exact .inr up
    · exact .inr h.1
  have slot : ∀ (j : Nat) (t : S), (r'.set i (some s))[j]? = some (some t) → t.soft = false → ∃ u, r'[j]? = some (some u) ∧ u.soft = false := fun j t h q => by
    rcases at_set h with ⟨rfl, e⟩ | ⟨n, h⟩
    · exact ⟨_, ht, rfl⟩
    · exact ⟨t, h, q⟩
  have nU : ∀ b, U b → b ≠ p := fun b h z => by subst z; exact s0.dis b ⟨i, s, hi, ho, hv⟩ h
  refine ⟨⟨by rw [List.length_set]; exact st.len, fun j t h => ?_, fun j k t u w h1 q1 h2 q2 e1 e2 => ?_, fun b h z => ?_, fun b h => st.uok b h.1⟩, ⟨fun b h => ⟨a.sub b (.inl h), nU b h⟩, fun b h => ?_, fun b h => ?_, fun b o h n => ?_, a.there, fun j t h1 h2 => ?_, fun j t h1 h2 => ?_⟩, wsub⟩
  · rcases at_set h with ⟨rfl, e⟩ | ⟨n, h⟩
    · cases e
      refine ⟨_, hσ, ?_⟩
      cases x with
      | lk e1 u1 x1 => rcases hs with h | h <;> subst h
                       · exact .ol e1 (x1.less wsub)
                       · exact .br e1 (x1.less wsub)
    · obtain ⟨w, e, y⟩ := st.rep j t h
      refine ⟨w, e, y.less wsub fun q z1 z2 => ⟨y.lkLv z1 z2, fun z => n ?_⟩⟩
      subst z
      have tn : t.soft = false := by cases t <;> first | rfl | cases z1
      exact st.inj j i t _ _ h tn ht rfl e (by rw [hσ, z2])
  · obtain ⟨_, g1, g2⟩ := slot j t h1 q1
    obtain ⟨_, g3, g4⟩ := slot k u h2 q2
    exact st.inj j k _ _ w g1 g2 g3 g4 e1 e2
  · rcases own' b h with h | h
    · exact st.dis b h z.1
    · exact z.2 h
  · rcases a.new b h.1 with (z | z) | z | z
    · exact .inl z
    · exact (h.2 z).elim
    · exact .inr (.inl z)
    · exact .inr (.inr (ownl b z).1)
  · rcases own' b h with h | h
    · rcases a.grow b h with z | z
      · exact .inl (ownl b z).1
      · exact .inr z
    · subst h; exact .inl ⟨i, s, hi, ho, hv⟩
  · exact a.keep b o h fun z => n (ownl b z).1
  · by_cases n : i = j
    · subst n
      rw [hi] at h1; cases h1
      exact ⟨s, List.getElem?_set_self hlt', Sl.refl s, by rw [hσ, hv]⟩
    · obtain ⟨t', g1, g2, g3⟩ := a.pin j t (by rw [List.getElem?_set_ne n]; exact h1) h2
      exact ⟨t', by rw [List.getElem?_set_ne n]; exact g1, g2, g3⟩
  · rcases at_set h1 with ⟨rfl, e⟩ | ⟨n, h1⟩
    · cases e; rcases hs with h | h <;> (subst h; cases h2)
    · obtain ⟨g1, g2⟩ := a.lok j t h1 h2
      rw [List.getElem?_set_ne (fun z => n z.symm)] at g1
      exact ⟨g1, g2⟩
end
end GB

/-! what a loop walks; for -/
namespace GB
open PySem PySem.Spec PyProof.Rows L2

def lockO (o : Opd) (r : Rho) : Option (S × Rho × List (Nat × S)) := match o with
  | .val (.fz d) => some (.fz d, r, [])
  | .val (.ol ds) => some (.lk ds, r, [])
  | .val _ => none
  | .loc i => match r[i]? with
    | some (some (.fz d)) => some (.fz d, r, [])
    | some (some (.lk ds)) => some (.lk ds, r, [])
    | some (some (.ol ds)) => some (.lk ds, r.set i (some (.lk ds)), [(i, .ol ds)])
    | some (some (.br ds)) => some (.lk ds, r.set i (some (.lk ds)), [(i, .br ds)])
    | _ => none
def lockAll : List Opd → Rho → Option (List S × Rho × List (Nat × S))
  | [], r => some ([], r, [])
  | o :: os, r => match lockO o r with
    | some (s, r1, u1) => (match lockAll os r1 with | some (ss, r2, u2) => some (s :: ss, r2, u1 ++ u2) | none => none)
    | none => none
def unlR : List (Nat × S) → Rho → Rho
  | [], r => r
  | (i, s) :: u, r => (unlR u r).set i (some s)
def mapFl (f : Rho → Rho) : Fl → Fl
  | .nx r => .nx (f r) | .rt s r => .rt s (f r) | .bk r => .bk (f r) | .ct r => .ct (f r) | .ex c fs r => .ex c fs (f r) | .st => .st
section
variable {C : Ct} {U U' : Addr → Prop} {H H' : Hp} {σ σ' : St} {r r' : Rho}
/-- the way back from a locked state -/
def Back (C : Ct) (U : Addr → Prop) (H : Hp) (σ : St) (r : Rho) (U2 : Addr → Prop) (r2 : Rho) (u : List (Nat × S)) : Prop :=
  ∀ U' H' σ' r', Sit C U' H' σ' r' → Aft U2 H σ r2 U' H' σ' r' → ∃ U'', Sit C U'' H' σ' (unlR u r') ∧ Aft U H σ r U'' H' σ' (unlR u r') ∧ (∀ a, Wn U'' σ' (unlR u r') a → Wn U' σ' r' a) ∧ (∀ a, U' a → U'' a ∨ U2 a)
theorem Back.nil : Back C U H σ r U r [] := fun U' H' σ' r' s a => ⟨U', s, a, fun _ h => h, fun _ h => .inl h⟩
theorem lock1 {o : Opd} {v : V} {s : S} {r1 : Rho} {u : List (Nat × S)} (st : Sit C U H σ r) (k : OpOk C U H σ r o v) (h : lockO o r = some (s, r1, u)) :
    ∃ U1, Sit C U1 H σ r1 ∧ (∀ a, U a → U1 a) ∧ (∀ a, Wn U1 σ r1 a → Wn U σ r a) ∧ Per r r1 ∧ (∀ a, Own σ r1 a → Own σ r a) ∧ SR C.K U1 (Wn U1 σ r1) H v s ∧ s.own = false ∧ Back C U H σ r U1 r1 u := by
  have same : ∀ {s : S}, SR C.K U (Wn U σ r) H v s → s.own = false → r1 = r → u = [] → ∃ U1, Sit C U1 H σ r1 ∧ (∀ a, U a → U1 a) ∧ (∀ a, Wn U1 σ r1 a → Wn U σ r a) ∧ Per r r1 ∧ (∀ a, Own σ r1 a → Own σ r a) ∧ SR C.K U1 (Wn U1 σ r1) H v s ∧ s.own = false ∧ Back C U H σ r U1 r1 u := fun x n e1 e2 => by
    subst e1; subst e2
    exact ⟨U, st, fun _ h => h, fun _ h => h, Per.refl, fun _ h => h, x, n, Back.nil⟩
  cases o with
  | val t =>
    obtain ⟨x, hu, hh⟩ := k
    cases t with
    | fz d => cases h; exact same x rfl rfl rfl
    | ol ds => cases h; cases x with | ol e x => exact same (.lk e (hu _ rfl rfl) x) rfl rfl rfl
    | _ => cases h
  | loc i =>
    obtain ⟨hv, t, ht⟩ := k
    have lock : ∀ ds, (t = .ol ds ∨ t = .br ds) → s = .lk ds → r1 = r.set i (some (.lk ds)) → u = [(i, t)] → ∃ U1, Sit C U1 H σ r1 ∧ (∀ a, U a → U1 a) ∧ (∀ a, Wn U1 σ r1 a → Wn U σ r a) ∧ Per r r1 ∧ (∀ a, Own σ r1 a → Own σ r a) ∧ SR C.K U1 (Wn U1 σ r1) H v s ∧ s.own = false ∧ Back C U H σ r U1 r1 u := fun ds hs e1 e2 e3 => by
      have ho : t.own = true := by rcases hs with h | h <;> (subst h; rfl)
      obtain ⟨w, e, x⟩ := st.rep i t ht
      rw [hv] at e; cases e
      obtain ⟨p, e, l⟩ := x.ownLv ho
      subst e; subst e1; subst e2; subst e3
      obtain ⟨sl, own'⟩ := st.lock ht hs hv
      have hlt := lt_of_at ht
      obtain ⟨w, e, y⟩ := sl.rep i _ (List.getElem?_set_self hlt)
      rw [hv] at e; cases e
      refine ⟨_, sl, fun a h => .inl h, fun a h => ?_, fun j t' h => ?_, fun a h => (own' a h).1, y, rfl, fun U' H' σ' r' s' a' => ?_⟩
      · rcases h with h | h | h
        · exact .inl (own' a h).1
        · exact .inr h
        · subst h; exact .inl ⟨i, t, ht, ho, hv⟩
      · by_cases z : i = j
        · subst z; exact ⟨_, List.getElem?_set_self hlt⟩
        · exact ⟨t', by rw [List.getElem?_set_ne z]; exact h⟩
      · obtain ⟨s2, a2, w2⟩ := st.unlock ht hs hv s' a'
        refine ⟨_, s2, a2, w2, fun a h => ?_⟩
        by_cases z : a = p
        · exact .inr (.inr z)
        · exact .inl ⟨h, z⟩
    unfold lockO at h
    simp only [ht] at h
    cases t with
    | fz d =>
      cases h
      obtain ⟨w, e, x⟩ := st.rep i _ ht
      rw [hv] at e; cases e
      exact same x rfl rfl rfl
    | lk ds =>
      cases h
      obtain ⟨w, e, x⟩ := st.rep i _ ht
      rw [hv] at e; cases e
      exact same x rfl rfl rfl
    | ol ds => cases h; exact lock ds (.inl rfl) rfl rfl rfl
    | br ds => cases h; exact lock ds (.inr rfl) rfl rfl rfl
    | _ => cases h
theorem unlR_append (u1 u2 : List (Nat × S)) (r : Rho) : unlR (u1 ++ u2) r = unlR u1 (unlR u2 r) := by
  induction u1 with
  | nil => rfl
  | cons p u ih => obtain ⟨i, s⟩ := p; show (unlR (u ++ u2) r).set i (some s) = _; rw [ih]; rfl
theorem lock_all : ∀ {os : List Opd} {vs : List V} {ss : List S} {U : Addr → Prop} {r r2 : Rho} {u : List (Nat × S)}, Sit C U H σ r → OpsOk C U H σ r os vs → lockAll os r = some (ss, r2, u) →
    ∃ U2, Sit C U2 H σ r2 ∧ (∀ a, U a → U2 a) ∧ (∀ a, Wn U2 σ r2 a → Wn U σ r a) ∧ Per r r2 ∧ (∀ a, Own σ r2 a → Own σ r a) ∧ SRs C.K U2 (Wn U2 σ r2) H vs ss ∧ (∀ s ∈ ss, s.own = false) ∧ Back C U H σ r U2 r2 u := by
  intro os
  induction os with
  | nil =>
    intro vs ss U r r2 u st k h
    cases k
    cases h
    exact ⟨U, st, fun _ h => h, fun _ h => h, Per.refl, fun _ h => h, .nil, fun s h => by simp at h, Back.nil⟩
  | cons o os ih =>
    intro vs ss U r r2 u st k h
    cases k with
    | @cons _ v _ vs k1 k2 =>
      unfold lockAll at h
      cases e1 : lockO o r with
      | none => simp only [e1] at h; cases h
      | some q =>
        obtain ⟨s, r1, u1⟩ := q
        simp only [e1] at h
        cases e2 : lockAll os r1 with
        | none => simp only [e2] at h; cases h
        | some q =>
          obtain ⟨ss', r3, u2⟩ := q
          simp only [e2] at h
          cases h
          obtain ⟨U1, s1, b1, w1, p1, o1, x1, n1, k1'⟩ := lock1 st k1 e1
          have k2' : OpsOk C U1 H σ r1 os vs := Paired.mapP k2 fun o v q => by
            cases o with
            | loc i => exact ⟨q.1, let ⟨t, h⟩ := q.2; p1 i t h⟩
            | val t => exact ⟨q.1.less w1 fun p z1 z2 => b1 p (q.1.lkLv z1 z2), fun p z1 z2 => b1 p (q.2.1 p z1 z2), q.2.2⟩
          obtain ⟨U2, s2, b2, w2, p2, o2, x2, n2, kb⟩ := ih s1 k2' e2
          refine ⟨U2, s2, fun a h => b2 a (b1 a h), fun a h => w1 a (w2 a h), p1.trans p2, fun a h => o1 a (o2 a h), .cons (x1.less w2 fun p z1 z2 => b2 p (x1.lkLv z1 z2)) x2, fun t ht => ?_, fun U' H' σ' r' s' a' => ?_⟩
          · rcases List.mem_cons.mp ht with z | z
            · rw [z]; exact n1
            · exact n2 t z
          · obtain ⟨U3, s3, a3, w3, m3⟩ := kb U' H' σ' r' s' a'
            obtain ⟨U4, s4, a4, w4, m4⟩ := k1' U3 H' σ' _ s3 a3
            rw [unlR_append]
            refine ⟨U4, s4, a4, fun a h => w3 a (w4 a h), fun a h => ?_⟩
            rcases m3 a h with h | h
            · exact (m4 a h).elim .inl fun z => .inr (b2 a z)
            · exact .inr h
theorem RS.unlocked {U2 : Addr → Prop} {r2 : Rho} {u : List (Nat × S)} {D : Ends} {z : Fl} (s2 : Sit C U2 H σ r2) (ow : ∀ a, Own σ r2 a → Own σ r a) (b : Back C U H σ r U2 r2 u) (h : RS C U H σ r D (mapFl (unlR u) z)) : RS C U2 H σ r2 D z := by
  cases z with
  | nx r' => exact fun σ' H' U' s' a' => let ⟨U3, s3, a3, _⟩ := b U' H' σ' r' s' a'; h σ' H' U3 s3 a3
  | bk r' => exact fun σ' H' U' s' a' => let ⟨U3, s3, a3, _⟩ := b U' H' σ' r' s' a'; h σ' H' U3 s3 a3
  | ct r' => exact fun σ' H' U' s' a' => let ⟨U3, s3, a3, _⟩ := b U' H' σ' r' s' a'; h σ' H' U3 s3 a3
  | rt t r' =>
    intro v σ' H' U' s' a' k n
    obtain ⟨U3, s3, a3, w3, m3⟩ := b U' H' σ' r' s' a'
    refine h v σ' H' U3 s3 a3 ⟨k.1.less w3 (fun p z1 z2 => by have := k.2.2; rw [lkd_hard z1] at this; cases this), fun p z1 z2 => ?_, k.2.2⟩ fun p z1 z2 => (n p z1 z2).elim (fun q => .inl (ow p q)) .inr
    rcases m3 p (k.2.1 p z1 z2) with q | q
    · exact q
    · rcases n p z1 z2 with z | z
      · exact (s2.dis p z q).elim
      · exact ((s2.uok p q).ne z).elim
  | ex c fs r' =>
    intro cls d σ' H' U' s' a' x
    obtain ⟨U3, s3, a3, w3, m3⟩ := b U' H' σ' r' s' a'
    obtain ⟨e, dx, fv, e1, e2, e3, e4, e5⟩ := x
    exact h cls d σ' H' U3 s3 a3 ⟨e, dx, fv, e1, e2, e3, e4, e5.less w3⟩
  | st => exact h
end

/-! ### what is walked -/
def GItem (C : Ct) (J : It) (ds : List D) (vs : List V) (ss : List S) : Prop :=
  ∃ G Y, Walk J ds.length G Y ∧ (∀ U W H, SRs C.K U W H vs ss → G H) ∧
    ∀ (i : Nat) H x H' d U W, ds[i]? = some d → SRs C.K U W H vs ss → (∀ a, W a → Lv H a) → Y i H x H' → (∀ a o, H a = some o → H' a = some o) ∧ Rp C.K W H' x d
def IterOk (C : Ct) (w : List V → Hp → (It → Hp → Prop) → Prop) (mk : List S → Option (List D)) : Prop :=
  ∀ (vs : List V) (H : Hp) (ss : List S) (ds : List D) (U W : Addr → Prop) (R : It → Hp → Prop), SRs C.K U W H vs ss → (∀ s ∈ ss, s.own = false) → mk ss = some ds → (∀ J, GItem C J ds vs ss → R J H) → w vs H R
def GI (X : Cx) (C : Ct) (tg iter : Expr) (fa : Rho → Rs (List Opd)) (mk : List S → Option (List D)) : Prop :=
  ∃ w, IterOk C w mk ∧ PI X tg iter (fun σ H R => tA C fa σ H fun vs H1 => w vs H1 R)
def forL (fg : D → Rho → Option Rho) (f : Rho → Fl) : List D → Rho → Fl
  | [], r => .nx r
  | d :: ds, r => match fg d r with
    | none => .st
    | some r1 => (match f r1 with
      | .nx r2 => forL fg f ds r2
      | .ct r2 => forL fg f ds r2
      | .bk r2 => .nx r2
      | z => z)
def fFor (fa : Rho → Rs (List Opd)) (mk : List S → Option (List D)) (fg : D → Rho → Option Rho) (f : Rho → Fl) : Rho → Fl := fun r => ofR (fa r) fun os r1 => match lockAll os r1 with
  | some (ss, r2, u) => (match mk ss with | some ds => mapFl (unlR u) (forL fg f ds r2) | none => .st)
  | none => .st
theorem SRs.mono {K : PySem.W.Frag} {U W U' W' : Addr → Prop} {H H' : Hp} (m : Mono U W H U' W' H') : ∀ {vs : List V} {ss : List S}, SRs K U W H vs ss → (∀ s ∈ ss, s.own = false) → SRs K U' W' H' vs ss
  | _, _, .nil, _ => .nil
  | _, _, .cons x t, h => .cons (x.mono m fun a o z => by rw [h _ (List.mem_cons_self ..)] at z; cases z) (SRs.mono m t fun s hs => h s (List.mem_cons_of_mem _ hs))
section
variable {X : Cx} {C : Ct} {tg iter : Expr} {body : List Stmt} {f : Rho → Fl} {fg : D → Rho → Option Rho} {fa : Rho → Rs (List Opd)} {mk : List S → Option (List D)} {pos : Pos} {t : List Nat}
theorem tA_stmt {k : List Opd → Rho → Fl} {σ : St} {H : Hp} {Q : List V → Hp → Prop} {D : Ends} {U : Addr → Prop} {r : Rho} (s : Sit C U H σ r) (h : RS C U H σ r D (ofR (fa r) k))
    (hok : ∀ o r' v H' U', Sit C U' H' σ r' → Aft U H σ r U' H' σ r' → Per r r' → OpsOk C U' H' σ r' o v → NewS H o v → RS C U H σ r D (k o r') → Q v H') : tA C fa σ H Q := by
  refine ⟨U, r, s, ?_⟩
  cases e : fa r with
  | ok o r' => rw [e] at h; exact fun v H' U' s' a' p' k' n' => hok o r' v H' U' s' a' p' k' n' h
  | ex c fs r' => rw [e] at h; exact h
  | st => rw [e] at h; exact h
theorem gs_for (hp : PassesOwn (model X.prog X.w) X.A X.env X.xe) (hc : X.calm = true) (hi : GI X C tg iter fa mk) (hg : GG X C tg t fg) (hb : GSs X C body f)
    (hs : ∀ x, foldedSetIterable iter X.env x = pure x := by intro _; rfl) : GS X C (.For tg iter body [] pos) (fFor fa mk fg f) := by
  obtain ⟨w, hw, hi⟩ := hi
  refine weakS (ps_for hp hc hi hg hb hs) fun D σ H h => ?_
  obtain ⟨U, r, s, h⟩ := h
  refine tA_stmt (D := D) s h fun os r1 vs H1 U1 s1 a1 p1 k1 n1 q => ?_
  cases e1 : lockAll os r1 with
  | none => simp only [e1] at q; exact (show False from q).elim
  | some z =>
    obtain ⟨ss, r2, u⟩ := z
    simp only [e1] at q
    cases e2 : mk ss with
    | none => simp only [e2] at q; exact (show False from q).elim
    | some ds =>
      simp only [e2] at q
      obtain ⟨U2, s2, b2, w2, p2, o2, x2, nn, kb⟩ := lock_all s1 k1 e1
      have q2 : RS C U2 H1 σ r2 D (forL fg f ds r2) := RS.unlocked s2 o2 kb (RS.before q a1)
      refine hw vs H1 ss ds U2 _ _ x2 nn e2 fun J ⟨G, Y, wk, hG, hY⟩ => ?_
      refine for_it wk (fun i σ' H' => ∃ U' r', Sit C U' H' σ' r' ∧ Aft U2 H1 σ r2 U' H' σ' r' ∧ RS C U2 H1 σ r2 D (forL fg f (ds.drop i) r')) ⟨U2, r2, s2, Aft.refl, q2⟩ ?_ ?_ ?_
      · rintro i σ' H' _ ⟨U', r', s', a', _⟩
        exact hG U' _ H' (x2.mono (a'.mono s2) nn)
      · rintro i x σ' H' H'' hi ⟨U', r', s', a', q'⟩ y
        have hd : ds[i]? = some ds[i] := List.getElem?_eq_getElem hi
        obtain ⟨kp, xd⟩ := hY i H' x H'' ds[i] U' _ hd (x2.mono (a'.mono s2) nn) s'.wlv y
        obtain ⟨s3, a3⟩ := s'.ext (U' := U') kp (fun _ h => h) (fun _ h => .inl h) fun a h => (s'.uok a h).grow kp
        rw [List.drop_eq_getElem_cons hi] at q'
        refine ⟨U', r', ds[i], s3, xd, ?_⟩
        rw [forL] at q'
        cases e3 : fg ds[i] r' with
        | none => simp only [e3] at q'; exact (show False from q').elim
        | some r3 =>
          simp only [e3] at q'
          intro σ4 U4 s4 a4 _ _
          have a5 := (a'.trans a3).trans a4
          refine ⟨U4, r3, s4, ?_⟩
          cases e4 : f r3 with
          | nx r5 => simp only [e4] at q'; exact fun σ5 H5 U5 s5 a6 => ⟨U5, r5, s5, a5.trans a6, q'⟩
          | ct r5 => simp only [e4] at q'; exact fun σ5 H5 U5 s5 a6 => ⟨U5, r5, s5, a5.trans a6, q'⟩
          | bk r5 => simp only [e4] at q'; exact fun σ5 H5 U5 s5 a6 => q' σ5 H5 U5 s5 (a5.trans a6)
          | rt z r5 => simp only [e4] at q'; exact RS.before q' a5
          | ex c fs r5 => simp only [e4] at q'; exact XWant.before (show XWant C U2 H1 σ r2 c fs r5 from q') a5
          | st => simp only [e4] at q'; exact q'
      · rintro σ' H' ⟨U', r', s', a', q'⟩
        rw [List.drop_length] at q'
        exact q' σ' H' U' s' a'
end
end GB

/-! list comprehensions -/
namespace GB
open PySem PySem.Spec PyProof.Rows L2

def wipeR (r : Rho) : List Nat → Rho
  | [] => r
  | v :: vs => (wipeR r vs).set v none
def restR (r0 r : Rho) : List Nat → Rho
  | [] => r
  | v :: vs => (restR r0 r vs).set v (r0[v]?).join
/-- the block's own slots hold nothing that may be written -/
def softs (r : Rho) (vs : List Nat) : Bool := vs.all fun v => match r[v]? with
  | some none => true
  | some (some (.fz _)) => true
  | _ => false
def cmpL (fg : D → Rho → Option Rho) (ft : Rho → Rs Bool) (fe : Rho → Rs Opd) (vs : List Nat) : List D → Rho → List D → Rs (List D)
  | [], r, acc => .ok acc r
  | d :: ds, r, acc => match fg d r with
    | none => .st
    | some r1 => (match ft r1 with
      | .ok false r2 => cmpL fg ft fe vs ds (wipeR r2 vs) acc
      | .ok true r2 => (match fe r2 with
        | .ok o r3 => (match frz1 o r3 with
          | some (y, r4) => if acc.length < 16777216 then cmpL fg ft fe vs ds (wipeR r4 vs) (acc ++ [y]) else .st
          | none => .st)
        | _ => .st)
      | _ => .st)
def eLc (fa : Rho → Rs (List Opd)) (mk : List S → Option (List D)) (fg : D → Rho → Option Rho) (ft : Rho → Rs Bool) (fe : Rho → Rs Opd) (vs : List Nat) : Rho → Rs Opd := fun r => (fa r).bind fun os r1 => match lockAll os r1 with
  | some (ss, r2, u) => (match mk ss with
    | some ds => if softs r2 vs then
        (match cmpL fg ft fe vs ds (wipeR r2 vs) [] with | .ok acc r3 => .ok (.val (.ol acc)) (unlR u (restR r2 r3 vs)) | _ => .st)
        else .st
    | none => .st)
  | none => .st

section
variable {C : Ct} {U U' : Addr → Prop} {H H' : Hp} {σ σ' : St} {r r' : Rho}
theorem wipe_at {vs : List Nat} {j : Nat} : ∀ {σ : St}, j ∉ vs → (wipe σ vs)[j]? = σ[j]? := by
  induction vs with
  | nil => intro σ _; rfl
  | cons v vs ih =>
    intro σ h
    have h1 : v ≠ j := fun z => h (by simp [z])
    show ((wipe σ vs).set v none)[j]? = _
    rw [List.getElem?_set_ne h1]
    exact ih fun z => h (List.mem_cons_of_mem _ z)
theorem wipeR_at {vs : List Nat} {j : Nat} : ∀ {r : Rho}, j ∉ vs → (wipeR r vs)[j]? = r[j]? := by
  induction vs with
  | nil => intro σ _; rfl
  | cons v vs ih =>
    intro σ h
    have h1 : v ≠ j := fun z => h (by simp [z])
    show ((wipeR σ vs).set v none)[j]? = _
    rw [List.getElem?_set_ne h1]
    exact ih fun z => h (List.mem_cons_of_mem _ z)
theorem wipeR_len {vs : List Nat} {r : Rho} : (wipeR r vs).length = r.length := by
  induction vs with
  | nil => rfl
  | cons v vs ih => show ((wipeR r vs).set v none).length = _; rw [List.length_set, ih]
theorem wipeR_in {vs : List Nat} {j : Nat} {s : S} : ∀ {r : Rho}, (wipeR r vs)[j]? = some (some s) → j ∉ vs ∧ r[j]? = some (some s) := by
  induction vs with
  | nil => intro r h; exact ⟨by simp, h⟩
  | cons v vs ih =>
    intro r h
    rcases at_set (show ((wipeR r vs).set v none)[j]? = _ from h) with ⟨_, e⟩ | ⟨n, h⟩
    · cases e
    · obtain ⟨h1, h2⟩ := ih h
      exact ⟨fun z => (List.mem_cons.mp z).elim n h1, h2⟩
theorem restR_len {vs : List Nat} {r0 r : Rho} : (restR r0 r vs).length = r.length := by
  induction vs with
  | nil => rfl
  | cons v vs ih => show ((restR r0 r vs).set v _).length = _; rw [List.length_set, ih]
theorem restR_in {vs : List Nat} {j : Nat} {s : S} {r0 : Rho} : ∀ {r : Rho}, (restR r0 r vs)[j]? = some (some s) → (j ∈ vs ∧ r0[j]? = some (some s)) ∨ (j ∉ vs ∧ r[j]? = some (some s)) := by
  induction vs with
  | nil => intro r h; exact .inr ⟨by simp, h⟩
  | cons v vs ih =>
    intro r h
    rcases at_set (show ((restR r0 r vs).set v (r0[v]?).join)[j]? = _ from h) with ⟨rfl, e⟩ | ⟨n, h⟩
    · refine .inl ⟨by simp, ?_⟩
      cases q : r0[j]? with
      | none => rw [q] at e; cases e
      | some x => rw [q] at e; rw [e]; rfl
    · rcases ih h with ⟨h1, h2⟩ | ⟨h1, h2⟩
      · exact .inl ⟨List.mem_cons_of_mem _ h1, h2⟩
      · exact .inr ⟨fun z => (List.mem_cons.mp z).elim n h1, h2⟩
theorem restR_at {vs : List Nat} {j : Nat} {r0 : Rho} : ∀ {r : Rho}, j ∉ vs → (restR r0 r vs)[j]? = r[j]? := by
  induction vs with
  | nil => intro r _; rfl
  | cons v vs ih =>
    intro r h
    have h1 : v ≠ j := fun z => h (by simp [z])
    show ((restR r0 r vs).set v _)[j]? = _
    rw [List.getElem?_set_ne h1]
    exact ih fun z => h (List.mem_cons_of_mem _ z)
theorem restR_self {vs : List Nat} {j : Nat} {r0 : Rho} : ∀ {r : Rho}, j ∈ vs → j < r.length → (restR r0 r vs)[j]? = some (r0[j]?).join := by
  induction vs with
  | nil => intro r h; simp at h
  | cons v vs ih =>
    intro r h hl
    show ((restR r0 r vs).set v _)[j]? = _
    by_cases z : v = j
    · subst z; rw [List.getElem?_set_self (by rw [restR_len]; exact hl)]
    · rw [List.getElem?_set_ne z]
      exact ih ((List.mem_cons.mp h).resolve_left fun q => z q.symm) hl
theorem wipe_len' {vs : List Nat} {σ : St} : (wipe σ vs).length = σ.length := wipe_length σ vs
/-- the block's own slots are emptied -/
theorem Sit.wiped {vs : List Nat} (s : Sit C U H σ r) : Sit C U H (wipe σ vs) (wipeR r vs) ∧ (∀ a, Own (wipe σ vs) (wipeR r vs) a → Own σ r a) := by
  have own' : ∀ a, Own (wipe σ vs) (wipeR r vs) a → Own σ r a := fun a ⟨j, t, h1, h2, h3⟩ => by
    obtain ⟨n, h1⟩ := wipeR_in h1
    rw [wipe_at n] at h3
    exact ⟨j, t, h1, h2, h3⟩
  have wsub : ∀ a, Wn U (wipe σ vs) (wipeR r vs) a → Wn U σ r a := fun a h => h.elim (fun z => .inl (own' a z)) .inr
  refine ⟨⟨by rw [wipe_len', wipeR_len]; exact s.len, fun j t h => ?_, fun i j t u v h1 q1 h2 q2 e1 e2 => ?_, fun a h => s.dis a (own' a h), s.uok⟩, own'⟩
  · obtain ⟨n, h⟩ := wipeR_in h
    obtain ⟨v, e, x⟩ := s.rep j t h
    exact ⟨v, by rw [wipe_at n]; exact e, x.less wsub fun p z1 z2 => x.lkLv z1 z2⟩
  · obtain ⟨n1, h1⟩ := wipeR_in h1
    obtain ⟨n2, h2⟩ := wipeR_in h2
    rw [wipe_at n1] at e1
    rw [wipe_at n2] at e2
    exact s.inj i j t u v h1 q1 h2 q2 e1 e2
theorem softs_at {vs : List Nat} (h : softs r vs = true) {j : Nat} (hj : j ∈ vs) {s : S} (e : r[j]? = some (some s)) : ∃ d, s = .fz d := by
  have := List.all_eq_true.mp h j hj
  rw [e] at this
  cases s with
  | fz d => exact ⟨d, rfl⟩
  | _ => cases this
/-- into the block -/
theorem Aft.wiped0 {vs : List Nat} (h : softs r vs = true) : Aft U H σ r U H (wipe σ vs) (wipeR r vs) := by
  refine ⟨fun _ h => h, fun _ h => .inl h, fun a ⟨j, t, h1, h2, h3⟩ => ?_, fun a o h _ => h, fun a o h => ⟨o, h⟩, fun i s h1 h2 => ?_, fun i s h1 h2 => ?_⟩
  · obtain ⟨n, h1⟩ := wipeR_in h1
    rw [wipe_at n] at h3
    exact .inl ⟨j, t, h1, h2, h3⟩
  · have n : i ∉ vs := fun z => by
      obtain ⟨d, rfl⟩ := softs_at h z h1
      cases h2
    exact ⟨s, by rw [wipeR_at n]; exact h1, Sl.refl s, wipe_at n⟩
  · obtain ⟨n, h1⟩ := wipeR_in h1
    exact ⟨h1, wipe_at n⟩
/-- a turn's end -/
theorem Aft.wiped {vs : List Nat} (h : softs r vs = true) (a : Aft U H σ r U' H' σ' r') : Aft U H σ r U' H' (wipe σ' vs) (wipeR r' vs) := by
  refine ⟨a.sub, a.new, fun b ⟨j, t, h1, h2, h3⟩ => ?_, a.keep, a.there, fun i s h1 h2 => ?_, fun i s h1 h2 => ?_⟩
  · obtain ⟨n, h1⟩ := wipeR_in h1
    rw [wipe_at n] at h3
    exact a.grow b ⟨j, t, h1, h2, h3⟩
  · have n : i ∉ vs := fun z => by
      obtain ⟨d, rfl⟩ := softs_at h z h1
      cases h2
    obtain ⟨s', g1, g2, g3⟩ := a.pin i s h1 h2
    exact ⟨s', by rw [wipeR_at n]; exact g1, g2, by rw [wipe_at n]; exact g3⟩
  · obtain ⟨n, h1⟩ := wipeR_in h1
    obtain ⟨g1, g2⟩ := a.lok i s h1 h2
    exact ⟨g1, by rw [wipe_at n]; exact g2⟩
/-- out of the block: what its slots held ahead of it -/
theorem Sit.rested {vs : List Nat} (s0 : Sit C U H σ r) (h : softs r vs = true) (s : Sit C U' H' (wipe σ vs) r') (a : Aft U H σ r U' H' (wipe σ vs) r') (hw : ∀ j ∈ vs, ∀ t, r'[j]? ≠ some (some t)) (hp : Per (wipeR r vs) r') :
    Sit C U' H' σ (restR r r' vs) ∧ Aft U H σ r U' H' σ (restR r r' vs) ∧ Per r (restR r r' vs) ∧ (∀ b, Wn U' σ (restR r r' vs) b → Wn U' (wipe σ vs) r' b) := by
  have own' : ∀ b, Own σ (restR r r' vs) b → Own (wipe σ vs) r' b := fun b ⟨j, t, h1, h2, h3⟩ => by
    rcases restR_in h1 with ⟨m, h1⟩ | ⟨n, h1⟩
    · obtain ⟨d, rfl⟩ := softs_at h m h1
      cases h2
    · exact ⟨j, t, h1, h2, by rw [wipe_at n]; exact h3⟩
  have wsub : ∀ b, Wn U' σ (restR r r' vs) b → Wn U' (wipe σ vs) r' b := fun b z => z.elim (fun z => .inl (own' b z)) .inr
  have hl : σ.length = r'.length := by rw [← s.len, wipe_len']
  refine ⟨⟨by rw [restR_len]; exact hl, fun j t h1 => ?_, fun i j t u v h1 q1 h2 q2 e1 e2 => ?_, fun b z => s.dis b (own' b z), s.uok⟩, ⟨a.sub, a.new, fun b z => a.grow b (own' b z), a.keep, a.there, fun i t h1 h2 => ?_, fun i t h1 h2 => ?_⟩, fun j t h1 => ?_, wsub⟩
  · rcases restR_in h1 with ⟨m, h1⟩ | ⟨n, h1⟩
    · obtain ⟨v, e, x⟩ := s0.rep j t h1
      obtain ⟨d, rfl⟩ := softs_at h m h1
      exact ⟨v, e, (x.mono (a.mono s0) fun _ _ z => by cases z).less wsub fun p z => by cases z⟩
    · obtain ⟨v, e, x⟩ := s.rep j t h1
      rw [wipe_at n] at e
      exact ⟨v, e, x.less wsub fun p z1 z2 => x.lkLv z1 z2⟩
  · rcases restR_in h1 with ⟨m, h1⟩ | ⟨n1, h1⟩
    · obtain ⟨d, rfl⟩ := softs_at h m h1; cases q1
    rcases restR_in h2 with ⟨m, h2⟩ | ⟨n2, h2⟩
    · obtain ⟨d, rfl⟩ := softs_at h m h2; cases q2
    exact s.inj i j t u v h1 q1 h2 q2 (by rw [wipe_at n1]; exact e1) (by rw [wipe_at n2]; exact e2)
  · have n : i ∉ vs := fun z => by
      obtain ⟨d, rfl⟩ := softs_at h z h1
      cases h2
    obtain ⟨s', g1, g2, g3⟩ := a.pin i t h1 h2
    exact ⟨s', by rw [restR_at n]; exact g1, g2, rfl⟩
  · rcases restR_in h1 with ⟨m, h1⟩ | ⟨n, h1⟩
    · obtain ⟨d, rfl⟩ := softs_at h m h1; cases h2
    · obtain ⟨g1, g2⟩ := a.lok i t h1 h2
      exact ⟨g1, rfl⟩
  · by_cases m : j ∈ vs
    · exact ⟨t, by rw [restR_self m (by rw [← hl, s0.len]; exact lt_of_at h1), h1]; rfl⟩
    · obtain ⟨t', q⟩ := hp j t (by rw [wipeR_at m]; exact h1)
      exact ⟨t', by rw [restR_at m]; exact q⟩
/-- an object of the others' is written: nobody sees it -/
theorem Sit.poke {p : Addr} {o : HO} (s0 : Sit C U H σ r) (s : Sit C U' H' σ' r') (a : Aft U H σ r U' H' σ' r') (hp : H p = none) (up : U' p) (ho : ∃ xs, o = .lst xs) :
    Sit C U' (upd H' p o) σ' r' ∧ Aft U H σ r U' (upd H' p o) σ' r' ∧ (∀ {vs : List V} {ds : List D}, Rps C.K (Wn U' σ' r') H' vs ds → Rps C.K (Wn U' σ' r') (upd H' p o) vs ds) := by
  obtain ⟨xs, rfl⟩ := ho
  have m : Mono (fun _ => False) (Wn U' σ' r') H' (fun _ => False) (Wn U' σ' r') (upd H' p (.lst xs)) :=
    ⟨s.wlv, fun b o n h => by rw [upd_ne (fun z => n (by rw [z]; exact .inr up))]; exact h, fun b o n _ => n, fun _ _ z => z.elim, fun _ z => z.elim⟩
  have keep : ∀ b o, b ≠ p → H' b = some o → upd H' p (.lst xs) b = some o := fun b o n h => by rw [upd_ne n]; exact h
  refine ⟨⟨s.len, fun j t h => ?_, s.inj, s.dis, fun b h => ?_⟩, ⟨a.sub, a.new, a.grow, fun b o h n => keep b o (fun z => by rw [z, hp] at h; cases h) (a.keep b o h n), fun b o h => ?_, a.pin, a.lok⟩, fun x => x.mono m⟩
  · obtain ⟨v, e, x⟩ := s.rep j t h
    refine ⟨v, e, ?_⟩
    have own : ∀ b, t.own = true → v = .ref b → b ≠ p := fun b z1 z2 z => by subst z; exact s.dis b ⟨j, t, h, z1, by rw [e, z2]⟩ up
    have lk : ∀ b, t.lkd = true → v = .ref b → b ≠ p := fun b z1 z2 z => by
      subst z
      obtain ⟨g1, g2⟩ := a.lok j t h z1
      obtain ⟨w, e', y⟩ := s0.rep j t g1
      rw [← g2, e] at e'; cases e'
      exact (s0.uok b (y.lkLv z1 z2)).ne hp
    cases x with
    | fz x => exact .fz (x.mono m)
    | ol e1 x => exact .ol (keep _ _ (own _ rfl rfl) e1) (x.mono m)
    | br e1 x => exact .br (keep _ _ (own _ rfl rfl) e1) (x.mono m)
    | lk e1 u x => exact .lk (keep _ _ (lk _ rfl rfl) e1) u (x.mono m)
    | od e1 x => exact .od (keep _ _ (own _ rfl rfl) e1) (x.mono m)
    | bd e1 x => exact .bd (keep _ _ (own _ rfl rfl) e1) (x.mono m)
    | kd e1 u x => exact .kd (keep _ _ (lk _ rfl rfl) e1) u (x.mono m)
    | exc e1 x => exact .exc (keep _ _ (fun z => by subst z; exact (s.uok _ up).xd e1) e1) (x.mono m)
  · by_cases z : b = p
    · subst z; exact .inl ⟨xs, upd_same⟩
    · rcases s.uok b h with ⟨y, l⟩ | ⟨y, l⟩
      · exact .inl ⟨y, keep _ _ z l⟩
      · exact .inr ⟨y, keep _ _ z l⟩
  · by_cases z : b = p
    · subst z; exact ⟨_, upd_same⟩
    · obtain ⟨o', h'⟩ := a.there b o h
      exact ⟨o', keep _ _ z h'⟩
theorem Sit.cast {C' : Ct} (h : C.K = C'.K) (s : Sit C U H σ r) : Sit C' U H σ r := ⟨s.len, fun i t e => by rw [← h]; exact s.rep i t e, s.inj, s.dis, s.uok⟩
end
end GB

/-! list comprehensions, the rule -/
namespace GB
open PySem PySem.Spec PyProof.Rows L2
/-- within a comprehension nothing is raised -/
def Ct.quiet (C : Ct) : Ct := { C with W := fun _ _ _ _ => False }
abbrev GTs (X : Cx) (C : Ct) (ifs : List Expr) (f : Rho → Rs Bool) : Prop := PTs X ifs (tT C f)
def eYes : Rho → Rs Bool := fun r => .ok true r
section
variable {X : Cx} {C : Ct} {e : Expr}
theorem weakTs {ifs : List Expr} {t t' : TT} (h : PTs X ifs t) (k : ∀ σ H Q, t' σ H Q → t σ H Q) : PTs X ifs t' := ⟨fun pins s σ H Q I q => h.run pins s σ H Q I (k σ H Q q)⟩
theorem gts_nil : GTs X C [] eYes := weakTs pts_nil fun σ H Q ⟨U, r, s, h⟩ => h H U s Aft.refl Per.refl
theorem gts_one {c : Expr} {f : Rho → Rs Bool} (h : GT X C c f) : GTs X C [c] f := pts_one h

theorem lc_reading {fa : Rho → Rs (List Opd)} {mk : List S → Option (List D)} {fg : D → Rho → Option Rho} {ft : Rho → Rs Bool} {fe : Rho → Rs Opd} {vs tg : List Nat} {w : List V → Hp → (It → Hp → Prop) → Prop} (hw : IterOk C w mk) (ht : ∀ j ∈ tg, j ∈ vs)
    {σ : St} {H : Hp} {Q : VK} (h : tE C (eLc fa mk fg ft fe vs) σ H Q) :
    tLc (fun σ H R => tA C fa σ H fun vs H1 => w vs H1 R) (tG C.quiet tg fg) (tT C.quiet ft) (tE C.quiet fe) vs σ H Q := by
  obtain ⟨U, r, s, h⟩ := h
  refine tA_then (R := RE C U H σ r Q) s h id (fun _ _ _ z => z) ?_
  intro os r1 zs H1 U1 s1 a1 p1 k1 n1 h1
  cases e1 : lockAll os r1 with
  | none => simp only [e1] at h1; exact (show False from h1).elim
  | some z =>
  obtain ⟨ss, r2, u⟩ := z
  simp only [e1] at h1
  cases e2 : mk ss with
  | none => simp only [e2] at h1; exact (show False from h1).elim
  | some ds =>
  simp only [e2] at h1
  by_cases hsf : softs r2 vs = true
  case neg => rw [if_neg hsf] at h1; exact (show False from h1).elim
  rw [if_pos hsf] at h1
  cases e3 : cmpL fg ft fe vs ds (wipeR r2 vs) [] with
  | st => simp only [e3] at h1; exact (show False from h1).elim
  | ex c fs r' => simp only [e3] at h1; exact (show False from h1).elim
  | ok acc rF =>
  simp only [e3] at h1
  obtain ⟨U2, s2, b2, w2, p2, o2, x2, nn, kb⟩ := lock_all s1 k1 e1
  refine hw zs H1 ss ds U2 _ _ x2 nn e2 fun J ⟨G, Y, wk, hG, hY⟩ => ?_
  intro D hD
  -- a turn's state
  let Pv : Nat → Hp → Prop := fun i H' => ∃ U' r' acc' xs, Sit C U' H' (wipe σ vs) r' ∧ Aft U2 H1 σ r2 U' H' (wipe σ vs) r' ∧ Per (wipeR r2 vs) r' ∧ (∀ j ∈ vs, ∀ t, r'[j]? ≠ some (some t)) ∧
    U' D ∧ H' D = some (.lst xs) ∧ Rps C.K (Wn U' (wipe σ vs) r') H' xs acc' ∧ cmpL fg ft fe vs (ds.drop i) r' acc' = .ok acc rF
  refine lc_it wk Pv ?_ ?_ ?_ ?_
  · obtain ⟨sw, _⟩ := s2.wiped (vs := vs)
    obtain ⟨s3, a3⟩ := own_set hD sw (upd_keep hD) (.inl ⟨[], upd_same⟩)
    refine ⟨_, _, [], [], s3, (Aft.wiped0 hsf).trans a3, Per.refl, fun j hj t z => (wipeR_in z).1 hj, .inr rfl, upd_same, .nil, e3⟩
  · rintro i H' _ ⟨U', r', acc', xs, s', a', _⟩
    exact hG U' _ H' (x2.mono (a'.mono s2) nn)
  · rintro i x H' H'' hi ⟨U', r', acc', xs, s', a', pe', hw', uD, eD, xD, ec⟩ y
    have hd : ds[i]? = some ds[i] := List.getElem?_eq_getElem hi
    obtain ⟨kp, xd⟩ := hY i H' x H'' ds[i] U' _ hd (x2.mono (a'.mono s2) nn) s'.wlv y
    obtain ⟨s3, a3⟩ := s'.ext (U' := U') kp (fun _ h => h) (fun _ h => .inl h) fun a h => (s'.uok a h).grow kp
    rw [List.drop_eq_getElem_cons hi, cmpL] at ec
    refine ⟨U', r', ds[i], (Sit.cast (C := C) (C' := C.quiet) rfl s3), xd, ?_⟩
    cases e4 : fg ds[i] r' with
    | none => simp only [e4] at ec; cases ec
    | some r3 =>
    simp only [e4] at ec
    intro σ4 U4 s4 a4 ⟨p4, l4⟩ o4
    have weq : wipe σ4 vs = wipe σ vs := by
      apply List.ext_getElem?
      intro j
      by_cases hj : j ∈ vs
      · have : ∀ σ : St, j < σ.length → (wipe σ vs)[j]? = some none := fun σ hl => by
          have key : ∀ (us : List Nat), j ∈ us → (wipe σ us)[j]? = some none := by
            intro us
            induction us with
            | nil => intro h; simp at h
            | cons v us ih =>
              intro h
              show ((wipe σ us).set v none)[j]? = _
              by_cases z : v = j
              · subst z; rw [List.getElem?_set_self (by rw [wipe_len']; exact hl)]
              · rw [List.getElem?_set_ne z]; exact ih ((List.mem_cons.mp h).resolve_left fun q => z q.symm)
          exact key vs hj
        by_cases hl : j < σ.length
        · rw [this σ hl, this σ4 (by rw [l4, wipe_len']; exact hl)]
        · rw [List.getElem?_eq_none (by rw [wipe_len', l4, wipe_len']; omega), List.getElem?_eq_none (by rw [wipe_len']; omega)]
      · rw [wipe_at hj, o4 j fun z => hj (ht j z)]
    refine ⟨weq, U4, r3, s4, ?_⟩
    have a5 : Aft U2 H1 σ r2 U4 H'' σ4 r3 := (a'.trans a3).trans a4
    have uD4 : U4 D := a4.sub D uD
    have xD4 : Rps C.K (Wn U4 σ4 r3) H'' xs acc' := (xD.mono (a3.mono s')).mono (a4.mono (Sit.cast (C := C) (C' := C.quiet) rfl s3))
    have turn : ∀ {r5 : Rho} {H5 : Hp} {U5 : Addr → Prop} {acc5 : List GB.D} {xs5 : List V}, Sit C U5 H5 σ4 r5 → Aft U2 H1 σ r2 U5 H5 σ4 r5 → Per r3 r5 → U5 D → H5 D = some (.lst xs5) → Rps C.K (Wn U5 σ4 r5) H5 xs5 acc5 →
        cmpL fg ft fe vs (ds.drop (i + 1)) (wipeR r5 vs) acc5 = .ok acc rF → Pv (i + 1) H5 := fun {r5 H5 U5 acc5 xs5} s5 a5 p5 u5 e5 x5 c5 => by
      obtain ⟨sw, ow⟩ := s5.wiped (vs := vs)
      have aw := Aft.wiped hsf a5
      have wsub : ∀ a, Wn U5 (wipe σ4 vs) (wipeR r5 vs) a → Wn U5 σ4 r5 a := fun a z => z.elim (fun z => .inl (ow a z)) .inr
      rw [weq] at sw aw wsub
      refine ⟨U5, _, acc5, xs5, sw, aw, fun j t hj => ?_, fun j hj t z => (wipeR_in z).1 hj, u5, e5, x5.less wsub, c5⟩
      obtain ⟨n, _⟩ := wipeR_in hj
      obtain ⟨t', q⟩ := pe' j t hj
      obtain ⟨t', q⟩ := p4 j t' q
      obtain ⟨t', q⟩ := p5 j t' q
      exact ⟨t', by rw [wipeR_at n]; exact q⟩
    cases e5 : ft r3 with
    | st => simp only [e5] at ec; cases ec
    | ex c fs r' => simp only [e5] at ec; cases ec
    | ok b r5 =>
    simp only [e5] at ec
    intro H6 U6 s6 a6 p6
    have s6' : Sit C U6 H6 σ4 r5 := Sit.cast (C := C.quiet) (C' := C) rfl s6
    have s4' : Sit C U4 H'' σ4 r3 := Sit.cast (C := C.quiet) (C' := C) rfl s4
    have kD : ∀ {U7 : Addr → Prop} {H7 : Hp} {σ7 : St} {r7 : Rho} {xs : List V}, H'' D = some (.lst xs) → Aft U4 H'' σ4 r3 U7 H7 σ7 r7 → H7 D = some (.lst xs) := fun h a => a.keep D _ h fun z => s4.dis D z uD4
    have eD'' : H'' D = some (.lst xs) := kp D _ eD
    cases b with
    | false =>
      simp only [] at ec
      rw [if_neg Bool.false_ne_true]
      exact turn s6' (a5.trans a6) p6 (a6.sub D uD4) (kD eD'' a6) (xD4.mono (a6.mono s4')) ec
    | true =>
      simp only [] at ec
      rw [if_pos rfl]
      refine ⟨U6, r5, s6, ?_⟩
      cases e6 : fe r5 with
      | st => simp only [e6] at ec; cases ec
      | ex c fs r' => simp only [e6] at ec; cases ec
      | ok o r6 =>
      simp only [e6] at ec
      intro yv H7 U7 s7 a7 p7 k7 n7
      have s7' : Sit C U7 H7 σ4 r6 := Sit.cast (C := C.quiet) (C' := C) rfl s7
      have k7' : OpOk C U7 H7 σ4 r6 o yv := k7
      obtain ⟨U8, s8, a8, u8, k8⟩ := op1_drop s6' s7' a7 k7' n7
      cases e7 : frz1 o r6 with
      | none => simp only [e7] at ec; cases ec
      | some z =>
      obtain ⟨y, r8⟩ := z
      simp only [e7] at ec
      by_cases hz : acc'.length < 16777216
      case neg => rw [if_neg hz] at ec; cases ec
      rw [if_pos hz] at ec
      obtain ⟨s9, a9, p9, x9⟩ := frz1_ok s8 k8 e7
      have a10 : Aft U4 H'' σ4 r3 U8 H7 σ4 r8 := (a6.trans a8).trans a9
      have uD8 : U8 D := a10.sub D uD4
      have eD7 : H7 D = some (.lst xs) := kD eD'' a10
      have xD9 : Rps C.K (Wn U8 σ4 r8) H7 xs acc' := xD4.mono (a10.mono s4')
      refine ⟨xs, eD7, by rw [sizeLine_eq, xD9.len]; exact hz, ?_⟩
      obtain ⟨s11, a11, carry⟩ := s2.poke s9 (a5.trans a10) hD uD8 ⟨xs ++ [yv], rfl⟩
      have app : ∀ {xs : List V} {ds : List GB.D}, Rps C.K (Wn U8 σ4 r8) H7 xs ds → Rps C.K (Wn U8 σ4 r8) H7 (xs ++ [yv]) (ds ++ [y]) := by
        intro xs ds q
        induction xs generalizing ds with
        | nil => cases q; exact .cons x9 .nil
        | cons a xs ih => cases q with | cons q1 q2 => exact .cons q1 (ih q2)
      exact turn s11 a11 ((p6.trans p7).trans p9) uD8 upd_same (carry (app xD9)) ec
  · rintro H' ⟨U', r', acc', xs, s', a', pe', hw', uD, eD, xD, ec⟩
    rw [List.drop_length, cmpL] at ec
    cases ec
    obtain ⟨s3, a3, p3, w3⟩ := s2.rested hsf s' a' hw' pe'
    obtain ⟨U4, s4, a4, w4, m4⟩ := kb U' H' σ _ s3 a3
    have nD : ¬ U2 D := fun z => (s2.uok D z).ne hD
    refine h1 (.ref D) H' U4 s4 (a1.trans a4) ?_ ⟨.ol eD ((xD.less w3).less w4), fun p _ z => ?_, rfl⟩ fun t p z1 z2 z3 => ?_
    · intro j t hj
      obtain ⟨t', q⟩ := p1 j t hj
      obtain ⟨t', q⟩ := p2 j t' q
      obtain ⟨t', q⟩ := p3 j t' q
      have key : ∀ (u : List (Nat × S)) (r : Rho) (t : S), r[j]? = some (some t) → ∃ t', (unlR u r)[j]? = some (some t') := by
        intro u
        induction u with
        | nil => exact fun r t h => ⟨t, h⟩
        | cons q u ih =>
          intro r t h
          obtain ⟨k, s⟩ := q
          obtain ⟨t', h'⟩ := ih r t h
          show ∃ t', ((unlR u r).set k (some s))[j]? = some (some t')
          by_cases z : k = j
          · subst z; exact ⟨s, List.getElem?_set_self (lt_of_at h')⟩
          · exact ⟨t', by rw [List.getElem?_set_ne z]; exact h'⟩
      exact key u _ t' q
    · cases z
      exact (m4 D uD).resolve_right nD
    · cases z3; exact a1.back hD
theorem ge_lc {elt tgt iter : Expr} {ifs : List Expr} {scope : Scope} {own : List (Str × Nat)} {pos : Pos} {fa : Rho → Rs (List Opd)} {mk : List S → Option (List D)} {fg : D → Rho → Option Rho} {ft : Rho → Rs Bool} {fe : Rho → Rs Opd} {tg : List Nat} (hc : X.calm = true) (hN : X.N.Nodup) (hi : GI X C tgt iter fa mk) (ok : BlkOk X.N X.env.scope scope own)
    (ht : ∀ j ∈ tg, j ∈ own.map (·.2))
    (hg : ∀ (s : Shared) (H : Hp) (c : Addr) (cl : List (Str × Addr)) (fp : List Addr), GG (X.blk s H scope (compEnvC scope cl c X.env) fp) C.quiet tgt tg fg) (hft : ∀ (s : Shared) (H : Hp) (c : Addr) (cl : List (Str × Addr)) (fp : List Addr), GTs (X.blk s H scope (compEnvC scope cl c X.env) fp) C.quiet ifs ft)
    (he : ∀ (s : Shared) (H : Hp) (c : Addr) (cl : List (Str × Addr)) (fp : List Addr), GE (X.blk s H scope (compEnvC scope cl c X.env) fp) C.quiet elt fe) (hs : ∀ x, foldedSetIterable iter X.env x = pure x := by intro _; rfl) :
    GE X C (.ListComp elt [⟨tgt, iter, ifs, 0⟩] scope pos) (eLc fa mk fg ft fe (own.map (·.2))) := by
  obtain ⟨w, hw, hi⟩ := hi
  exact weakE (pe_lc hc hN hi ok hg hft he hs) fun σ H Q h => lc_reading hw ht h
theorem gs_setLc {i : Nat} {y : Str} {py : Pos} {elt tgt iter : Expr} {ifs : List Expr} {scope : Scope} {own : List (Str × Nat)} {pos spos : Pos} {fa : Rho → Rs (List Opd)} {mk : List S → Option (List D)} {fg : D → Rho → Option Rho} {ft : Rho → Rs Bool} {fe : Rho → Rs Opd} {tg : List Nat} (hc : X.calm = true) (hN : X.N.Nodup)
    (hy : X.N[i]? = some y) (hyl : X.env.scope.names.lookup y = some .local) (hsw : swapsWith (.ListComp elt [⟨tgt, iter, ifs, 0⟩] scope pos) (some (.Name y py)) spos.line X.env = pure true) (hi : GI X C tgt iter fa mk) (ok : BlkOk X.N X.env.scope scope own)
    (ht : ∀ j ∈ tg, j ∈ own.map (·.2))
    (hg : ∀ (s : Shared) (H : Hp) (c : Addr) (cl : List (Str × Addr)) (fp : List Addr), GG (X.blk s H scope (compEnvC scope cl c X.env) fp) C.quiet tgt tg fg) (hft : ∀ (s : Shared) (H : Hp) (c : Addr) (cl : List (Str × Addr)) (fp : List Addr), GTs (X.blk s H scope (compEnvC scope cl c X.env) fp) C.quiet ifs ft)
    (he : ∀ (s : Shared) (H : Hp) (c : Addr) (cl : List (Str × Addr)) (fp : List Addr), GE (X.blk s H scope (compEnvC scope cl c X.env) fp) C.quiet elt fe) (hs : ∀ x, foldedSetIterable iter X.env x = pure x := by intro _; rfl) :
    GS X C (.Assign [.Name y py] (.ListComp elt [⟨tgt, iter, ifs, 0⟩] scope pos) spos) (fSet i (eLc fa mk fg ft fe (own.map (·.2)))) := by
  obtain ⟨w, hw, hi⟩ := hi
  refine weakS (ps_setLc hc hN hy hyl hsw hi ok hg hft he hs) fun D σ H h => ?_
  obtain ⟨U, r, s, h⟩ := h
  exact lc_reading hw ht (tE_stmt (k := putS i) s h fun o r' v H' U' s' a' p' k' n' q => put_ok s s' a' k' n' q)
end
end GB

/-! if-expressions, and, or, chains, methods, stores into own things -/
namespace GB
open PySem PySem.Spec PyProof.Rows L2
section
variable {X : Cx} {C : Ct} {a b c e : Expr} {es : List Expr} {fa fb fc fe fo : Rho → Rs Opd} {ft gt : Rho → Rs Bool} {pos : Pos}
/-- the first of two that goes -/
def eAlt (f g : Rho → Rs Opd) : Rho → Rs Opd := fun r => match f r with
  | .st => g r
  | z => z
theorem ge_alt {f g : Rho → Rs Opd} (h : GE X C e f) (h' : GE X C e g) : GE X C e (eAlt f g) := by
  refine weakE (orE h h') fun σ H Q q => ?_
  obtain ⟨U, r, s, q⟩ := q
  unfold eAlt at q
  cases e1 : f r with
  | st => rw [e1] at q; exact .inr ⟨U, r, s, q⟩
  | ok o r' => rw [e1] at q; exact .inl ⟨U, r, s, by rw [e1]; exact q⟩
  | ex c fs r' => rw [e1] at q; exact .inl ⟨U, r, s, by rw [e1]; exact q⟩
def eIf (ft : Rho → Rs Bool) (fa fb : Rho → Rs Opd) : Rho → Rs Opd := fun r => (ft r).bind fun b r1 => if b then fa r1 else fb r1
theorem ge_if (hc : GT X C c ft) (ha : GE X C a fa) (hb : GE X C b fb) : GE X C (.IfExp c a b pos) (eIf ft fa fb) := by
  refine weakE (pe_ifExp hc ha hb) fun σ H Q h => ?_
  obtain ⟨U, r, s, h⟩ := h
  refine tT_then (R := RE C U H σ r Q) s h id (fun _ _ _ z => z) fun b r1 H1 U1 s1 a1 p1 h1 => ?_
  cases b with
  | true => exact ⟨U1, r1, s1, RE.before h1 a1 p1⟩
  | false => exact ⟨U1, r1, s1, RE.before h1 a1 p1⟩
def blOf (o : Opd) (r : Rho) : Option Bool := match res r o with
  | some (.fz (.bl b)) => some b
  | _ => none
def eAnd (fa fb : Rho → Rs Opd) : Rho → Rs Opd := fun r => (fa r).bind fun o r1 => match blOf o r1 with
  | some true => fb r1
  | some false => .ok (.val (.fz (.bl false))) r1
  | none => .st
def eOr (fa fb : Rho → Rs Opd) : Rho → Rs Opd := fun r => (fa r).bind fun o r1 => match blOf o r1 with
  | some true => .ok (.val (.fz (.bl true))) r1
  | some false => fb r1
  | none => .st
def eNot (fa : Rho → Rs Opd) : Rho → Rs Opd := fun r => (fa r).bind fun o r1 => match blOf o r1 with
  | some b => .ok (.val (.fz (.bl (!b)))) r1
  | none => .st
theorem blOf_ok {U : Addr → Prop} {H : Hp} {σ : St} {r : Rho} {o : Opd} {v : V} {k : Bool} (s : Sit C U H σ r) (x : OpOk C U H σ r o v) (h : blOf o r = some k) : v = .bl k := by
  obtain ⟨t, e, y⟩ := x.res s
  unfold blOf at h
  rw [e] at h
  cases y with
  | fz y => cases y <;> first | (cases h; rfl) | cases h
  | _ => cases h
theorem bl_ok {U : Addr → Prop} {H : Hp} {σ : St} {r : Rho} {k : Bool} : OpOk C U H σ r (.val (.fz (.bl k))) (.bl k) := ⟨.fz (.bl k), fun p z => (nomatch z), rfl⟩
theorem bl_new {H : Hp} {d : D} {v : V} : New H (.val (.fz d)) v := fun _ _ z q _ => by cases z; cases q
theorem ge_one {op} (h : GE X C a fa) : GE X C (.BoolOp op [a] pos) fa := pe_one h
theorem ge_and {rest : List Expr} (ha : GE X C a fa) (hb : GE X C (.BoolOp .And (b :: rest) pos) fb) : GE X C (.BoolOp .And (a :: b :: rest) pos) (eAnd fa fb) := by
  refine weakE (pe_and ha hb) fun σ H Q h => ?_
  obtain ⟨U, r, s, h⟩ := h
  refine tE_then (R := RE C U H σ r Q) s h id (fun _ _ _ z => z) fun o r1 v H1 U1 s1 a1 p1 k1 n1 h1 => ?_
  cases e1 : blOf o r1 with
  | none => simp only [e1] at h1; exact (show False from h1).elim
  | some k =>
    refine ⟨k, blOf_ok s1 k1 e1, ?_⟩
    cases k with
    | true => simp only [e1] at h1; exact ⟨U1, r1, s1, RE.before h1 a1 p1⟩
    | false => simp only [e1] at h1; exact h1 _ H1 U1 s1 a1 p1 bl_ok bl_new
theorem ge_or {rest : List Expr} (ha : GE X C a fa) (hb : GE X C (.BoolOp .Or (b :: rest) pos) fb) : GE X C (.BoolOp .Or (a :: b :: rest) pos) (eOr fa fb) := by
  refine weakE (pe_or ha hb) fun σ H Q h => ?_
  obtain ⟨U, r, s, h⟩ := h
  refine tE_then (R := RE C U H σ r Q) s h id (fun _ _ _ z => z) fun o r1 v H1 U1 s1 a1 p1 k1 n1 h1 => ?_
  cases e1 : blOf o r1 with
  | none => simp only [e1] at h1; exact (show False from h1).elim
  | some k =>
    refine ⟨k, blOf_ok s1 k1 e1, ?_⟩
    cases k with
    | true => simp only [e1] at h1; exact h1 _ H1 U1 s1 a1 p1 bl_ok bl_new
    | false => simp only [e1] at h1; exact ⟨U1, r1, s1, RE.before h1 a1 p1⟩
theorem ge_not (ha : GE X C a fa) : GE X C (.UnaryOp .Not a pos) (eNot fa) := by
  refine weakE (pe_not ha) fun σ H Q h => ?_
  obtain ⟨U, r, s, h⟩ := h
  refine tE_then (R := RE C U H σ r Q) s h id (fun _ _ _ z => z) fun o r1 v H1 U1 s1 a1 p1 k1 n1 h1 => ?_
  cases e1 : blOf o r1 with
  | none => simp only [e1] at h1; exact (show False from h1).elim
  | some k =>
    simp only [e1] at h1
    exact ⟨k, blOf_ok s1 k1 e1, h1 _ H1 U1 s1 a1 p1 bl_ok bl_new⟩
/-- one operand and a word's function -/
theorem ge_un {rr : V → Hp → VK → Prop} {p : Pr} (hp : PN C (fun vs H Q => ∃ x, vs = [x] ∧ rr x H Q) p) (h : PE X e (tUn rr (tE C fa))) : GE X C e (eCall p (eCons fa eNil)) := by
  refine weakE h fun σ H Q h => ?_
  obtain ⟨U, r, s, h⟩ := h
  refine tE_then (g := fun o r1 => eP p [o] r1) (R := RE C U H σ r Q) s ?_ id (fun _ _ _ z => z) ?_
  · refine cast ?_ h
    unfold eCall eCons eNil Rs.bind
    cases fa r <;> rfl
  intro o r1 v H1 U1 s1 a1 p1 k1 n1 h1
  obtain ⟨x, e, q⟩ := eP_fin hp s1 a1 p1 (.cons k1 .nil) h1
  cases e
  exact q
/-- a op b op c -/
def eChain (p p' : Pr) (fa fb fc : Rho → Rs Opd) : Rho → Rs Opd := fun r => (fa r).bind fun o1 r1 => (fb r1).bind fun o2 r2 => (eP p [o1, o2] r2).bind fun o3 r3 => match o3 with
  | .val (.fz (.bl true)) => (fc r3).bind fun o4 r4 => eP p' [o2, o4] r4
  | .val (.fz (.bl false)) => .ok (.val (.fz (.bl false))) r3
  | _ => .st
theorem chain_reading {rr rr' : R2} {p p' : Pr} (hp : PN C (fun vs H Q => ∃ x y, vs = [x, y] ∧ rr x y H Q) p) (hp' : PN C (fun vs H Q => ∃ x y, vs = [x, y] ∧ rr' x y H Q) p') {σ : St} {H : Hp} {Q : VK} (h : tE C (eChain p p' fa fb fc) σ H Q) : tChain rr rr' (tE C fa) (tE C fb) (tE C fc) σ H Q := by
  obtain ⟨U, r, s, h⟩ := h
  refine tE_then (R := RE C U H σ r Q) s h id (fun _ _ _ z => z) fun o r1 v H1 U1 s1 a1 p1 k1 n1 h1 => ?_
  refine tE_then (R := RE C U H σ r Q) s1 h1 id (fun _ _ _ z => XWant.before z a1) fun o2 r2 v2 H2 U2 s2 a2 p2 k2 n2 h2 => ?_
  obtain ⟨ss, e, x⟩ := OpsOk.res s2 (.cons (k1.after a2 s1 p2) (.cons k2 .nil))
  unfold eP at h2
  simp only [e] at h2
  cases e2 : p ss with
  | none => simp only [e2, Rs.bind] at h2; exact (show False from h2).elim
  | some t =>
    simp only [e2, Rs.bind] at h2
    obtain ⟨x1, y1, e3, q⟩ := hp U2 _ H2 [v, v2] ss t (fun z H3 => ∃ k, z = .bl k ∧ (if k = true then tE C fc σ H3 fun w' H4 => rr' v2 w' H4 Q else Q (.bl false) H3)) s2.wlv x e2 fun w H3 g => by
      obtain ⟨U3, s3, a3, k3, n3⟩ := g.fin s2
      cases t with
      | fz d =>
        cases d with
        | bl k' =>
          cases k3.1 with
          | fz y =>
            cases y
            refine ⟨k', rfl, ?_⟩
            cases k' with
            | false => rw [if_neg Bool.false_ne_true]; exact h2 _ H3 U3 s3 ((a1.trans a2).trans a3) (p1.trans p2) bl_ok bl_new
            | true =>
              rw [if_pos rfl]
              refine tE_then (R := RE C U H σ r Q) s3 h2 id (fun _ _ _ z => XWant.before z ((a1.trans a2).trans a3)) fun o4 r4 v4 H4 U4 s4 a4 p4 k4 n4 h4 => ?_
              obtain ⟨x, y, e, q⟩ := eP_fin hp' s4 (((a1.trans a2).trans a3).trans a4) ((p1.trans p2).trans p4) (.cons (((k2.after a3 s2 Per.refl)).after a4 s3 p4) (.cons k4 .nil)) h4
              cases e
              exact q
        | _ => exact (show False from h2).elim
      | _ => exact (show False from h2).elim
    cases e3
    exact q
theorem ge_chain {op op' : CmpOp} {rr rr' : R2} {p p' : Pr} (ho : OpR X (compareOp op) rr) (ho' : OpR X (compareOp op') rr') (hp : PN C (fun vs H Q => ∃ x y, vs = [x, y] ∧ rr x y H Q) p) (hp' : PN C (fun vs H Q => ∃ x y, vs = [x, y] ∧ rr' x y H Q) p') (ha : GE X C a fa) (hb : GE X C b fb) (hc : GE X C c fc)
    (hm : lastMarks [op, op'] [b, c] = false := by with_unfolding_all rfl) : GE X C (.Compare a [op, op'] [b, c] pos) (eChain p p' fa fb fc) :=
  weakE (pe_chain ho ho' ha hb hc hm) fun σ H Q h => chain_reading hp hp' h
theorem gt_chain {op op' : CmpOp} {rr rr' : R2} {p p' : Pr} (ho : OpR X (compareOp op) rr) (ho' : OpR X (compareOp op') rr') (hp : PN C (fun vs H Q => ∃ x y, vs = [x, y] ∧ rr x y H Q) p) (hp' : PN C (fun vs H Q => ∃ x y, vs = [x, y] ∧ rr' x y H Q) p') (ha : GE X C a fa) (hb : GE X C b fb) (hc : GE X C c fc)
    (hm : lastMarks [op, op'] [b, c] = false := by with_unfolding_all rfl) : GT X C (.Compare a [op, op'] [b, c] pos) (eBl (eChain p p' fa fb fc)) := by
  refine weakT (pt_chain ho ho' ha hb hc hm) fun σ H Q h => ?_
  show tChain rr rr' (tE C fa) (tE C fb) (tE C fc) σ H fun x H' => ∃ k, x = .bl k ∧ Q k H'
  refine chain_reading hp hp' ?_
  obtain ⟨U, r, s, h⟩ := h
  refine tE_then (R := RT C U H σ r Q) s h id (fun _ _ _ z => z) fun o r1 v H1 U1 s1 a1 p1 k1 n1 h1 => ?_
  cases o with
  | val t =>
    cases t with
    | fz d =>
      cases d with
      | bl k => cases k1.1 with | fz y => cases y; exact ⟨_, rfl, h1 H1 U1 s1 a1 p1⟩
      | _ => exact (show False from h1).elim
    | _ => exact (show False from h1).elim
  | loc i => exact (show False from h1).elim

/-! ### methods -/
def eMeth (tt : S → Bool) (p : Pr) (fo : Rho → Rs Opd) (fa : Rho → Rs (List Opd)) : Rho → Rs Opd := fun r => (fo r).bind fun o r1 => match res r1 o with
  | some s => if tt s then (fa r1).bind fun os r2 => eP p (o :: os) r2 else .st
  | none => .st
theorem ge_meth {K : PySem.W.Frag} {T : String} {rr : V → List V → Hp → VK → Prop} {tt : S → Bool} {p : Pr} {fa : Rho → Rs (List Opd)} (h : PE X e (tBM K T rr (tE C fo) (tA C fa))) (hT : ∀ U W H v s, SR C.K U W H v s → tt s = true → tyV K T v H)
    (hp : PN C (fun vs H Q => ∃ x xs, vs = x :: xs ∧ rr x xs H Q) p) : GE X C e (eMeth tt p fo fa) := by
  refine weakE h fun σ H Q h => ?_
  obtain ⟨U, r, s, h⟩ := h
  refine tE_then (R := RE C U H σ r Q) s h id (fun _ _ _ z => z) fun o r1 v H1 U1 s1 a1 p1 k1 n1 h1 => ?_
  obtain ⟨t, e, x⟩ := k1.res s1
  simp only [e] at h1
  by_cases ht : tt t = true
  · rw [if_pos ht] at h1
    refine ⟨hT _ _ _ _ _ x ht, ?_⟩
    refine tA_then (R := RE C U H σ r Q) s1 h1 id (fun _ _ _ z => XWant.before z a1) fun os r2 vs H2 U2 s2 a2 p2 k2 n2 h2 => ?_
    obtain ⟨x, xs, e, q⟩ := eP_fin hp s2 (a1.trans a2) (p1.trans p2) (.cons (k1.after a2 s1 p2) k2) h2
    cases e
    exact q
  · rw [if_neg ht] at h1
    exact (show False from h1).elim
theorem ge_meth0 {K : PySem.W.Frag} {T : String} {rr : V → List V → Hp → VK → Prop} {tt : S → Bool} {p : Pr} (h : PE X e (tBM0 K T rr (tE C fo))) (hT : ∀ U W H v s, SR C.K U W H v s → tt s = true → tyV K T v H)
    (hp : PN C (fun vs H Q => ∃ x xs, vs = x :: xs ∧ rr x xs H Q) p) : GE X C e (eMeth tt p fo eNil) := by
  refine weakE h fun σ H Q h => ?_
  obtain ⟨U, r, s, h⟩ := h
  refine tE_then (R := RE C U H σ r Q) s h id (fun _ _ _ z => z) fun o r1 v H1 U1 s1 a1 p1 k1 n1 h1 => ?_
  obtain ⟨t, e, x⟩ := k1.res s1
  simp only [e] at h1
  by_cases ht : tt t = true
  · rw [if_pos ht] at h1
    refine ⟨hT _ _ _ _ _ x ht, ?_⟩
    obtain ⟨x, xs, e, q⟩ := eP_fin hp s1 a1 p1 (.cons k1 .nil) (show RE C U H σ r Q (eP p [o] r1) from h1)
    cases e
    exact q
  · rw [if_neg ht] at h1
    exact (show False from h1).elim
end

/-! ### own things written -/
section
variable {C : Ct} {U U' : Addr → Prop} {H H' : Hp} {σ σ' : St} {r r' : Rho} {i : Nat} {s s' : S} {p : Addr}
/-- what stands at p is what s' says -/
inductive At (K : PySem.W.Frag) (W : Addr → Prop) (H : Hp) : S → HO → Prop
  | ol {xs : List V} {ds : List D} : Rps K W H xs ds → At K W H (.ol ds) (.lst xs)
  | br {xs : List V} {ds : List D} : Rps K W H xs ds → At K W H (.br ds) (.lst xs)
  | od {xs : List (Key × V)} {ds : List (Key × D)} : KR K W H xs ds → At K W H (.od ds) (.dK xs)
  | bd {xs : List (Key × V)} {ds : List (Key × D)} : KR K W H xs ds → At K W H (.bd ds) (.dK xs)
theorem At.own {K : PySem.W.Frag} {W : Addr → Prop} {o : HO} (x : At K W H s o) : s.own = true := by cases x <;> rfl
theorem Sit.write {o : HO} (st : Sit C U H σ r) (hi : r[i]? = some (some s)) (ho : s.own = true) (hv : σ[i]? = some (some (V.ref p))) (x : At C.K (Wn U σ r) H s' o) (hl : s.hard = true → Sl s s') :
    Sit C U (upd H p o) σ (r.set i (some s')) ∧ Aft U H σ r U (upd H p o) σ (r.set i (some s')) ∧ Per r (r.set i (some s')) ∧ (∀ {v d}, Rp C.K (Wn U σ r) H v d → Rp C.K (Wn U σ (r.set i (some s'))) (upd H p o) v d) := by
  have hlt := lt_of_at hi
  have op : Own σ r p := ⟨i, s, hi, ho, hv⟩
  have ho' := x.own
  have own' : ∀ a, Own σ (r.set i (some s')) a → Own σ r a := fun a ⟨j, t, h1, h2, h3⟩ => by
    rcases at_set h1 with ⟨rfl, e⟩ | ⟨n, h1⟩
    · exact ⟨j, s, hi, ho, h3⟩
    · exact ⟨j, t, h1, h2, h3⟩
  have wsub : ∀ a, Wn U σ (r.set i (some s')) a → Wn U σ r a := fun a z => z.elim (fun z => .inl (own' a z)) .inr
  have keep : ∀ b o', b ≠ p → H b = some o' → upd H p o b = some o' := fun b o' n h => by rw [upd_ne n]; exact h
  have m : Mono (fun _ => False) (Wn U σ r) H (fun _ => False) (Wn U σ (r.set i (some s'))) (upd H p o) :=
    ⟨st.wlv, fun b o' n h => keep b o' (fun z => n (by rw [z]; exact .inl op)) h, fun b o' n h z => n (wsub b z), fun _ _ z => z.elim, fun _ z => z.elim⟩
  have lp : ∃ xs, o = .lst xs ∨ ∃ k, o = .dK k := by
    cases x with
    | ol y => exact ⟨_, .inl rfl⟩
    | br y => exact ⟨_, .inl rfl⟩
    | od y => exact ⟨[], .inr ⟨_, rfl⟩⟩
    | bd y => exact ⟨[], .inr ⟨_, rfl⟩⟩
  refine ⟨⟨by rw [List.length_set]; exact st.len, fun j t h => ?_, fun j k t u w h1 q1 h2 q2 e1 e2 => ?_, fun a h => st.dis a (own' a h), fun a h => ?_⟩, ⟨fun _ h => h, fun _ h => .inl h, fun a h => .inl (own' a h), fun a o' h n => keep a o' (fun z => n (by rw [z]; exact op)) h, fun a o' h => ?_, fun j t h1 h2 => ?_, fun j t h1 h2 => ?_⟩, fun j t h => ?_, fun y => y.mono m⟩
  · rcases at_set h with ⟨rfl, e⟩ | ⟨n, h⟩
    · cases e
      refine ⟨_, hv, ?_⟩
      cases x with
      | ol y => exact .ol upd_same (y.mono m)
      | br y => exact .br upd_same (y.mono m)
      | od y => exact .od upd_same (y.mono m)
      | bd y => exact .bd upd_same (y.mono m)
    · obtain ⟨w, e, y⟩ := st.rep j t h
      refine ⟨w, e, ?_⟩
      have ne : t.soft = false → ∀ b, w = .ref b → b ≠ p := fun z1 b z2 z => n (by
        subst z
        exact st.inj j i t s _ h z1 hi (soft_of_own ho) (by rw [e, z2]) hv)
      cases y with
      | fz y => exact .fz (y.mono m)
      | ol e1 y => exact .ol (keep _ _ (ne rfl _ rfl) e1) (y.mono m)
      | br e1 y => exact .br (keep _ _ (ne rfl _ rfl) e1) (y.mono m)
      | lk e1 u y => exact .lk (keep _ _ (ne rfl _ rfl) e1) u (y.mono m)
      | od e1 y => exact .od (keep _ _ (ne rfl _ rfl) e1) (y.mono m)
      | bd e1 y => exact .bd (keep _ _ (ne rfl _ rfl) e1) (y.mono m)
      | kd e1 u y => exact .kd (keep _ _ (ne rfl _ rfl) e1) u (y.mono m)
      | exc e1 y => exact .exc (keep _ _ (fun z => by subst z; exact (st.wlv _ (.inl op)).xd e1) e1) (y.mono m)
  · have slot : ∀ (j : Nat) (t : S), (r.set i (some s'))[j]? = some (some t) → t.soft = false → ∃ u, r[j]? = some (some u) ∧ u.soft = false := fun j t h q => by
      rcases at_set h with ⟨rfl, e⟩ | ⟨n, h⟩
      · exact ⟨s, hi, soft_of_own ho⟩
      · exact ⟨t, h, q⟩
    obtain ⟨_, g1, g2⟩ := slot j t h1 q1
    obtain ⟨_, g3, g4⟩ := slot k u h2 q2
    exact st.inj j k _ _ w g1 g2 g3 g4 e1 e2
  · have n : a ≠ p := fun z => by subst z; exact st.dis a op h
    rcases st.uok a h with ⟨y, l⟩ | ⟨y, l⟩
    · exact .inl ⟨y, keep _ _ n l⟩
    · exact .inr ⟨y, keep _ _ n l⟩
  · by_cases z : a = p
    · subst z; exact ⟨_, upd_same⟩
    · exact ⟨o', keep _ _ z h⟩
  · by_cases n : i = j
    · subst n
      rw [hi] at h1; cases h1
      exact ⟨s', List.getElem?_set_self hlt, hl h2, rfl⟩
    · exact ⟨t, by rw [List.getElem?_set_ne n]; exact h1, Sl.refl t, rfl⟩
  · rcases at_set h1 with ⟨rfl, e⟩ | ⟨n, h1⟩
    · cases e; cases x <;> cases h2
    · exact ⟨h1, rfl⟩
  · by_cases n : i = j
    · subst n; exact ⟨s', List.getElem?_set_self hlt⟩
    · exact ⟨t, by rw [List.getElem?_set_ne n]; exact h⟩
end
/-- a writing method by its function: what the thing is then, what it gives -/
abbrev Mu := S → List D → Option (S × D)
def MuOk (C : Ct) (rr : V → List V → Hp → VK → Prop) (m : Mu) : Prop :=
  ∀ (U W : Addr → Prop) (H : Hp) (p : Addr) (s s' : S) (vs : List V) (ds : List D) (d : D) (Q : VK), s.own = true → W p → (∀ a, W a → Lv H a) → SR C.K U W H (.ref p) s → Rps C.K W H vs ds → m s ds = some (s', d) →
    (∀ v o, At C.K W H s' o → (s.hard = true → Sl s s') → Rp C.K W H v d → Q v (upd H p o)) → rr (.ref p) vs H Q
def ownAt (r : Rho) (i : Nat) : Option S := match r[i]? with
  | some (some s) => if s.own then some s else none
  | _ => none
def mutP (m : Mu) (i : Nat) (os : List Opd) (r1 : Rho) : Rs Opd := match frzAll os r1 with
  | some (ds, r2) => (match ownAt r2 i with
    | some s => (match m s ds with | some (s', d) => .ok (.val (.fz d)) (r2.set i (some s')) | none => .st)
    | none => .st)
  | none => .st
def eMut (tt : S → Bool) (m : Mu) (i : Nat) (fa : Rho → Rs (List Opd)) : Rho → Rs Opd := fun r => match ownAt r i with
  | some s => if tt s then (fa r).bind (mutP m i) else .st
  | none => .st
section
variable {X : Cx} {C : Ct} {e : Expr} {fa : Rho → Rs (List Opd)}
theorem ownAt_of {r : Rho} {i : Nat} {s : S} (h : ownAt r i = some s) : r[i]? = some (some s) ∧ s.own = true := by
  unfold ownAt at h
  cases e : r[i]? with
  | none => rw [e] at h; cases h
  | some q =>
    cases q with
    | none => rw [e] at h; cases h
    | some t =>
      rw [e] at h
      dsimp only at h
      by_cases ho : t.own = true
      · rw [if_pos ho] at h; cases h; exact ⟨rfl, ho⟩
      · rw [if_neg ho] at h; cases h
theorem mutP_fin {rr : V → List V → Hp → VK → Prop} {m : Mu} (hm : MuOk C rr m) {i : Nat} {U U' : Addr → Prop} {H H' : Hp} {σ : St} {r r' : Rho} {os : List Opd} {vs : List V} {v0 : V} {Q : VK} (hv : σ[i]? = some (some v0)) (s0 : Sit C U H σ r) (s : Sit C U' H' σ r') (a : Aft U H σ r U' H' σ r') (pe : Per r r') (k : OpsOk C U' H' σ r' os vs) (n : NewS H os vs)
    (h : RE C U H σ r Q (mutP m i os r')) : rr v0 vs H' Q := by
  obtain ⟨U2, s2, a2, u2, k2⟩ := ops_drop s0 s a k n
  unfold mutP at h
  cases e1 : frzAll os r' with
  | none => simp only [e1] at h; exact (show False from h).elim
  | some z =>
    obtain ⟨ds, r2⟩ := z
    simp only [e1] at h
    obtain ⟨s3, a3, p3, x3⟩ := frzAll_ok s2 k2 e1
    cases e2 : ownAt r2 i with
    | none => simp only [e2] at h; exact (show False from h).elim
    | some t =>
      simp only [e2] at h
      obtain ⟨g1, g2⟩ := ownAt_of e2
      cases e3 : m t ds with
      | none => simp only [e3] at h; exact (show False from h).elim
      | some z =>
        obtain ⟨t', d⟩ := z
        simp only [e3] at h
        obtain ⟨w, ew, x⟩ := s3.rep i t g1
        rw [hv] at ew; cases ew
        obtain ⟨p, ep, l⟩ := x.ownLv g2
        subst ep
        refine hm U2 _ H' p t t' vs ds d Q g2 (.inl ⟨i, t, g1, g2, hv⟩) s3.wlv x x3 e3 fun v o xo hl xd => ?_
        obtain ⟨s4, a4, p4, c4⟩ := s3.write g1 g2 hv xo hl
        exact h v _ U2 s4 ((a2.trans a3).trans a4) ((pe.trans p3).trans p4) ⟨.fz (c4 xd), fun p z => (nomatch z), rfl⟩ bl_new
theorem ge_mut {K : PySem.W.Frag} {T : String} {rr : V → List V → Hp → VK → Prop} {tt : S → Bool} {m : Mu} {i : Nat} (h : PE X e (tBM K T rr (tVar i) (tA C fa))) (hT : ∀ U W H v s, SR C.K U W H v s → tt s = true → tyV K T v H) (hm : MuOk C rr m) : GE X C e (eMut tt m i fa) := by
  refine weakE h fun σ H Q h => ?_
  obtain ⟨U, r, s, h⟩ := h
  unfold eMut at h
  cases e1 : ownAt r i with
  | none => simp only [e1] at h
  | some t =>
    simp only [e1] at h
    obtain ⟨g1, g2⟩ := ownAt_of e1
    obtain ⟨v, ev, x⟩ := s.rep i t g1
    by_cases ht : tt t = true
    · rw [if_pos ht] at h
      refine ⟨v, ev, hT _ _ _ _ _ x ht, ?_⟩
      exact tA_then (R := RE C U H σ r Q) s h id (fun _ _ _ z => z) fun os r2 vs H2 U2 s2 a2 p2 k2 n2 h2 => mutP_fin hm ev s s2 a2 p2 k2 n2 h2
    · rw [if_neg ht] at h
      exact h.elim
theorem ge_mut0 {K : PySem.W.Frag} {T : String} {rr : V → List V → Hp → VK → Prop} {tt : S → Bool} {m : Mu} {i : Nat} (h : PE X e (tBM0 K T rr (tVar i))) (hT : ∀ U W H v s, SR C.K U W H v s → tt s = true → tyV K T v H) (hm : MuOk C rr m) : GE X C e (eMut tt m i eNil) := by
  refine weakE h fun σ H Q h => ?_
  obtain ⟨U, r, s, h⟩ := h
  unfold eMut at h
  cases e1 : ownAt r i with
  | none => simp only [e1] at h
  | some t =>
    simp only [e1] at h
    obtain ⟨g1, g2⟩ := ownAt_of e1
    obtain ⟨v, ev, x⟩ := s.rep i t g1
    by_cases ht : tt t = true
    · rw [if_pos ht] at h
      exact ⟨v, ev, hT _ _ _ _ _ x ht, mutP_fin hm ev s s Aft.refl Per.refl .nil .nil (show RE C U H σ r Q (mutP m i [] r) from h)⟩
    · rw [if_neg ht] at h
      exact h.elim
end
end GB

/-! defs and their calls, the guards known -/
namespace GB
open PySem PySem.Spec PyProof.Rows L2

/-- a def's promise where no repr is under way -/
structure FnG (P : Program) (w : World) (K : PySem.W.Frag) (mg : Str → Option Value) (base : Heap) (k : Nat) (f : Addr) (fd : FuncData) (ps : List Str) (sp : Sp) : Prop where
  len : ∀ vs H Q E, sp vs H Q E → vs.length = ps.length
  go : ∀ (A : Around) (l : List Env) (t : Shared) (H : Hp) (args : Args) (us : List Value) (vs : List V) (Q : VK) (E : XK), Room k A → A.guards = some [] → Env0 P w K mg base A l t H →
    BindsTo t fd args (ps.zip us) → Vals vs us → sp vs H Q E → codeAny (model P w) A (.call (.ref f) args) (CR (L2.CX P w) l P w H t Q E) t
def ct0 (K : PySem.W.Frag) (mg : Str → Option Value) : Ct := ⟨K, mg, fun _ _ _ _ => False⟩
section
variable {P : Program} {w : World} {K : PySem.W.Frag} {mg : Str → Option Value} {base : Heap}
theorem FnG.up {j k : Nat} {f : Addr} {fd : FuncData} {ps : List Str} {sp : Sp} (F : FnG P w K mg base j f fd ps sp) (h : j ≤ k) : FnG P w K mg base k f fd ps sp :=
  ⟨F.len, fun A l t H args us vs Q E hr => F.go A l t H args us vs Q E (hr.mono h)⟩
theorem FnG.weak {k : Nat} {f : Addr} {fd : FuncData} {ps : List Str} {sp sp' : Sp} (F : FnG P w K mg base k f fd ps sp) (h : ∀ vs H Q E, sp' vs H Q E → sp vs H Q E) : FnG P w K mg base k f fd ps sp' :=
  ⟨fun vs H Q E q => F.len vs H Q E (h _ _ _ _ q), fun A l t H args us vs Q E hr gu e b r q => F.go A l t H args us vs Q E hr gu e b r (h _ _ _ _ q)⟩
/-- the words behind a body that are told to the caller -/
def outsL : List S → Rho → List S
  | [], _ => []
  | s :: ss, r => (if s.hard then (match r.head? with | some (some t) => t | _ => s) else s) :: outsL ss r.tail
def startR (n : Nat) (ss : List S) : Rho := words ss ++ List.replicate (n - ss.length) none
def runF (n : Nat) (body : Rho → Fl) : Fs := fun ss => match body (startR n ss) with
  | .nx r => .ok (.fz .non) (outsL ss r)
  | .rt s r => .ok s (outsL ss r)
  | .ex c fs r => .ex c fs (outsL ss r)
  | _ => .st
theorem outsL_len : ∀ (ss : List S) (r : Rho), (outsL ss r).length = ss.length
  | [], _ => rfl
  | _ :: ss, r => congrArg (· + 1) (outsL_len ss r.tail)
theorem outsL_at : ∀ {ss : List S} {r : Rho} {k : Nat} {s : S}, ss[k]? = some s → (outsL ss r)[k]? = some (if s.hard then (match r[k]? with | some (some t) => t | _ => s) else s)
  | [], _, _, _, h => by simp at h
  | s :: ss, r, 0, t, h => by
    cases h
    show some _ = some _
    cases r <;> rfl
  | s :: ss, r, k + 1, t, h => by
    have q := outsL_at (r := r.tail) (show ss[k]? = some t from by simpa using h)
    show (outsL ss r.tail)[k]? = _
    rw [q]
    cases r with
    | nil => simp
    | cons a r => simp
/-- at the entry -/
theorem start_sit {C : Ct} {U : Addr → Prop} {H : Hp} {N : List Str} {vs : List V} {ss : List S} (s : Sit C U H (slots vs) (words ss)) (hl : vs.length = ss.length) (hn : vs.length ≤ N.length) :
    Sit C U H (start N vs) (startR N.length ss) ∧ (∀ a, Own (start N vs) (startR N.length ss) a ↔ Own (slots vs) (words ss) a) := by
  have rAt : ∀ (i : Nat) (t : S), (startR N.length ss)[i]? = some (some t) → (words ss)[i]? = some (some t) := fun i t h => by
    unfold startR at h
    by_cases q : i < (words ss).length
    · rw [List.getElem?_append_left q] at h; exact h
    · rw [List.getElem?_append_right (by omega), List.getElem?_replicate] at h
      split at h <;> cases h
  have vAt : ∀ (i : Nat) (v : V), (slots vs)[i]? = some (some v) → (start N vs)[i]? = some (some v) := fun i v h => by
    unfold L2.start
    rw [List.getElem?_append_left (lt_of_at h)]
    exact h
  have back : ∀ (i : Nat) (v : V) (t : S), (words ss)[i]? = some (some t) → (start N vs)[i]? = some (some v) → (slots vs)[i]? = some (some v) := fun i v t ht h => by
    unfold L2.start at h
    rw [List.getElem?_append_left (by simpa [slots, hl] using (show i < (words ss).length from lt_of_at ht))] at h
    exact h
  have own : ∀ a, Own (start N vs) (startR N.length ss) a ↔ Own (slots vs) (words ss) a := fun a => by
    constructor
    · rintro ⟨i, t, h1, h2, h3⟩
      exact ⟨i, t, rAt i t h1, h2, back i _ t (rAt i t h1) h3⟩
    · rintro ⟨i, t, h1, h2, h3⟩
      refine ⟨i, t, ?_, h2, vAt i _ h3⟩
      unfold startR
      rw [List.getElem?_append_left (lt_of_at h1)]
      exact h1
  have wsub : ∀ a, Wn U (start N vs) (startR N.length ss) a → Wn U (slots vs) (words ss) a := fun a z => z.elim (fun z => .inl ((own a).mp z)) .inr
  refine ⟨⟨?_, fun i t h => ?_, fun i j t u v h1 q1 h2 q2 e1 e2 => ?_, fun a h => s.dis a ((own a).mp h), s.uok⟩, own⟩
  · unfold L2.start startR
    simp only [List.length_append, List.length_map, List.length_replicate, words]
    omega
  · obtain ⟨v, e, x⟩ := s.rep i t (rAt i t h)
    exact ⟨v, vAt i v e, x.less wsub fun p z1 z2 => x.lkLv z1 z2⟩
  · exact s.inj i j t u v (rAt i t h1) q1 (rAt j u h2) q2 (back i v t (rAt i t h1) e1) (back j v u (rAt j u h2) e2)
/-- behind the body: the caller's view -/
theorem end_sit {C : Ct} {U U' : Addr → Prop} {H H' : Hp} {N : List Str} {vs : List V} {ss : List S} {σ' : St} {r' : Rho} (s0 : Sit C U H (slots vs) (words ss)) (hl : vs.length = ss.length) (hn : vs.length ≤ N.length) (hh : ∀ s ∈ ss, s.own = true → s.hard = true)
    (s' : Sit C U' H' σ' r') (a' : Aft U H (start N vs) (startR N.length ss) U' H' σ' r') :
    ∃ U'', Sit C U'' H' (slots vs) (words (outsL ss r')) ∧ Aft U H (slots vs) (words ss) U'' H' (slots vs) (words (outsL ss r')) ∧ (∀ a, Wn U'' (slots vs) (words (outsL ss r')) a → Wn U' σ' r' a) ∧
      (∀ a, U' a → U'' a) := by
  obtain ⟨st, own⟩ := start_sit s0 hl hn
  have ownw : ∀ a, Own (slots vs) (words ss) a → Own (start N vs) (startR N.length ss) a := fun a => (own a).mpr
  have sAt : ∀ (i : Nat) (t : S), (words ss)[i]? = some (some t) → (startR N.length ss)[i]? = some (some t) := fun i t h => by
    unfold startR
    rw [List.getElem?_append_left (lt_of_at h)]; exact h
  have vAt : ∀ (i : Nat) (v : V), (slots vs)[i]? = some (some v) → (start N vs)[i]? = some (some v) := fun i v h => by
    unfold L2.start
    rw [List.getElem?_append_left (lt_of_at h)]
    exact h
  -- a word told to the caller: a tied one's own slot, or the argument's own word
  have cases' : ∀ (k : Nat) (t : S), (words (outsL ss r'))[k]? = some (some t) → ∃ s v, ss[k]? = some s ∧ vs[k]? = some v ∧ ((s.hard = true ∧ r'[k]? = some (some t) ∧ Sl s t ∧ σ'[k]? = some (some v)) ∨ (s.hard = false ∧ t = s)) := fun k t h => by
    rw [words_at] at h
    have hk : k < ss.length := by have := lt_of_at h; rw [outsL_len] at this; exact this
    have e : ss[k]? = some ss[k] := List.getElem?_eq_getElem hk
    have ev : vs[k]? = some vs[k] := List.getElem?_eq_getElem (by omega)
    refine ⟨ss[k], vs[k]'(by omega), e, ev, ?_⟩
    rw [outsL_at e] at h
    cases hb : (ss[k]).hard with
    | false => rw [hb] at h; cases h; exact .inr ⟨rfl, rfl⟩
    | true =>
      rw [hb] at h
      obtain ⟨t', g1, g2, g3⟩ := a'.pin k _ (sAt k _ (words_at.mpr e)) hb
      simp only [if_pos, g1] at h
      cases h
      exact .inl ⟨rfl, g1, g2, by rw [g3]; exact vAt k _ (slots_at.mpr ev)⟩
  have owno : ∀ a, Own (slots vs) (words (outsL ss r')) a → Own (slots vs) (words ss) a ∧ Own σ' r' a := fun a ⟨k, t, h1, h2, h3⟩ => by
    obtain ⟨s, v, e1, e2, h⟩ := cases' k t h1
    rw [slots_at] at h3
    rw [e2] at h3; cases h3
    rcases h with ⟨g1, g2, g3, g4⟩ | ⟨g1, g2⟩
    · refine ⟨⟨k, s, words_at.mpr e1, ?_, slots_at.mpr e2⟩, ⟨k, t, g2, h2, g4⟩⟩
      cases s <;> simp [S.hard] at g1 <;> simp [Sl] at g3
      · rfl
      · subst g3; cases h2
      · rfl
      · subst g3; cases h2
    · subst g2
      have := hh _ (List.mem_of_getElem? e1) h2
      rw [g1] at this; cases this
  -- all that the body held and the caller has not: the caller need not know
  refine ⟨fun a => U' a ∨ (Own σ' r' a ∧ ¬ Own (slots vs) (words (outsL ss r')) a ∧ False), ?_⟩
  have wsub : ∀ a, Wn (fun a => U' a ∨ (Own σ' r' a ∧ ¬ Own (slots vs) (words (outsL ss r')) a ∧ False)) (slots vs) (words (outsL ss r')) a → Wn U' σ' r' a := fun a z => by
    rcases z with z | z | z
    · exact .inl (owno a z).2
    · exact .inr z
    · exact z.2.2.elim
  have m : Mono U (Wn U (slots vs) (words ss)) H U' (Wn U' σ' r') H' := by
    have q := a'.mono st
    have e : Wn U (start N vs) (startR N.length ss) = Wn U (slots vs) (words ss) := by
      funext a
      exact propext ⟨fun z => z.elim (fun z => .inl ((own a).mp z)) .inr, fun z => z.elim (fun z => .inl ((own a).mpr z)) .inr⟩
    rw [e] at q
    exact q
  refine ⟨⟨by simp only [slots, words, List.length_map, outsL_len]; exact hl, fun k t h => ?_, fun i j t u v h1 q1 h2 q2 e1 e2 => ?_, fun a h z => ?_, fun a h => ?_⟩, ⟨fun a h => .inl (a'.sub a h), fun a h => ?_, fun a h => .inl (owno a h).1, fun a o h n => a'.keep a o h fun z => n ((own a).mp z), a'.there, fun k s h1 h2 => ?_, fun k t h1 h2 => ?_⟩, wsub, fun a h => .inl h⟩
  · obtain ⟨s, v, e1, e2, h⟩ := cases' k t h
    refine ⟨v, slots_at.mpr e2, ?_⟩
    rcases h with ⟨g1, g2, g3, g4⟩ | ⟨g1, g2⟩
    · obtain ⟨w', e, x⟩ := s'.rep k t g2
      rw [g4] at e; cases e
      exact x.less wsub fun p z1 z2 => .inl (x.lkLv z1 z2)
    · subst g2
      obtain ⟨w', e, x⟩ := s0.rep k t (words_at.mpr e1)
      rw [slots_at] at e
      rw [e2] at e; cases e
      refine (x.mono m fun a o ho _ _ => ?_).less wsub fun p z1 z2 => ?_
      · have := hh _ (List.mem_of_getElem? e1) ho; rw [g1] at this; cases this
      · have := lkd_hard z1; rw [g1] at this; cases this
  · obtain ⟨s1, v1, f1, f2, h⟩ := cases' i t h1
    obtain ⟨s2, v2, f3, f4, h'⟩ := cases' j u h2
    rw [slots_at] at e1 e2
    rw [f2] at e1; cases e1
    rw [f4] at e2; cases e2
    rcases h with ⟨g1, g2, g3, g4⟩ | ⟨g1, g2⟩
    · rcases h' with ⟨g5, g6, g7, g8⟩ | ⟨g5, g6⟩
      · exact s'.inj i j t u _ g2 q1 g6 q2 g4 g8
      · subst g6
        rcases soft_cases q2 with z | z
        · have := hh _ (List.mem_of_getElem? f3) z; rw [g5] at this; cases this
        · have := lkd_hard z; rw [g5] at this; cases this
    · subst g2
      rcases soft_cases q1 with z | z
      · have := hh _ (List.mem_of_getElem? f1) z; rw [g1] at this; cases this
      · have := lkd_hard z; rw [g1] at this; cases this
  · rcases z with z | z
    · exact s'.dis a (owno a h).2 z
    · exact z.2.2
  · rcases h with h | h
    · exact s'.uok a h
    · exact h.2.2.elim
  · rcases h with h | h
    · rcases a'.new a h with z | z | z
      · exact .inl z
      · exact .inr (.inl z)
      · exact .inr (.inr ((own a).mp z))
    · exact h.2.2.elim
  · have e1 := words_at.mp h1
    refine ⟨_, words_at.mpr (outsL_at e1), ?_, rfl⟩
    obtain ⟨t', g1, g2, g3⟩ := a'.pin k s (sAt k s h1) h2
    rw [h2]
    simp only [if_pos, g1]
    exact g2
  · obtain ⟨s, v, e1, e2, h⟩ := cases' k t h1
    rcases h with ⟨g1, g2, g3, g4⟩ | ⟨g1, g2⟩
    · obtain ⟨f1, f2⟩ := a'.lok k t g2 h2
      refine ⟨?_, rfl⟩
      unfold startR at f1
      by_cases q : k < (words ss).length
      · rw [List.getElem?_append_left q] at f1; exact f1
      · exact absurd (by simpa [words] using lt_of_at e1) q
    · subst g2
      have := lkd_hard h2; rw [g1] at this; cases this
end
end GB

/-! a def by its body; a call; the law -/
namespace GB
open PySem PySem.Spec PyProof.Rows L2
section
variable {P : Program} {w : World} {K : PySem.W.Frag} {mg : Str → Option Value} {base : Heap}
abbrev bodyCx (P : Program) (w : World) (K : PySem.W.Frag) (mg : Str → Option Value) (base : Heap) (N : List Str) (qual : Str) (st : Stmt) (f : Addr) (cdv : Value) (A : Around) (l : List Env) (t : Shared) (H : Hp) (E : XK) : Cx :=
  cxOf (L2.CX P w) P w K mg base N qual (defScope st) f cdv A l t H E
abbrev bodyCt (K : PySem.W.Frag) (mg : Str → Option Value) (E : XK) : Ct := ⟨K, mg, fun cls d _ H => E cls d H⟩
/-- THE RULE for a def: its body's function -/
theorem def_ok {x qual : Str} {st : Stmt} {f : Addr} {fd : FuncData} {N ps : List Str} {k : Nat} {body : Rho → Fl} (F : Fun K x qual st f fd) (Sc : FnScope N ps (defScope st))
    (hb : ∀ (cdv : Value) (A : Around) (l : List Env) (t : Shared) (H : Hp) (E : XK), Room k (A.deeper (envOfC qual (defScope st) t.heap.objs.size f cdv)) → A.guards = some [] → GSs (bodyCx P w K mg base N qual st f cdv A l t H E) (bodyCt K mg E) (defBody st) body) :
    FnG P w K mg base (k + 1) f fd ps (spF (ct0 K mg) ps.length (runF N.length body)) := by
  obtain ⟨oc, od, kV, doc, pm, an, cdv, ct, osl, rfl, lk, hcd⟩ := F.ex
  refine ⟨fun vs H Q E h => h.1, fun A l t H args us vs Q E room gu e0 bnd rel q => ?_⟩
  have hvl := q.1
  have inK : K.In t.heap := e0.mod.kin.keeps fun b o e => (e0.bs b o e).1
  have nolim : t.heap.NoLimit := e0.mod.nolimit.keeps fun b o e => (e0.bs b o e).1
  refine codeAny_call_function room.depth (inK _ _ lk) rfl Sc.co Sc.gen rfl (PySem.W.codeRec_of inK hcd) (bnd _ _ _ _ ?_)
  refine wpAny_newFunctionEnv_cells Sc.kind (fun y hy => ?_) fun env he s1 ic => ?_
  · obtain ⟨n, v⟩ := y
    rcases Sc.par n (List.of_mem_zip hy).1 with z | z
    · exact Or.inl z
    · exact Or.inr ⟨z, PySem.W.cellsFrom_some _ _ _ (.inl z)⟩
  subst he
  refine ⟨nolim.keeps ic.toInCall.keep, codeAny_func ?_⟩
  have I : Inv (bodyCx P w K mg base N qual st f cdv A l t H E) [] (L2.start N vs) H s1 := inv_start Sc room.hd e0 hvl rel ic
  obtain ⟨_, U, ss, hh, sit, q⟩ := q
  have hl : vs.length = ss.length := by have := sit.len; simpa [slots, words] using this
  have hpl : vs.length ≤ N.length := by
    have z := congrArg List.length Sc.pre
    rw [List.length_take] at z
    omega
  obtain ⟨st0, own⟩ := start_sit sit hl hpl
  have fin : ∀ {σ' : St} {H' : Hp} {v : V} {u : Value} {s' : Shared}, Inv (bodyCx P w K mg base N qual st f cdv A l t H E) [] σ' H' s' → RelV v u → Q v H' → CE l P w H t Q u s' :=
    fun {σ' H' v u s'} J r z => ⟨v, H', J.os, J.bare, J.base, J.hok, r, z⟩
  have want : tS (bodyCt K mg E) body { nx := fun _ H' => Q .non H', rt := Q } (L2.start N vs) H := by
    refine ⟨U, startR N.length ss, Sit.cast (C := ct0 K mg) (C' := bodyCt K mg E) rfl st0, ?_⟩
    unfold runF at q
    have val : ∀ {s : S} {v : V} {σ' : St} {H' : Hp} {U' : Addr → Prop} {r' : Rho}, (match (FR.ok s (outsL ss r')) with
        | .ok s outs => ∀ v H' U', Sit (ct0 K mg) U' H' (slots vs) (words outs) → Aft U H (slots vs) (words ss) U' H' (slots vs) (words outs) → OpOk (ct0 K mg) U' H' (slots vs) (words outs) (.val s) v → New H (.val s) v → Q v H'
        | .ex c fs outs => ∀ cls d H' U', Sit (ct0 K mg) U' H' (slots vs) (words outs) → Aft U H (slots vs) (words ss) U' H' (slots vs) (words outs) → XRp (ct0 K mg) (Wn U' (slots vs) (words outs)) c fs cls d H' → E cls d H'
        | .st => False) → Sit (bodyCt K mg E) U' H' σ' r' → Aft U H (L2.start N vs) (startR N.length ss) U' H' σ' r' → OpOk (bodyCt K mg E) U' H' σ' r' (.val s) v → NewO H (L2.start N vs) (startR N.length ss) s v → Q v H' := fun {s v σ' H' U' r'} z s' a' k n => by
      obtain ⟨U2, s2, a2, w2, u2⟩ := end_sit sit hl hpl hh (Sit.cast (C := bodyCt K mg E) (C' := ct0 K mg) rfl s') a'
      refine z v H' U2 s2 a2 ⟨k.1.less w2 (fun p z1 z2 => by have := k.2.2; rw [lkd_hard z1] at this; cases this), fun p z1 z2 => u2 p (k.2.1 p z1 z2), k.2.2⟩ fun t p z1 z2 z3 => ?_
      cases z1
      rcases n p z2 z3 with z | z
      · -- an argument's own thing is not handed back
        have z := (own p).mp z
        obtain ⟨i, t, h1, h2, h3⟩ := z
        have hd := hh t (List.mem_of_getElem? (words_at.mp h1)) h2
        obtain ⟨t', g1, g2, g3⟩ := a'.pin i t (by unfold startR; rw [List.getElem?_append_left (lt_of_at h1)]; exact h1) hd
        have ho : t'.own = true := by
          cases t <;> simp [S.hard] at hd <;> simp [S.own] at h2 <;> simp [Sl] at g2 <;> (obtain ⟨_, rfl⟩ := g2; rfl)
        have e3 : (L2.start N vs)[i]? = some (some (V.ref p)) := by
          unfold L2.start
          rw [List.getElem?_append_left (lt_of_at h3)]; exact h3
        exact (s'.dis p ⟨i, t', g1, ho, by rw [g3]; exact e3⟩ (k.2.1 p z2 z3)).elim
      · exact z
    cases e : body (startR N.length ss) with
    | st => rw [e] at q; exact q
    | bk r' => rw [e] at q; exact (show False from q).elim
    | ct r' => rw [e] at q; exact (show False from q).elim
    | nx r' =>
      rw [e] at q
      exact fun σ' H' U' s' a' => val (s := .fz .non) (v := .non) q s' a' ⟨.fz .non, fun p z => (nomatch z), rfl⟩ fun p z => (nomatch z)
    | rt s r' =>
      rw [e] at q
      exact fun v σ' H' U' s' a' k n => val q s' a' k n
    | ex c fs r' =>
      rw [e] at q
      intro cls d σ' H' U' s' a' x
      obtain ⟨U2, s2, a2, w2, u2⟩ := end_sit sit hl hpl hh (Sit.cast (C := bodyCt K mg E) (C' := ct0 K mg) rfl s') a'
      obtain ⟨b, dx, fv, e1, e2, e3, e4, e5⟩ := x
      exact q cls d H' U2 s2 a2 ⟨b, dx, fv, e1, e2, e3, e4, e5.less w2⟩
  refine wpAny_mono ((hb cdv A l t H E (room.deeper _) gu).run [] s1 (L2.start N vs) H _ I want) (fun fl s' z => ?_) fun e s' z => z
  cases fl with
  | next => obtain ⟨σ', H', J, z⟩ := z; exact fin (v := V.non) (u := Value.none) J rfl z
  | ret u => obtain ⟨v, σ', H', J, r, z⟩ := z; exact fin J r z
  | brk => obtain ⟨_, _, _, z⟩ := z; exact z.elim
  | cont => obtain ⟨_, _, _, z⟩ := z; exact z.elim
end

/-! ### a call by a name of the module -/
section
variable {X : Cx} {C : Ct} {k n : Nat} {f : Addr} {fd : FuncData} {ps : List Str} {x : Str} {p pos : Pos} {e : Expr} {es : List Expr} {F : Fs} {fa : Rho → Rs (List Opd)}
theorem spF_cast {C C' : Ct} (h : C.K = C'.K) (h' : C.mg = C'.mg) {n : Nat} {F : Fs} {vs : List V} {H : Hp} {Q : VK} {E : XK} (q : spF C n F vs H Q E) : spF C' n F vs H Q E := by
  obtain ⟨l, U, ss, hh, s, q⟩ := q
  refine ⟨l, U, ss, hh, s.cast h, ?_⟩
  cases e : F ss with
  | st => rw [e] at q; exact q
  | ok s outs =>
    rw [e] at q
    intro v H' U' s' a' k n
    refine q v H' U' (s'.cast h.symm) a' ?_ n
    unfold OpOk at k ⊢
    rw [h]; exact k
  | ex c fs outs =>
    rw [e] at q
    intro cls d H' U' s' a' x
    refine q cls d H' U' (s'.cast h.symm) a' ?_
    unfold XRp at x ⊢
    rw [h, h']; exact x
theorem run_def {pins : List (Addr × Obj)} {σ : St} {H : Hp} {t : Shared} {Q : VK} {us : List Value} {vs : List V} {sp : Sp} {E : XK} {W : WX} (G : FnG X.prog X.w X.K X.mg X.base k f fd ps sp) (hr : Room k X.A) (gu : X.A.guards = some []) (hb : Binds X.K fd ps []) (tk : Takes X W) (hE : ∀ cls d H', E cls d H' → W cls d σ H')
    (I : Inv X pins σ H t) (r : Vals vs us) (h : sp vs H Q E) : wpAny (model X.prog X.w) X.A (call (.ref f) us) (EP X pins σ Q) X.xe t := by
  have le : us.length = ps.length := by rw [← r.length]; exact G.len _ _ _ _ h
  have bnd := hb t us I.kIn (by rw [List.append_nil]; exact le)
  rw [List.append_nil] at bnd
  refine wpAny_call (codeAny_mono (G.go X.A X.stack t H ⟨us, []⟩ us vs Q E hr gu I.env0 bnd r h) fun res t' z => ?_)
  cases res with
  | error ex => exact tk ex t' (XE.of_call I (fun cls d H' q => hE cls d H' q) z)
  | ok fl =>
    cases fl with
    | ret u => exact I.after z
    | next => exact z.elim
    | brk => exact z.elim
    | cont => exact z.elim
/-- f(e, ..) -/
theorem ge_callF (G : FnG X.prog X.w X.K X.mg X.base k f fd ps (spF (ct0 X.K X.mg) n F)) (hr : Room k X.A) (gu : X.A.guards = some []) (hg : Gl X x) (hm : X.mg x = some (.ref f)) (hk : PySem.W.keepIn X.K (.ref f) = true) (hb : Binds X.K fd ps [])
    (tk : Takes X C.W) (ha : GA X C (e :: es) fa) (ar : Ar fa n) (hK : C.K = X.K := by rfl) (hM : C.mg = X.mg := by rfl) (hdb : (x == ("__debug__" : Str)) = false := by decide)
    (he : starEach (e :: es) X.env = (false, eval e X.env) :: starEach es X.env := by rfl) (hpl : (backTo pos (starEach es X.env)).any (·.1) = false := by rfl) : GE X C (.Call (.Name x p) (e :: es) [] pos) (eFn F fa) := by
  refine ⟨fun pins t σ H Q I h => ?_⟩
  have h := fn_reading (E := fun cls d H2 => C.W cls d σ H2) ar (fun _ _ _ z => z) h
  refine wpAny_Call_Name_kw (ld_glob I hg hm ?_ hdb)
  refine PySem.W.callWith_K (h₀ := X.base) I.ok.mod.kin hk (thn (ha.run pos pins t σ H _ I h) fun us t1 ⟨vs, H1, I1, r, q⟩ => ⟨I1.kIn, ?_⟩) he hpl
  have q : spF C n F (vs ++ []) H1 Q (fun cls d H2 => C.W cls d σ H2) := q
  rw [List.append_nil] at q
  exact run_def G hr gu hb tk (fun _ _ _ z => z) I1 r (spF_cast hK hM q)
/-- f() -/
theorem ge_callF0 (G : FnG X.prog X.w X.K X.mg X.base k f fd ps (spF (ct0 X.K X.mg) 0 F)) (hr : Room k X.A) (gu : X.A.guards = some []) (hg : Gl X x) (hm : X.mg x = some (.ref f)) (hk : PySem.W.keepIn X.K (.ref f) = true) (hb : Binds X.K fd ps [])
    (tk : Takes X C.W) (hK : C.K = X.K := by rfl) (hM : C.mg = X.mg := by rfl) (hdb : (x == ("__debug__" : Str)) = false := by decide) : GE X C (.Call (.Name x p) [] [] pos) (eFn F eNil) := by
  refine ⟨fun pins t σ H Q I h => ?_⟩
  have h := fn_reading (E := fun cls d H2 => C.W cls d σ H2) ar_nil (fun _ _ _ z => z) h
  refine wpAny_Call_Name_kw (ld_glob I hg hm ?_ hdb)
  obtain ⟨U, r, s, h⟩ := h
  have h : spF C 0 F ([] ++ []) H Q (fun cls d H2 => C.W cls d σ H2) := h [] H U s Aft.refl Per.refl .nil .nil
  exact PySem.W.callWith_K0 I.kIn hk (run_def (us := []) G hr gu hb tk (fun _ _ _ z => z) I .nil (spF_cast hK hM h))
end
/-- a def's function may be told otherwise, where it says less -/
theorem spF_less {C : Ct} {n : Nat} {F G : Fs} (h : ∀ ss, G ss = .st ∨ F ss = G ss) {vs : List V} {H : Hp} {Q : VK} {E : XK} (q : spF C n G vs H Q E) : spF C n F vs H Q E := by
  obtain ⟨l, U, ss, hh, s, q⟩ := q
  refine ⟨l, U, ss, hh, s, ?_⟩
  rcases h ss with z | z
  · rw [z] at q; exact q.elim
  · rw [z]; exact q
theorem FnG.told {P : Program} {w : World} {K : PySem.W.Frag} {mg : Str → Option Value} {base : Heap} {C : Ct} {k n : Nat} {f : Addr} {fd : FuncData} {ps : List Str} {F G : Fs} (x : FnG P w K mg base k f fd ps (spF C n F)) (h : ∀ ss, G ss = .st ∨ F ss = G ss) : FnG P w K mg base k f fd ps (spF C n G) :=
  x.weak fun _ _ _ _ q => spF_less h q
end GB

/-! the law's own end -/
namespace GB
open PySem PySem.Spec PyProof.Rows L2
theorem scr_of {K : PySem.W.Frag} {H : Hp} {a : Addr} {xs : List V} (hO : Only H) (h : SqL K H a xs) : Scr K H a xs := by
  rcases h with (h | ⟨o, h⟩) | h
  · rcases hO a with z | ⟨_, _, z⟩ <;> (rw [h] at z; cases z)
  · exact .inl ⟨o, h⟩
  · exact .inr h
theorem ints_rps {K : PySem.W.Frag} {W : Addr → Prop} {H : Hp} : ∀ ns : List Int, Rps K W H (ns.map V.int) (ns.map D.int)
  | [] => .nil
  | n :: ns => .cons (.int n) (ints_rps ns)
/-- the law's def, at the heap behind the top -/
theorem law_run {P : Program} {w : World} {K : PySem.W.Frag} {mg mb : Str → Option Value} {k : Nat} {fa a : Addr} {fd : FuncData} {x : Str} {t : Shared} {us : List Value} {ns : List Int} {F : Fs}
    (KX : K.In t.heap) (gl : t.heap.Ns mainGlobals mg) (bl : t.heap.Ns builtinsNs mb) (bb : ∀ y : Str, y ≠ "__name__" → mb y = bootBuiltins y) (nl : t.heap.NoLimit) (ge : t.gens = #[])
    (at' : t.heap.get? a = some { cls := .type "list", data := .seq us.toArray }) (hi : IntsAre us ns) (sz : ns.length ≤ sizeLine) (room : Room k callerA)
    (G : ∀ base : Heap, K.In base → base.Ns mainGlobals mg → FnG P w K mg base k fa fd [x] (spF (ct0 K mg) 1 F)) (bd : ∀ (s : Shared) (u : Value), BindsTo s fd ⟨[u], []⟩ [(x, u)])
    (hF : F [.fz (.scr (ns.map D.int))] = .ok (.fz (.bl true)) [.fz (.scr (ns.map D.int))]) :
    codeAny (model P w) callerA (.call (.ref fa) ⟨[.ref a], []⟩) (fun r s' => r = .ok (.ret (.bool true)) ∧ OldK t.heap s'.heap ∧ s'.os = t.os ∧ AllBare s'.gens) t := by
  have rel := vals_ints hi
  have le := hi.length
  have main : ∀ H : Hp, Only H → SqL K H a (ns.map V.int) → HOk P w H t.heap → (∀ b, H b ≠ none → b = a ∧ K.lookup a = none) → codeAny (model P w) callerA (.call (.ref fa) ⟨[.ref a], []⟩) (fun r s' => r = .ok (.ret (.bool true)) ∧ OldK t.heap s'.heap ∧ s'.os = t.os ∧ AllBare s'.gens) t := by
    intro H only seq hok lone
    have other : ∀ {b : Addr} {o : Obj}, t.heap.get? b = some o → (∀ z : o = { cls := .type "list", data := .seq us.toArray }, b ≠ a) → (hidT t.heap H).get? b = some o := fun {b o} e n => by
      refine hidT_get e ?_
      cases q : H b with
      | none => rfl
      | some u =>
        obtain ⟨z, _⟩ := lone b (by rw [q]; simp)
        have e2 := e
        rw [z, at'] at e2
        exact absurd z (n (Option.some.inj e2).symm)
    have ns' : ∀ {b : Addr} {m : Str → Option Value}, t.heap.Ns b m → (hidT t.heap H).Ns b m := by
      rintro b m ⟨o, es, ep, e, d, r⟩
      refine ⟨o, es, ep, other e (fun z => ?_), d, r⟩
      rw [z] at d; cases d
    have inB : K.In (hidT t.heap H) := fun b o e => by
      refine hidT_get (KX b o e) ?_
      cases q : H b with
      | none => rfl
      | some u =>
        obtain ⟨z1, z2⟩ := lone b (by rw [q]; simp)
        rw [z1, z2] at e; cases e
    have md : Mod K mg (hidT t.heap H) := { kin := inB, glob := ns' gl, blt := ⟨mb, ns' bl, bb⟩, nolimit := let ⟨mc, h1, h2⟩ := nl; ⟨mc, ns' h1, h2⟩ }
    have none_in : ∀ b : Addr, b ∉ frs ([] : List Env) := fun b z => by simp [frs] at z
    have ev : Env0 P w K mg (hidT t.heap H) callerA [] t H := { frames := rfl, mod := md, bs := fun b o e => of_hidT e, bsz := Nat.le_of_eq (hidT_size _ _), funs := trivial, frf := fun b hb => absurd hb (none_in b), hok := hok, bare := .of_eq ge }
    have lvn : ∀ b, ¬ Lv H b := fun b z => by
      rcases only b with q | ⟨_, _, q⟩ <;> (rcases z with ⟨_, z⟩ | ⟨_, z⟩ <;> (rw [q] at z; cases z))
    have sit : Sit (ct0 K mg) (fun _ => False) H (slots [V.ref a]) (words [.fz (.scr (ns.map D.int))]) := by
      have noOwn : ∀ b, ¬ Own (slots [V.ref a]) (words [.fz (.scr (ns.map D.int))]) b := by
        rintro b ⟨i, s, h1, h2, _⟩
        match i, h1 with
        | 0, h1 => cases h1; cases h2
        | i + 1, h1 => simp [words] at h1
      refine ⟨rfl, fun i s h => ?_, fun i j s u v h1 q1 => ?_, fun b h => (noOwn b h).elim, fun b z => z.elim⟩
      · match i, h with
        | 0, h => cases h; exact ⟨_, rfl, .fz (.scr (scr_of only seq) (ints_rps ns))⟩
        | i + 1, h => simp [words] at h
      · match i, h1 with
        | 0, h1 => cases h1; cases q1
        | i + 1, h1 => simp [words] at h1
    have promise : spF (ct0 K mg) 1 F [V.ref a] H (fun v _ => v = .bl true) fun _ _ _ => False := by
      refine ⟨rfl, _, [.fz (.scr (ns.map D.int))], fun s hs ho => ?_, sit, ?_⟩
      · rw [List.mem_singleton.mp hs] at ho; cases ho
      · rw [hF]
        intro v H' U' s' a' k n
        cases k.1 with | fz x => cases x; rfl
    refine codeAny_mono ((G _ inB (ns' gl)).go callerA [] t H ⟨[.ref a], []⟩ [.ref a] [.ref a] _ _ room rfl ev (bd t (.ref a)) (.cons rfl .nil) promise) fun r s' h => ?_
    cases r with
    | error e =>
      obtain ⟨_, _, _, _, _, _, _, _, _, _, _, _, z⟩ := h
      exact z.elim
    | ok fl =>
      cases fl with
      | next => exact h.elim
      | brk => exact h.elim
      | cont => exact h.elim
      | ret u =>
        obtain ⟨v, H', os, bare, un, hok', r', q⟩ := h
        have q : v = .bl true := q
        subst q
        have r' : u = Value.bool true := r'
        refine ⟨by rw [r'], OldK.of_keep fun b o e => ?_, os, bare⟩
        rcases only b with z | ⟨ob, xs, z⟩
        · exact un.keep b o e z (none_in b) (by simp)
        · obtain ⟨e1, _⟩ := hok b _ z
          obtain ⟨e2, _⟩ := hok' b _ (un.frzs b ob _ z)
          rw [e] at e1
          rw [Option.some.inj e1]; exact e2
  cases hk : K.lookup a with
  | some o =>
    have e := KX a o hk
    rw [at'] at e
    have e := Option.some.inj e
    subst e
    refine main (fun _ => none) (fun _ => .inl rfl) (.inr ⟨_, us.toArray, _, hk, rfl, rfl, rfl, ?_, by simpa using rel⟩) (fun b u z => ?_) fun b z => absurd rfl z
    · rw [List.size_toArray, le]; exact sz
    · exact nomatch (show (none : Option HO) = some u from z)
  | none =>
    let H0 : Hp := fun b => if b = a then some (.frz { cls := .type "list", data := .seq us.toArray } (.lst (ns.map V.int))) else none
    have ya : H0 a = some (.frz { cls := .type "list", data := .seq us.toArray } (.lst (ns.map V.int))) := if_pos rfl
    have na : ∀ b, b ≠ a → H0 b = none := fun b h => if_neg h
    refine main H0 (fun b => ?_) (.inl (.inr ⟨_, ya⟩)) (fun b u z => ?_) fun b z => ⟨Classical.byContradiction fun n => z (na b n), hk⟩
    · by_cases hb : b = a
      · subst hb; exact .inr ⟨_, _, ya⟩
      · exact .inl (na b hb)
    · by_cases hb : b = a
      · subst hb
        rw [ya] at z
        have z := Option.some.inj z
        subst z
        exact ⟨at', by rw [List.length_map]; exact sz, us, _, rel, at'⟩
      · rw [na b hb] at z; cases z
/-- the goal that k_head leaves -/
theorem law_walk {l : PySem.W.OpenLaw} {n k : Nat} {q : Program} {loose : List Str} {XP : (Str → Option Value) → Heap → Prop} {YP : World → Heap → Prop} {d : DefRec} {K : Params → PySem.W.Frag} {x : Str} {F : Fs}
    (h1 : l.most = some n) (h2 : n ≤ sizeLine) (h3 : d.params.defaults = []) (room : Room k callerA) (hY : ∀ (w : World) (h : Heap), YP w h → (K w.params).In h)
    (G : ∀ (w : World) (mg : Str → Option Value) (fa : Addr) (h : Heap), (K w.params).In h → h.Ns mainGlobals mg → mg d.name = some (.ref fa) → ∃ fd : FuncData, (∀ (s : Shared) (u : Value), BindsTo s fd ⟨[u], []⟩ [(x, u)]) ∧
        ∀ base : Heap, (K w.params).In base → base.Ns mainGlobals mg → FnG l.prog w (K w.params) mg base k fa fd [x] (spF (ct0 (K w.params) mg) 1 F))
    (hF : ∀ ns : List Int, ns.length ≤ n → F [.fz (.scr (ns.map D.int))] = .ok (.fz (.bl true)) [.fz (.scr (ns.map D.int))]) :
    PySem.W.WalkO q loose XP YP l.row.toRowW d [] (fun f vs => PySem.call f vs) := by
  refine Att.attach_call h1 h3 ?_
  intro w s₀ t mg mb fa o pm cd doc a us ns gr Y _ _ _ hm at' hi le ge
  obtain ⟨fd, bd, H⟩ := G w mg fa t.heap (hY w _ Y) gr.T.g hm
  exact law_run (hY w _ Y) gr.T.g gr.T.b gr.T.builtins gr.T.nolimit ge at' hi (Nat.le_trans le h2) room H bd (hF ns le)
end GB

/-! what built-ins do, on words -/
namespace GB
open PySem PySem.Spec PyProof.Rows L2

def p1 (f : S → Option S) : Pr := fun ss => match ss with | [a] => f a | _ => none
def p2 (f : S → S → Option S) : Pr := fun ss => match ss with | [a, b] => f a b | _ => none
def p3 (f : S → S → S → Option S) : Pr := fun ss => match ss with | [a, b, c] => f a b c | _ => none
section
variable {C : Ct}
theorem pn1 {rr : V → Hp → VK → Prop} {f : S → Option S} (h : ∀ (U W : Addr → Prop) (H : Hp) (x : V) (a s : S) (Q : VK), (∀ a, W a → Lv H a) → SR C.K U W H x a → f a = some s → (∀ v H', Got C.K W H s v H' → Q v H') → rr x H Q) :
    PN C (fun vs H Q => ∃ x, vs = [x] ∧ rr x H Q) (p1 f) := by
  intro U W H vs ss s Q lv hs hp q
  match ss, hs, hp with
  | [a], .cons x .nil, hp => exact ⟨_, rfl, h U W H _ a s Q lv x hp q⟩
theorem pn2 {rr : R2} {f : S → S → Option S} (h : ∀ (U W : Addr → Prop) (H : Hp) (x y : V) (a b s : S) (Q : VK), (∀ a, W a → Lv H a) → SR C.K U W H x a → SR C.K U W H y b → f a b = some s → (∀ v H', Got C.K W H s v H' → Q v H') → rr x y H Q) :
    PN C (fun vs H Q => ∃ x y, vs = [x, y] ∧ rr x y H Q) (p2 f) := by
  intro U W H vs ss s Q lv hs hp q
  match ss, hs, hp with
  | [a, b], .cons x (.cons y .nil), hp => exact ⟨_, _, rfl, h U W H _ _ a b s Q lv x y hp q⟩
/-- a receiver and one argument -/
theorem pnm1 {rr : V → List V → Hp → VK → Prop} {f : S → S → Option S} (h : ∀ (U W : Addr → Prop) (H : Hp) (x y : V) (a b s : S) (Q : VK), (∀ a, W a → Lv H a) → SR C.K U W H x a → SR C.K U W H y b → f a b = some s → (∀ v H', Got C.K W H s v H' → Q v H') → rr x [y] H Q) :
    PN C (fun vs H Q => ∃ x xs, vs = x :: xs ∧ rr x xs H Q) (p2 f) := by
  intro U W H vs ss s Q lv hs hp q
  match ss, hs, hp with
  | [a, b], .cons x (.cons y .nil), hp => exact ⟨_, _, rfl, h U W H _ _ a b s Q lv x y hp q⟩
theorem pnm0 {rr : V → List V → Hp → VK → Prop} {f : S → Option S} (h : ∀ (U W : Addr → Prop) (H : Hp) (x : V) (a s : S) (Q : VK), (∀ a, W a → Lv H a) → SR C.K U W H x a → f a = some s → (∀ v H', Got C.K W H s v H' → Q v H') → rr x [] H Q) :
    PN C (fun vs H Q => ∃ x xs, vs = x :: xs ∧ rr x xs H Q) (p1 f) := by
  intro U W H vs ss s Q lv hs hp q
  match ss, hs, hp with
  | [a], .cons x .nil, hp => exact ⟨_, _, rfl, h U W H _ a s Q lv x hp q⟩

/-! ### views -/
def asL : S → Option (List D)
  | .fz (.lst ds) => some ds | .ol ds => some ds | .br ds => some ds | .lk ds => some ds | _ => none
/-- lists, the script too -/
def asLs : S → Option (List D)
  | .fz (.scr ds) => some ds
  | s => asL s
variable {K : PySem.W.Frag} {U W : Addr → Prop} {H : Hp} {v : V} {s : S}
theorem asL_of (x : SR K U W H v s) {ds : List D} (h : asL s = some ds) : ∃ p xs, v = .ref p ∧ H p = some (.lst xs) ∧ Rps K W H xs ds := by
  cases x with
  | fz x => cases x <;> first | (cases h; done) | (cases h; exact ⟨_, _, rfl, by assumption, by assumption⟩)
  | ol e x => cases h; exact ⟨_, _, rfl, e, x⟩
  | br e x => cases h; exact ⟨_, _, rfl, e, x⟩
  | lk e u x => cases h; exact ⟨_, _, rfl, e, x⟩
  | _ => cases h
theorem asLs_of (x : SR K U W H v s) {ds : List D} (h : asLs s = some ds) : ∃ p xs, v = .ref p ∧ SqL K H p xs ∧ Rps K W H xs ds := by
  by_cases hs : ∃ d, s = .fz (.scr d)
  · obtain ⟨d, rfl⟩ := hs
    cases h
    cases x with | fz x => cases x with | scr e x => exact ⟨_, _, rfl, e.seq, x⟩
  · have h' : asL s = some ds := by
      cases s with
      | fz d => cases d <;> first | exact h | exact absurd ⟨_, rfl⟩ hs
      | _ => exact h
    obtain ⟨p, xs, e1, e2, e3⟩ := asL_of x h'
    exact ⟨p, xs, e1, .of e2, e3⟩
theorem rps_append : ∀ {xs ys : List V} {ds es : List D}, Rps K W H xs ds → Rps K W H ys es → Rps K W H (xs ++ ys) (ds ++ es)
  | _, _, _, _, .nil, h => h
  | _, _, _, _, .cons x t, h => .cons x (rps_append t h)
theorem rps_take : ∀ {xs : List V} {ds : List D} (n : Nat), Rps K W H xs ds → Rps K W H (xs.take n) (ds.take n)
  | _, _, 0, _ => .nil
  | _, _, _ + 1, .nil => .nil
  | _, _, n + 1, .cons x t => .cons x (rps_take n t)
theorem rps_drop : ∀ {xs : List V} {ds : List D} (n : Nat), Rps K W H xs ds → Rps K W H (xs.drop n) (ds.drop n)
  | _, _, 0, h => h
  | _, _, _ + 1, .nil => .nil
  | _, _, n + 1, .cons x t => rps_drop n t
theorem rps_at : ∀ {xs : List V} {ds : List D} {n : Nat} {d : D}, Rps K W H xs ds → ds[n]? = some d → ∃ x, xs[n]? = some x ∧ Rp K W H x d
  | _, _, _, _, .nil, h => by simp at h
  | _, _, 0, _, .cons x t, h => by cases h; exact ⟨_, rfl, x⟩
  | _, _, n + 1, _, .cons x t, h => by
    obtain ⟨y, e, z⟩ := rps_at (n := n) t (by simpa using h)
    exact ⟨y, by simpa using e, z⟩
theorem rps_set : ∀ {xs : List V} {ds : List D} {v : V} {d : D} (n : Nat), Rps K W H xs ds → Rp K W H v d → Rps K W H (xs.set n v) (ds.set n d)
  | _, _, _, _, _, .nil, _ => .nil
  | _, _, _, _, 0, .cons _ t, h => .cons h t
  | _, _, _, _, n + 1, .cons x t, h => .cons x (rps_set n t h)
theorem rps_rep {xs : List V} {ds : List D} (h : Rps K W H xs ds) : ∀ n, Rps K W H (List.replicate n xs).flatten (List.replicate n ds).flatten
  | 0 => .nil
  | n + 1 => by rw [List.replicate_succ, List.replicate_succ]; exact rps_append h (rps_rep h n)

/-! ### operators -/
def big (n : Nat) : Bool := decide (n ≤ 16777216)
theorem big_le {n : Nat} (h : big n = true) : n ≤ sizeLine := by rw [sizeLine_eq]; exact of_decide_eq_true h
def fAdd : S → S → Option S
  | .fz (.int i), .fz (.int j) => some (.fz (.int (i + j)))
  | .fz (.str a), .fz (.str b) => if big (a.length + b.length) then some (.fz (.str (a ++ b))) else none
  | .fz (.tup a), .fz (.tup b) => if a.isEmpty then some (.fz (.tup b)) else if big (a.length + b.length) then some (.fz (.tup (a ++ b))) else none
  | a, b => match asL a, asL b with
    | some x, some y => if big (x.length + y.length) then some (.ol (x ++ y)) else none
    | _, _ => none
/-- () + u is u itself -/
def rCat0 (K : PySem.W.Frag) : R2 := fun x y H Q => ∃ a b ys, x = .ref a ∧ y = .ref b ∧ SqT K H a [] ∧ SqT K H b ys ∧ Q (.ref b) H
theorem op_cat0 {X : Cx} : OpR X (binaryOp .Add) (rCat0 X.K) := by
  intro pins s σ H x y v u Q I rx ry h
  obtain ⟨a, b, ys, rfl, rfl, ha, hb, q⟩ := h
  cases rx
  cases ry
  obtain ⟨l1, w1, k1, _⟩ := I.tuple ha
  obtain ⟨l2, w2, k2, _⟩ := I.tuple hb
  cases w1
  obtain ⟨⟨c1, d1, t1, z1⟩, g1, f1, n1, m1⟩ := id k1
  obtain ⟨⟨c2, d2, t2, z2⟩, g2, f2, n2, m2⟩ := id k2
  simp only at f1 m1 f2 m2
  subst f1 m1 f2 m2
  exact concat_meets ⟨_, g1, rfl⟩ ⟨_, g2, rfl⟩ noFill_tuple_add seq_tuple_add PySem.F.slot_tuple_add PySem.F.entry_tuple_add (PySem.F.args_tuple_add_2 _ _) (tuple_addW0 a b _ l2.toArray n1 n2 d1 d2 z1 z2 rfl) ⟨g1, g2, ⟨.ref b, H, I, rfl, q⟩⟩
def rAddU (K : PySem.W.Frag) : R2 := fun x y H Q => rI0 (fun i j => .int (i + j)) x y H Q ∨ (∃ i j, x = .str i ∧ y = .str j ∧ i.length + j.length ≤ sizeLine ∧ Q (.str (i ++ j)) H) ∨ (rCatT K x y H Q ∨ rCat0 K x y H Q) ∨ rCat x y H Q
theorem op_addU {X : Cx} : OpR X (binaryOp .Add) (rAddU X.K) := op_add.or (op_add_str.or ((op_catT.or op_cat0).or op_cat))
theorem str_len (l : List Nat) : (⟨l.toArray⟩ : Str).length = l.length := by simp [Str.length]
theorem str_app (a b : List Nat) : (⟨a.toArray⟩ : Str) ++ ⟨b.toArray⟩ = ⟨(a ++ b).toArray⟩ := by
  show Str.mk _ = _
  simp
theorem emp_false {α : Type} {l : List α} (h : (!l.isEmpty) = true) : l ≠ [] := by cases l <;> simp_all
theorem pn_add : PN C (fun vs H Q => ∃ x y, vs = [x, y] ∧ rAddU C.K x y H Q) (p2 fAdd) := by
  refine pn2 fun U W H x y a b s Q lv xa xb h q => ?_
  have lists : (match asL a, asL b with
      | some x, some y => if big (x.length + y.length) then some (S.ol (x ++ y)) else none
      | _, _ => none) = some s → rCat x y H Q := fun h => by
    cases e1 : asL a with
    | none => rw [e1] at h; cases h
    | some da =>
      cases e2 : asL b with
      | none => rw [e1, e2] at h; cases h
      | some db =>
        rw [e1, e2] at h
        dsimp only at h
        by_cases hb : big (da.length + db.length) = true
        · rw [if_pos hb] at h; cases h
          obtain ⟨p, xs, rfl, hp, hx⟩ := asL_of xa e1
          obtain ⟨p', ys, rfl, hp', hy⟩ := asL_of xb e2
          refine ⟨p, p', xs, ys, rfl, rfl, hp, hp', by rw [hx.len, hy.len]; exact big_le hb, fun z hz => q _ _ ?_⟩
          exact Got.newL (C := C) lv hz (rps_append hx hy)
        · rw [if_neg hb] at h; cases h
  cases a with
  | fz a =>
    cases a with
    | int i =>
      cases b with
      | fz b =>
        cases b with
        | int j =>
          cases h
          cases xa with | fz xa => cases xa; cases xb with | fz xb => cases xb; exact .inl ⟨i, j, rfl, rfl, q _ _ (.same (.int _))⟩
        | _ => first | exact .inr (.inr (.inr (lists h))) | (cases h)
      | _ => exact .inr (.inr (.inr (lists h)))
    | str l =>
      cases b with
      | fz b =>
        cases b with
        | str m =>
          have h : (if big (l.length + m.length) then some (S.fz (.str (l ++ m))) else none) = some s := h
          by_cases hb : big (l.length + m.length) = true
          · rw [if_pos hb] at h; cases h
            cases xa with | fz xa => cases xa; cases xb with | fz xb => cases xb; exact .inr (.inl ⟨_, _, rfl, rfl, by rw [str_len, str_len]; exact big_le hb, by rw [str_app]; exact q _ _ (.same (.str _))⟩)
          · rw [if_neg hb] at h; cases h
        | _ => first | exact .inr (.inr (.inr (lists h))) | (cases h)
      | _ => exact .inr (.inr (.inr (lists h)))
    | tup l =>
      cases b with
      | fz b =>
        cases b with
        | tup m =>
          have h : (if l.isEmpty = true then some (S.fz (.tup m)) else if big (l.length + m.length) = true then some (S.fz (.tup (l ++ m))) else none) = some s := h
          cases xa with
          | fz xa =>
            cases xa with
            | @tup p xs _ ea ta =>
              cases xb with
              | fz xb =>
                cases xb with
                | @tup p' ys _ eb tb =>
                  by_cases he : l.isEmpty = true
                  · rw [if_pos he] at h; cases h
                    have : l = [] := List.isEmpty_iff.mp he
                    subst this
                    cases ta
                    exact .inr (.inr (.inl (.inr ⟨p, p', ys, rfl, rfl, ea, eb, q _ _ (.same (.tup eb tb))⟩)))
                  · rw [if_neg he] at h
                    by_cases hb : big (l.length + m.length) = true
                    · rw [if_pos hb] at h; cases h
                      refine .inr (.inr (.inl (.inl ⟨p, p', xs, ys, rfl, rfl, ea, eb, fun z => ?_, by rw [ta.len, tb.len]; exact big_le hb, fun z => ?_, fun _ z hz => ?_⟩)))
                      · subst z; cases ta; exact he rfl
                      · subst z; cases tb
                        rw [List.append_nil] at q
                        exact q _ _ (.same (.tup ea ta))
                      · exact q _ _ (Got.newT (C := C) lv hz (rps_append ta tb))
                    · rw [if_neg hb] at h; cases h
        | _ => first | exact .inr (.inr (.inr (lists h))) | (cases h)
      | _ => exact .inr (.inr (.inr (lists h)))
    | _ => exact .inr (.inr (.inr (lists h)))
  | _ => exact .inr (.inr (.inr (lists h)))
def fSub : S → S → Option S
  | .fz (.int i), .fz (.int j) => some (.fz (.int (i - j)))
  | _, _ => none
theorem sr_int {i : Int} (x : SR K U W H v (.fz (.int i))) : v = .int i := by cases x with | fz x => cases x; rfl
theorem sr_str {l : List Nat} (x : SR K U W H v (.fz (.str l))) : v = .str ⟨l.toArray⟩ := by cases x with | fz x => cases x; rfl
theorem sr_bl {b : Bool} (x : SR K U W H v (.fz (.bl b))) : v = .bl b := by cases x with | fz x => cases x; rfl
theorem sr_non (x : SR K U W H v (.fz .non)) : v = .non := by cases x with | fz x => cases x; rfl
/-- two ints: what a function of ints asks -/
def fInts (f : Int → Int → Option S) : S → S → Option S
  | .fz (.int i), .fz (.int j) => f i j
  | _, _ => none
theorem pn_ints {rr : R2} {f : Int → Int → Option S} (h : ∀ (W : Addr → Prop) (H : Hp) (i j : Int) (s : S) (Q : VK), f i j = some s → (∀ v H', Got C.K W H s v H' → Q v H') → rr (.int i) (.int j) H Q) : PN C (fun vs H Q => ∃ x y, vs = [x, y] ∧ rr x y H Q) (p2 (fInts f)) := by
  refine pn2 fun U W H x y a b s Q lv xa xb hf q => ?_
  cases a with
  | fz a =>
    cases a with
    | int i =>
      cases b with
      | fz b =>
        cases b with
        | int j => rw [sr_int xa, sr_int xb]; exact h W H i j s Q hf q
        | _ => cases hf
      | _ => cases hf
    | _ => cases hf
  | _ => cases hf
theorem pn_sub : PN C (fun vs H Q => ∃ x y, vs = [x, y] ∧ rI0 (fun i j => .int (i - j)) x y H Q) (p2 (fInts fun i j => some (.fz (.int (i - j))))) :=
  pn_ints fun W H i j s Q h q => by cases h; exact ⟨i, j, rfl, rfl, q _ _ (.same (.int _))⟩
def fModI (i j : Int) : Option S := if 0 < j then some (.fz (.int (i % j))) else none
theorem pn_mod : PN C (fun vs H Q => ∃ x y, vs = [x, y] ∧ rI (fun _ j => 0 < j) (fun i j => .int (i % j)) x y H Q) (p2 (fInts fModI)) :=
  pn_ints fun W H i j s Q h q => by
    unfold fModI at h
    by_cases z : 0 < j
    · rw [if_pos z] at h; cases h; exact ⟨i, j, rfl, rfl, z, q _ _ (.same (.int _))⟩
    · rw [if_neg z] at h; cases h
def fDivI (i j : Int) : Option S := if 0 < j ∧ j < 1073741824 then some (.fz (.int (i / j))) else none
theorem pn_div : PN C (fun vs H Q => ∃ x y, vs = [x, y] ∧ rI CDiv (fun i j => .int (i / j)) x y H Q) (p2 (fInts fDivI)) :=
  pn_ints fun W H i j s Q h q => by
    unfold fDivI at h
    by_cases z : 0 < j ∧ j < 1073741824
    · rw [if_pos z] at h; cases h; exact ⟨i, j, rfl, rfl, z, q _ _ (.same (.int _))⟩
    · rw [if_neg z] at h; cases h
def fPowI (i j : Int) : Option S := if 0 ≤ j ∧ j ≤ 1000000 ∧ i.natAbs < 2 ^ 64 then some (.fz (.int (i ^ j.toNat))) else none
theorem pn_pow : PN C (fun vs H Q => ∃ x y, vs = [x, y] ∧ rI CPow (fun i j => .int (i ^ j.toNat)) x y H Q) (p2 (fInts fPowI)) :=
  pn_ints fun W H i j s Q h q => by
    unfold fPowI at h
    by_cases z : 0 ≤ j ∧ j ≤ 1000000 ∧ i.natAbs < 2 ^ 64
    · rw [if_pos z] at h; cases h; exact ⟨i, j, rfl, rfl, z, q _ _ (.same (.int _))⟩
    · rw [if_neg z] at h; cases h
/-- ints; a list so many times -/
def fMul : S → S → Option S
  | .fz (.int i), .fz (.int j) => if (-(2 ^ 64) < i ∧ i < 2 ^ 64) ∨ (-(2 ^ 64) < j ∧ j < 2 ^ 64) then some (.fz (.int (i * j))) else none
  | a, .fz (.int k) => (match asL a with
    | some ds => if -(2 ^ 63) ≤ k ∧ k < 2 ^ 63 ∧ ds.length * k.toNat ≤ 16777216 then some (.ol (List.replicate k.toNat ds).flatten) else none
    | none => none)
  | _, _ => none
def rMulU : R2 := fun x y H Q => rI CMul (fun i j => .int (i * j)) x y H Q ∨ rRep x y H Q
theorem op_mulU {X : Cx} : OpR X (binaryOp .Mult) rMulU := op_mul.or op_rep
theorem pn_mul : PN C (fun vs H Q => ∃ x y, vs = [x, y] ∧ rMulU x y H Q) (p2 fMul) := by
  refine pn2 fun U W H x y a b s Q lv xa xb h q => ?_
  cases b with
  | fz b =>
    cases b with
    | int k =>
      rw [sr_int xb]
      by_cases ha : ∃ i, a = .fz (.int i)
      · obtain ⟨i, rfl⟩ := ha
        rw [sr_int xa]
        have h : (if (-(2 ^ 64) < i ∧ i < 2 ^ 64) ∨ (-(2 ^ 64) < k ∧ k < 2 ^ 64) then some (S.fz (.int (i * k))) else none) = some s := h
        by_cases z : (-(2 ^ 64) < i ∧ i < 2 ^ 64) ∨ (-(2 ^ 64) < k ∧ k < 2 ^ 64)
        · rw [if_pos z] at h; cases h; exact .inl ⟨i, k, rfl, rfl, z, q _ _ (.same (.int _))⟩
        · rw [if_neg z] at h; cases h
      · have h : (match asL a with
            | some ds => if -(2 ^ 63) ≤ k ∧ k < 2 ^ 63 ∧ ds.length * k.toNat ≤ 16777216 then some (S.ol (List.replicate k.toNat ds).flatten) else none
            | none => none) = some s := by
          cases a with
          | fz a => cases a <;> first | exact h | exact absurd ⟨_, rfl⟩ ha
          | _ => exact h
        cases e1 : asL a with
        | none => rw [e1] at h; cases h
        | some ds =>
          rw [e1] at h
          dsimp only at h
          by_cases z : -(2 ^ 63) ≤ k ∧ k < 2 ^ 63 ∧ ds.length * k.toNat ≤ 16777216
          · rw [if_pos z] at h; cases h
            obtain ⟨p, xs, rfl, hp, hx⟩ := asL_of xa e1
            refine .inr ⟨p, k, xs, rfl, rfl, hp, z.1, z.2.1, by rw [hx.len, sizeLine_eq]; exact z.2.2, fun l hl => q _ _ ?_⟩
            exact Got.newL (C := C) lv hl (rps_rep hx _)
          · rw [if_neg z] at h; cases h
    | _ => cases a <;> first | cases h | (rename_i d; cases d <;> cases h)
  | _ => cases a <;> first | cases h | (rename_i d; cases d <;> cases h)
def fNeg : S → Option S
  | .fz (.int i) => some (.fz (.int (-i)))
  | _ => none
theorem pn_neg : PN C (fun vs H Q => ∃ x, vs = [x] ∧ rU (fun i => .int (-i)) x H Q) (p1 fNeg) := by
  refine pn1 fun U W H x a s Q lv xa h q => ?_
  cases a with
  | fz a =>
    cases a with
    | int i => cases h; rw [sr_int xa]; exact ⟨i, rfl, q _ _ (.same (.int _))⟩
    | _ => cases h
  | _ => cases h
end
end GB

/-! comparisons, looks, built-in calls -/
namespace GB
open PySem PySem.Spec PyProof.Rows L2
section
variable {C : Ct} {K : PySem.W.Frag} {U W : Addr → Prop} {H : Hp} {v : V} {s : S}
/-! ### as plain data -/
mutual
def D.py : D → PyData
  | .non => .none
  | .bl b => .bool b
  | .int i => .int i
  | .str l => .str ⟨l.toArray⟩
  | .tup ds => .tuple (pyAll ds)
  | .lst ds => .list (pyAll ds)
  | .scr ds => .list (pyAll ds)
  | .dic _ _ => .dict []
def pyAll : List D → List PyData
  | [] => []
  | d :: ds => d.py :: pyAll ds
end
mutual
theorem Rp.dp : ∀ {v : V} {d : D}, Rp K W H v d → d.py.hasDict = false → Dp K H v d.py
  | _, _, .non, _ => .non
  | _, _, .bl b, _ => .bl b
  | _, _, .int i, _ => .int i
  | _, _, .str l, _ => .str _
  | _, _, .tup h t, q => .tup h (Rps.dp t (by rw [D.py, PyData.hasDict] at q; exact q))
  | _, _, .lst h n t, q => .lst (.of h) (Rps.dp t (by rw [D.py, PyData.hasDict] at q; exact q))
  | _, _, .scr h t, q => .lst h.seq (Rps.dp t (by rw [D.py, PyData.hasDict] at q; exact q))
  | _, _, .dic _ _ _ _, q => absurd q (by rw [D.py, PyData.hasDict]; exact Bool.noConfusion)
theorem Rps.dp : ∀ {v : List V} {d : List D}, Rps K W H v d → PyData.hasDictAll (pyAll d) = false → DpAll K H v (pyAll d)
  | _, _, .nil, _ => .nil
  | _, _, .cons h t, q => by
    rw [pyAll, PyData.hasDictAll, Bool.or_eq_false_iff] at q
    exact .cons (Rp.dp h q.1) (Rps.dp t q.2)
end
/-- a word as a tree -/
def S.tree : S → Option D
  | .fz d => some d
  | .ol ds => some (.lst ds) | .br ds => some (.lst ds) | .lk ds => some (.lst ds)
  | _ => none
theorem tree_dp (x : SR K U W H v s) {d : D} (h : s.tree = some d) (q : d.py.hasDict = false) : Dp K H v d.py := by
  have ql : ∀ ds, (D.lst ds).py.hasDict = false → PyData.hasDictAll (pyAll ds) = false := fun ds q => by rw [D.py, PyData.hasDict] at q; exact q
  cases x with
  | fz x => cases h; exact x.dp q
  | ol e x => cases h; exact .lst (.of e) (x.dp (ql _ q))
  | br e x => cases h; exact .lst (.of e) (x.dp (ql _ q))
  | lk e u x => cases h; exact .lst (.of e) (x.dp (ql _ q))
  | _ => cases h
/-- equal, as trees; told only where both may be compared -/
def D.same (a b : D) : Bool := PyData.eqv a.py b.py
def D.fit (d : D) : Bool := SeqAt.shaped d.py && !d.py.hasDict
def eqS : S → S → Option Bool
  | .fz (.int i), .fz (.int j) => some (decide (i = j))
  | .fz (.str a), .fz (.str b) => some (decide (a = b))
  | .fz (.bl a), .fz (.bl b) => some (decide (a = b))
  | a, b => match a.tree, b.tree with
    | some x, some y => if x.fit && y.fit then some (x.same y) else none
    | _, _ => none
def rEqU (K : PySem.W.Frag) : R2 := fun x y H Q => rEq x y H Q ∨ rEqD K x y H Q
def rNeU (K : PySem.W.Frag) : R2 := fun x y H Q => rNe x y H Q ∨ rNeD K x y H Q
theorem op_eqU {X : Cx} (hu : X.A.units + 64 < cLine) : OpR X (compareOp .Eq) (rEqU X.K) := op_eq.or (op_eqD hu)
theorem op_neU {X : Cx} (hu : X.A.units + 64 < cLine) : OpR X (compareOp .NotEq) (rNeU X.K) := op_ne.or (op_neD hu)
theorem str_eq {a b : List Nat} : (V.str ⟨a.toArray⟩ = V.str ⟨b.toArray⟩) ↔ a = b := by simp
theorem eqS_of {x y : V} {a b : S} {k : Bool} (xa : SR K U W H x a) (xb : SR K U W H y b) (h : eqS a b = some k) : (scal x y = true ∧ decide (x = y) = k) ∨ ∃ d e, Dp K H x d ∧ Dp K H y e ∧ SeqAt.shaped d = true ∧ SeqAt.shaped e = true ∧ PyData.eqv d e = k := by
  have deep : (match a.tree, b.tree with
      | some x, some y => if (x.fit && y.fit) = true then some (x.same y) else none
      | _, _ => none) = some k → ∃ d e, Dp K H x d ∧ Dp K H y e ∧ SeqAt.shaped d = true ∧ SeqAt.shaped e = true ∧ PyData.eqv d e = k := fun h => by
    cases e1 : a.tree with
    | none => rw [e1] at h; cases h
    | some da =>
      cases e2 : b.tree with
      | none => rw [e1, e2] at h; cases h
      | some db =>
        rw [e1, e2] at h
        dsimp only at h
        by_cases z : (da.fit && db.fit) = true
        · rw [if_pos z] at h; cases h
          rw [Bool.and_eq_true] at z
          have z1 := Bool.and_eq_true_iff.mp (show (SeqAt.shaped da.py && !da.py.hasDict) = true from z.1)
          have z2 := Bool.and_eq_true_iff.mp (show (SeqAt.shaped db.py && !db.py.hasDict) = true from z.2)
          exact ⟨_, _, tree_dp xa e1 (by simpa using z1.2), tree_dp xb e2 (by simpa using z2.2), z1.1, z2.1, rfl⟩
        · rw [if_neg z] at h; cases h
  cases a with
  | fz a =>
    cases a with
    | int i =>
      cases b with
      | fz b =>
        cases b with
        | int j => cases h; rw [sr_int xa, sr_int xb]; exact .inl ⟨rfl, by simp⟩
        | _ => exact .inr (deep h)
      | _ => exact .inr (deep h)
    | str l =>
      cases b with
      | fz b =>
        cases b with
        | str m => cases h; rw [sr_str xa, sr_str xb]; exact .inl ⟨rfl, by simp⟩
        | _ => exact .inr (deep h)
      | _ => exact .inr (deep h)
    | bl l =>
      cases b with
      | fz b =>
        cases b with
        | bl m => cases h; rw [sr_bl xa, sr_bl xb]; exact .inl ⟨rfl, by simp⟩
        | _ => exact .inr (deep h)
      | _ => exact .inr (deep h)
    | _ => exact .inr (deep h)
  | _ => exact .inr (deep h)
def fEq (a b : S) : Option S := (eqS a b).map fun k => .fz (.bl k)
def fNe (a b : S) : Option S := (eqS a b).map fun k => .fz (.bl (!k))
theorem pn_eq : PN C (fun vs H Q => ∃ x y, vs = [x, y] ∧ rEqU C.K x y H Q) (p2 fEq) := by
  refine pn2 fun U W H x y a b s Q lv xa xb h q => ?_
  unfold fEq at h
  cases e : eqS a b with
  | none => rw [e] at h; cases h
  | some k =>
    rw [e] at h; cases h
    have fin := q (.bl k) H (.same (.bl k))
    rcases eqS_of xa xb e with ⟨h1, h2⟩ | ⟨d, e', h1, h2, h3, h4, h5⟩
    · exact .inl ⟨h1, by rw [h2]; exact fin⟩
    · exact .inr ⟨d, e', h1, h2, h3, h4, by rw [h5]; exact fin⟩
theorem pn_ne : PN C (fun vs H Q => ∃ x y, vs = [x, y] ∧ rNeU C.K x y H Q) (p2 fNe) := by
  refine pn2 fun U W H x y a b s Q lv xa xb h q => ?_
  unfold fNe at h
  cases e : eqS a b with
  | none => rw [e] at h; cases h
  | some k =>
    rw [e] at h; cases h
    have fin := q (.bl (!k)) H (.same (.bl (!k)))
    rcases eqS_of xa xb e with ⟨h1, h2⟩ | ⟨d, e', h1, h2, h3, h4, h5⟩
    · exact .inl ⟨h1, by rw [h2]; exact fin⟩
    · exact .inr ⟨d, e', h1, h2, h3, h4, by rw [h5]; exact fin⟩
/-! ### < and its kin, of ints -/
theorem pn_cmpI (f : Int → Int → Bool) : PN C (fun vs H Q => ∃ x y, vs = [x, y] ∧ rI0 (fun i j => .bl (f i j)) x y H Q) (p2 (fInts fun i j => some (.fz (.bl (f i j))))) :=
  pn_ints fun W H i j s Q h q => by cases h; exact ⟨i, j, rfl, rfl, q _ _ (.same (.bl _))⟩
/-! ### in -/
/-- p stands in l from i on -/
def subAtL (p l : List Nat) (i : Nat) : Bool := decide (i + p.length ≤ l.length) && ((l.drop i).take p.length == p)
/-- the first place where p stands in l -/
def subIx (p l : List Nat) : Option Nat := (List.range (l.length + 1)).find? (subAtL p l)
open Builtin.Str PySem.StrLaws in
theorem occ_after (s sub : Str) (hi : Nat) : ∀ (l : List Nat) (st : Array Nat × Nat), 1 ≤ st.1.size → (forIn l st (occBody s sub hi 1)).run.fst = st.1
  | [], _, _ => rfl
  | a :: l, st, h => by
    rw [List.forIn_cons]
    unfold occBody
    have c : ¬ (((st.fst.size < 1 ∧ st.snd ≤ a) ∧ a + sub.length ≤ hi) ∧ subAt s sub a = true) := fun z => absurd z.1.1.1 (Nat.not_lt.mpr h)
    rw [if_neg c]
    exact occ_after s sub hi l _ h
open Builtin.Str PySem.StrLaws in
theorem occ_first (s sub : Str) (hi : Nat) (P : Nat → Bool) (hP : ∀ i, P i = true ↔ (i + sub.length ≤ hi ∧ subAt s sub i = true)) : ∀ (l : List Nat) (fr : Nat), (∀ i ∈ l, fr ≤ i) →
    (forIn l ((#[] : Array Nat), fr) (occBody s sub hi 1)).run.fst.toList = (l.find? P).toList
  | [], _, _ => rfl
  | a :: l, fr, hf => by
    rw [List.forIn_cons]
    have ha : fr ≤ a := hf a (List.mem_cons_self ..)
    cases hp : P a with
    | true =>
      have z := (hP a).mp hp
      have c1 : (((#[] : Array Nat), fr).fst.size < 1 ∧ ((#[] : Array Nat), fr).snd ≤ a) ∧ a + sub.length ≤ hi := ⟨⟨by simp, ha⟩, z.1⟩
      have e : occBody s sub hi 1 a (#[], fr) = pure (ForInStep.yield (#[a], a + sub.length)) := by
        unfold occBody
        rw [if_pos ⟨c1, z.2⟩]
        rfl
      rw [e]
      show (forIn l (#[a], a + sub.length) (occBody s sub hi 1)).run.fst.toList = _
      rw [occ_after s sub hi l _ (by simp), List.find?_cons_of_pos hp]
      rfl
    | false =>
      have z : ¬ (a + sub.length ≤ hi ∧ subAt s sub a = true) := fun q => by rw [(hP a).mpr q] at hp; cases hp
      have e : occBody s sub hi 1 a (#[], fr) = pure (ForInStep.yield (#[], fr)) := by
        unfold occBody
        rw [if_neg fun q => z ⟨q.1.2, q.2⟩]
      rw [e]
      show (forIn l (#[], fr) (occBody s sub hi 1)).run.fst.toList = _
      rw [occ_first s sub hi P hP l fr (fun i h => hf i (List.mem_cons_of_mem _ h)), List.find?_cons_of_neg (by simp [hp])]
theorem occ_subIx (l p : List Nat) : Builtin.Str.occurrences ⟨l.toArray⟩ ⟨p.toArray⟩ 0 (⟨l.toArray⟩ : Str).length 1 = (subIx p l).toList := by
  rw [PySem.StrLaws.occ_eq, occ_first _ _ _ (subAtL p l) (fun i => ?_) _ _ (fun _ _ => Nat.zero_le _)]
  · rw [str_len, List.range'_eq_map_range]
    simp [subIx]
  · unfold subAtL
    rw [PySem.StrLaws.subAt_eq, str_len, str_len, Bool.and_eq_true, decide_eq_true_eq]
def fInStr : S → S → Option Bool
  | .fz (.str a), .fz (.str b) => some (subIx a b).isSome
  | _, _ => none
mutual
def D.flat : D → Bool
  | .tup _ => false | .lst _ => false | .scr _ => false | .dic _ _ => false | _ => true
end
def eqFlat : D → D → Bool
  | .non, .non => true
  | .bl a, .bl b => a == b
  | .int a, .int b => a == b
  | .str a, .str b => a == b
  | .bl a, .int b => (if a then 1 else 0) == b
  | .int a, .bl b => a == (if b then 1 else 0)
  | _, _ => false
end
end GB

/-! in, len, items, slices, texts -/
namespace GB
open PySem PySem.Spec PyProof.Rows L2
section
variable {C : Ct} {K : PySem.W.Frag} {U W : Addr → Prop} {H : Hp} {v : V} {s : S}
/-- a list or a tuple that is read -/
def asQ : S → Option (List D)
  | .fz (.tup ds) => some ds
  | s => asLs s
theorem asQ_of (x : SR K U W H v s) {ds : List D} (h : asQ s = some ds) : ∃ p xs, v = .ref p ∧ (SqL K H p xs ∨ SqT K H p xs) ∧ Rps K W H xs ds := by
  by_cases hs : ∃ d, s = .fz (.tup d)
  · obtain ⟨d, rfl⟩ := hs
    cases h
    cases x with | fz x => cases x with | tup e x => exact ⟨_, _, rfl, .inr e, x⟩
  · have h' : asLs s = some ds := by
      cases s with
      | fz d => cases d <;> first | exact h | exact absurd ⟨_, rfl⟩ hs
      | _ => exact h
    obtain ⟨p, xs, e1, e2, e3⟩ := asLs_of x h'
    exact ⟨p, xs, e1, .inl e2, e3⟩
theorem flat_v {d : D} (x : Rp K W H v d) (h : d.flat = true) : flatV v = true := by cases x <;> first | rfl | cases h
theorem strBeq (a b : List Nat) : ((⟨a.toArray⟩ : Str) == ⟨b.toArray⟩) = (a == b) := by
  rw [Bool.eq_iff_iff, beq_iff_eq, beq_iff_eq]
  simp
theorem eqFlat_v {w : V} {a b : D} (x : Rp K W H v a) (y : Rp K W H w b) (ha : a.flat = true) (hb : b.flat = true) : eqV v w = eqFlat a b := by
  cases x <;> first | (cases ha; done) | (cases y <;> first | (cases hb; done) | rfl | exact strBeq _ _)
theorem rps_flat : ∀ {xs : List V} {ds : List D}, Rps K W H xs ds → ds.all D.flat = true → xs.all flatV = true
  | _, _, .nil, _ => rfl
  | _, _, .cons x t, h => by
    rw [List.all_cons, Bool.and_eq_true] at h ⊢
    exact ⟨flat_v x h.1, rps_flat t h.2⟩
theorem inV_of {d : D} (x : Rp K W H v d) (hd : d.flat = true) : ∀ {xs : List V} {ds : List D}, Rps K W H xs ds → ds.all D.flat = true → inV v xs = ds.any fun e => eqFlat e d
  | _, _, .nil, _ => rfl
  | _, _, .cons y t, h => by
    rw [List.all_cons, Bool.and_eq_true] at h
    show (eqV _ v || inV v _) = (eqFlat _ d || _)
    rw [eqFlat_v y x h.1 hd, inV_of x hd t h.2]
/-- x in xs: a text in a text; a flat thing in a list or tuple of such -/
def inS : S → S → Option Bool
  | .fz (.str a), .fz (.str b) => some (subIx a b).isSome
  | .fz d, s => match asQ s with
    | some ds => if d.flat && ds.all D.flat then some (ds.any fun e => eqFlat e d) else none
    | none => none
  | _, _ => none
def rInU (K : PySem.W.Frag) : R2 := fun x y H Q => (∃ i j, x = .str i ∧ y = .str j ∧ Q (.bl (!(Builtin.Str.occurrences j i 0 j.length 1).isEmpty)) H) ∨ rIn K false x y H Q
def rNotInU (K : PySem.W.Frag) : R2 := fun x y H Q => (∃ i j, x = .str i ∧ y = .str j ∧ Q (.bl (!(!(Builtin.Str.occurrences j i 0 j.length 1).isEmpty))) H) ∨ rIn K true x y H Q
theorem op_inU {X : Cx} : OpR X (compareOp .In) (rInU X.K) := op_in_str.or op_in_seq
theorem op_notInU {X : Cx} : OpR X (compareOp .NotIn) (rNotInU X.K) := op_notin_str.or op_notIn_seq
theorem opt_emp {o : Option Nat} : (!o.toList.isEmpty) = o.isSome := by cases o <;> rfl
theorem inS_of {x y : V} {a b : S} {k : Bool} (xa : SR K U W H x a) (xb : SR K U W H y b) (h : inS a b = some k) : (∃ i j, x = .str i ∧ y = .str j ∧ (!(Builtin.Str.occurrences j i 0 j.length 1).isEmpty) = k) ∨
    (∃ p xs, y = .ref p ∧ (SqL K H p xs ∨ SqT K H p xs) ∧ flatV x = true ∧ xs.all flatV = true ∧ inV x xs = k) := by
  have seq : ∀ {d : D}, a = .fz d → (match asQ b with
      | some ds => if (d.flat && ds.all D.flat) = true then some (ds.any fun e => eqFlat e d) else none
      | none => none) = some k → ∃ p xs, y = .ref p ∧ (SqL K H p xs ∨ SqT K H p xs) ∧ flatV x = true ∧ xs.all flatV = true ∧ inV x xs = k := fun {d} e g => by
    subst e
    cases e1 : asQ b with
    | none => rw [e1] at g; cases g
    | some ds =>
      rw [e1] at g
      dsimp only at g
      by_cases z : (d.flat && ds.all D.flat) = true
      · rw [if_pos z] at g; cases g
        rw [Bool.and_eq_true] at z
        cases xa with
        | fz xa =>
          obtain ⟨p, xs, e, q, t⟩ := asQ_of xb e1
          exact ⟨p, xs, e, q, flat_v xa z.1, rps_flat t z.2, inV_of xa z.1 t z.2⟩
      · rw [if_neg z] at g; cases g
  cases a with
  | fz a =>
    cases a with
    | str l =>
      by_cases hb : ∃ m, b = .fz (.str m)
      · obtain ⟨m, rfl⟩ := hb
        cases h
        rw [sr_str xa, sr_str xb]
        exact .inl ⟨_, _, rfl, rfl, by rw [occ_subIx, opt_emp]⟩
      · refine .inr (seq rfl ?_)
        cases b with
        | fz b => cases b <;> first | exact h | exact absurd ⟨_, rfl⟩ hb
        | _ => exact h
    | _ => exact .inr (seq rfl h)
  | _ => cases h
def fIn (a b : S) : Option S := (inS a b).map fun k => .fz (.bl k)
def fNotIn (a b : S) : Option S := (inS a b).map fun k => .fz (.bl (!k))
theorem pn_in : PN C (fun vs H Q => ∃ x y, vs = [x, y] ∧ rInU C.K x y H Q) (p2 fIn) := by
  refine pn2 fun U W H x y a b s Q lv xa xb h q => ?_
  unfold fIn at h
  cases e : inS a b with
  | none => rw [e] at h; cases h
  | some k =>
    rw [e] at h; cases h
    have fin := q (.bl k) H (.same (.bl k))
    rcases inS_of xa xb e with ⟨i, j, h1, h2, h3⟩ | ⟨p, xs, h1, h2, h3, h4, h5⟩
    · exact .inl ⟨i, j, h1, h2, by rw [h3]; exact fin⟩
    · exact .inr ⟨p, xs, h1, h2, h3, h4, by show Q (.bl (inV x xs)) H; rw [h5]; exact fin⟩
theorem pn_notIn : PN C (fun vs H Q => ∃ x y, vs = [x, y] ∧ rNotInU C.K x y H Q) (p2 fNotIn) := by
  refine pn2 fun U W H x y a b s Q lv xa xb h q => ?_
  unfold fNotIn at h
  cases e : inS a b with
  | none => rw [e] at h; cases h
  | some k =>
    rw [e] at h; cases h
    have fin := q (.bl (!k)) H (.same (.bl (!k)))
    rcases inS_of xa xb e with ⟨i, j, h1, h2, h3⟩ | ⟨p, xs, h1, h2, h3, h4, h5⟩
    · exact .inl ⟨i, j, h1, h2, by rw [h3]; exact fin⟩
    · exact .inr ⟨p, xs, h1, h2, h3, h4, by show Q (.bl (!inV x xs)) H; rw [h5]; exact fin⟩

/-! ### None -/
def D.isNon : D → Bool
  | .non => true
  | _ => false
def fIsN : S → S → Option S
  | .fz d, .fz .non => some (.fz (.bl d.isNon))
  | _, _ => none
def fIsNotN : S → S → Option S
  | .fz d, .fz .non => some (.fz (.bl (!d.isNon)))
  | _, _ => none
theorem non_dec {d : D} (x : Rp K W H v d) : decide (v = .non) = d.isNon := by cases x <;> simp [D.isNon]
theorem pn_isN : PN C (fun vs H Q => ∃ x y, vs = [x, y] ∧ (y = .non ∧ Q (.bl (decide (x = .non))) H)) (p2 fIsN) := by
  refine pn2 (rr := fun x y H Q => y = .non ∧ Q (.bl (decide (x = .non))) H) fun U W H x y a b s Q lv xa xb h q => ?_
  cases a with
  | fz a =>
    cases b with
    | fz b =>
      cases b with
      | non => cases h; cases xa with | fz xa => exact ⟨sr_non xb, by rw [non_dec xa]; exact q _ _ (.same (.bl _))⟩
      | _ => cases h
    | _ => cases h
  | _ => cases h
theorem pn_isNotN : PN C (fun vs H Q => ∃ x y, vs = [x, y] ∧ (y = .non ∧ Q (.bl (!decide (x = .non))) H)) (p2 fIsNotN) := by
  refine pn2 (rr := fun x y H Q => y = .non ∧ Q (.bl (!decide (x = .non))) H) fun U W H x y a b s Q lv xa xb h q => ?_
  cases a with
  | fz a =>
    cases b with
    | fz b =>
      cases b with
      | non =>
        cases h
        cases xa with
        | fz xa =>
          refine ⟨sr_non xb, ?_⟩
          rw [non_dec xa]
          exact q _ _ (.same (.bl _))
      | _ => cases h
    | _ => cases h
  | _ => cases h

/-! ### len -/
def lenS : S → Option Nat
  | .fz (.str l) => if big l.length then some l.length else none
  | s => (asQ s).map List.length
def fLen (a : S) : Option S := (lenS a).map fun n => .fz (.int n)
theorem pn_len : PN C (fun vs H Q => ∃ x n, vs = [x] ∧ LenV C.K x H n ∧ Q (.int n) H) (p1 fLen) := by
  have main : PN C (fun vs H Q => ∃ x, vs = [x] ∧ ∃ n, LenV C.K x H n ∧ Q (.int n) H) (p1 fLen) := by
    refine pn1 fun U W H x a s Q lv xa h q => ?_
    unfold fLen at h
    have seq : ∀ n, (asQ a).map List.length = some n → Q (.int n) H → ∃ n, LenV C.K x H n ∧ Q (.int n) H := fun n h f => by
      cases e : asQ a with
      | none => rw [e] at h; cases h
      | some ds =>
        rw [e] at h; cases h
        obtain ⟨p, xs, rfl, e2, t⟩ := asQ_of xa e
        rcases e2 with e2 | e2
        · exact ⟨_, .inl ⟨xs, e2, t.len.symm⟩, f⟩
        · exact ⟨_, .inr ⟨xs, e2, t.len.symm⟩, f⟩
    cases e : lenS a with
    | none => rw [e] at h; cases h
    | some n =>
      rw [e] at h; cases h
      have fin := q (.int n) H (.same (.int n))
      by_cases hs : ∃ l, a = .fz (.str l)
      · obtain ⟨l, rfl⟩ := hs
        have e : (if big l.length then some l.length else none) = some n := e
        by_cases z : big l.length = true
        · rw [if_pos z] at e; cases e
          rw [sr_str xa]
          exact ⟨_, ⟨by rw [str_len]; exact big_le z, (str_len l).symm⟩, fin⟩
        · rw [if_neg z] at e; cases e
      · refine seq n ?_ fin
        cases a with
        | fz a => cases a <;> first | exact e | exact absurd ⟨_, rfl⟩ hs
        | _ => exact e
  intro U W H vs ss s Q lv hs hp q
  obtain ⟨x, e, n, h1, h2⟩ := main U W H vs ss s Q lv hs hp q
  exact ⟨x, n, e, h1, h2⟩
/-! ### list(..), tuple(..) -/
def fList (a : S) : Option S := (asQ a).map .ol
theorem pn_list : PN C (fun vs H Q => ∃ p ys, vs = [.ref p] ∧ (SqL C.K H p ys ∨ SqT C.K H p ys) ∧ ∀ l, H l = none → Q (.ref l) (upd H l (.lst ys))) (p1 fList) := by
  have main : PN C (fun vs H Q => ∃ x, vs = [x] ∧ ∃ p ys, x = .ref p ∧ (SqL C.K H p ys ∨ SqT C.K H p ys) ∧ ∀ l, H l = none → Q (.ref l) (upd H l (.lst ys))) (p1 fList) := by
    refine pn1 fun U W H x a s Q lv xa h q => ?_
    unfold fList at h
    cases e : asQ a with
    | none => rw [e] at h; cases h
    | some ds =>
      rw [e] at h; cases h
      obtain ⟨p, xs, rfl, e2, t⟩ := asQ_of xa e
      exact ⟨p, xs, rfl, e2, fun l hl => q _ _ (Got.newL (C := C) lv hl t)⟩
  intro U W H vs ss s Q lv hs hp q
  obtain ⟨x, e, p, ys, e2, h1, h2⟩ := main U W H vs ss s Q lv hs hp q
  subst e2
  exact ⟨p, ys, e, h1, h2⟩
def fTuple (a : S) : Option S := (asQ a).map fun ds => .fz (.tup ds)
theorem pn_tuple : PN C (fun vs H Q => ∃ p ys, vs = [.ref p] ∧ ((SqL C.K H p ys ∧ ∀ l, H l = none → Q (.ref l) (upd H l (.tup ys))) ∨ (SqT C.K H p ys ∧ Q (.ref p) H))) (p1 fTuple) := by
  have main : PN C (fun vs H Q => ∃ x, vs = [x] ∧ ∃ p ys, x = .ref p ∧ ((SqL C.K H p ys ∧ ∀ l, H l = none → Q (.ref l) (upd H l (.tup ys))) ∨ (SqT C.K H p ys ∧ Q (.ref p) H))) (p1 fTuple) := by
    refine pn1 fun U W H x a s Q lv xa h q => ?_
    unfold fTuple at h
    cases e : asQ a with
    | none => rw [e] at h; cases h
    | some ds =>
      rw [e] at h; cases h
      obtain ⟨p, xs, rfl, e2, t⟩ := asQ_of xa e
      refine ⟨p, xs, rfl, ?_⟩
      rcases e2 with e2 | e2
      · exact .inl ⟨e2, fun l hl => q _ _ (Got.newT (C := C) lv hl t)⟩
      · exact .inr ⟨e2, q _ _ (.same (.tup e2 t))⟩
  intro U W H vs ss s Q lv hs hp q
  obtain ⟨x, e, p, ys, e2, h1⟩ := main U W H vs ss s Q lv hs hp q
  subst e2
  exact ⟨p, ys, e, h1⟩
/-! ### int(..) of an int or a truth -/
def fInt1 : S → Option S
  | .fz (.int i) => some (.fz (.int i))
  | .fz (.bl b) => some (.fz (.int (if b then 1 else 0)))
  | _ => none
theorem pn_int1 : PN C (fun xs H Q => (∃ i, xs = [.int i] ∧ Q (.int i) H) ∨ ∃ k, xs = [.bl k] ∧ Q (.int (if k then 1 else 0)) H) (p1 fInt1) := by
  intro U W H vs ss s Q lv hs hp q
  match ss, hs, hp with
  | [a], .cons xa .nil, hp =>
    cases a with
    | fz a =>
      cases a with
      | int i => cases hp; rw [sr_int xa]; exact .inl ⟨i, rfl, q _ _ (.same (.int _))⟩
      | bl b => cases hp; rw [sr_bl xa]; exact .inr ⟨b, rfl, q _ _ (.same (.int _))⟩
      | _ => cases hp
    | _ => cases hp

/-! ### an item at a place -/
def ixD (ds : List D) (i : Int) : Option D := atI ds i
def fIx : S → S → Option S
  | .fz (.str l), .fz (.int i) => if big l.length then (atI l i).map fun c => .fz (.str [c]) else none
  | a, .fz (.int i) => match asQ a with
    | some ds => (atI ds i).map .fz
    | none => none
  | _, _ => none
theorem atI_rps {xs : List V} {ds : List D} (t : Rps K W H xs ds) {i : Int} {d : D} (h : atI ds i = some d) : ∃ x, atI xs i = some x ∧ Rp K W H x d := by
  unfold atI at h ⊢
  rw [t.len]
  cases e : ixN ds.length i with
  | none => rw [e] at h; cases h
  | some j => rw [e] at h; exact rps_at t h
theorem pn_ix : PN C (fun vs H Q => ∃ x y, vs = [x, y] ∧ rIx C.K x y H Q) (p2 fIx) := by
  refine pn2 fun U W H x y a b s Q lv xa xb h q => ?_
  cases b with
  | fz b =>
    cases b with
    | int i =>
      rw [sr_int xb]
      by_cases hs : ∃ l, a = .fz (.str l)
      · obtain ⟨l, rfl⟩ := hs
        have h : (if big l.length then (atI l i).map fun c => S.fz (.str [c]) else none) = some s := h
        by_cases z : big l.length = true
        · rw [if_pos z] at h
          cases e : atI l i with
          | none => rw [e] at h; cases h
          | some c =>
            rw [e] at h; cases h
            rw [sr_str xa]
            exact .inr (.inr ⟨_, i, c, rfl, rfl, by rw [str_len]; exact big_le z, e, q _ _ (.same (.str [c]))⟩)
        · rw [if_neg z] at h; cases h
      · have h : (match asQ a with | some ds => (atI ds i).map S.fz | none => none) = some s := by
          cases a with
          | fz a => cases a <;> first | exact h | exact absurd ⟨_, rfl⟩ hs
          | _ => exact h
        cases e : asQ a with
        | none => rw [e] at h; cases h
        | some ds =>
          rw [e] at h
          dsimp only at h
          cases e2 : atI ds i with
          | none => rw [e2] at h; cases h
          | some d =>
            rw [e2] at h; cases h
            obtain ⟨p, xs, rfl, e3, t⟩ := asQ_of xa e
            obtain ⟨w, e4, y⟩ := atI_rps t e2
            rcases e3 with e3 | e3
            · exact .inl ⟨p, xs, i, w, rfl, rfl, e3, e4, q _ _ (.same y)⟩
            · exact .inr (.inl ⟨p, xs, i, w, rfl, rfl, e3, e4, q _ _ (.same y)⟩)
    | _ => cases a <;> first | cases h | (rename_i d; cases d <;> cases h)
  | _ => cases a <;> first | cases h | (rename_i d; cases d <;> cases h)
end
end GB

/-! choices, slices, text methods -/
namespace GB
open PySem PySem.Spec PyProof.Rows L2
/-- the first of two word functions that answers -/
def orP (p q : Pr) : Pr := fun ss => match p ss with
  | none => q ss
  | z => z
theorem eCall_alt (p q : Pr) (fa : Rho → Rs (List Opd)) : eCall (orP p q) fa = eAlt (eCall p fa) (eCall q fa) := by
  funext r
  unfold eCall eAlt
  cases e : fa r with
  | ok os r1 =>
    simp only [e, Rs.bind]
    unfold eP orP
    cases e1 : resAll r1 os with
    | none => simp only [e1]
    | some ss =>
      cases e2 : p ss <;> simp only [e1, e2]
  | ex c fs r1 => simp only [e, Rs.bind]
  | st => simp only [e, Rs.bind]
theorem PN.or {C : Ct} {rr rr' : List V → Hp → VK → Prop} {p q : Pr} (h : PN C rr p) (h' : PN C rr' q) : PN C (fun vs H Q => rr vs H Q ∨ rr' vs H Q) (orP p q) := by
  intro U W H vs ss s Q lv hs hp k
  unfold orP at hp
  cases e : p ss with
  | some t => rw [e] at hp; exact .inl (h U W H vs ss s Q lv hs (e.trans hp) k)
  | none => rw [e] at hp; exact .inr (h' U W H vs ss s Q lv hs hp k)
section
variable {X : Cx} {C : Ct} {e : Expr} {fa : Rho → Rs (List Opd)}
theorem ge_orP {p q : Pr} (h : GE X C e (eCall p fa)) (h' : GE X C e (eCall q fa)) : GE X C e (eCall (orP p q) fa) := by
  rw [eCall_alt]
  exact ge_alt h h'
/-- the first of two statements' functions that goes -/
def fAlt (f g : Rho → Fl) : Rho → Fl := fun r => match f r with
  | .st => g r
  | z => z
theorem gs_alt {st : Stmt} {f g : Rho → Fl} (h : GS X C st f) (h' : GS X C st g) : GS X C st (fAlt f g) := by
  refine ⟨fun pins s σ H D I q => ?_⟩
  obtain ⟨U, r, s1, q⟩ := q
  unfold fAlt at q
  cases e1 : f r with
  | st => rw [e1] at q; exact h'.run pins s σ H D I ⟨U, r, s1, q⟩
  | nx r' => rw [e1] at q; exact h.run pins s σ H D I ⟨U, r, s1, by rw [e1]; exact q⟩
  | rt t r' => rw [e1] at q; exact h.run pins s σ H D I ⟨U, r, s1, by rw [e1]; exact q⟩
  | bk r' => rw [e1] at q; exact h.run pins s σ H D I ⟨U, r, s1, by rw [e1]; exact q⟩
  | ct r' => rw [e1] at q; exact h.run pins s σ H D I ⟨U, r, s1, by rw [e1]; exact q⟩
  | ex c fs r' => rw [e1] at q; exact h.run pins s σ H D I ⟨U, r, s1, by rw [e1]; exact q⟩

/-! ### slices -/
def isI (o : Opd) (r : Rho) : Bool := match res r o with
  | some (.fz (.int _)) => true
  | _ => false
/-- a part of a slice -/
def ePart : Option (Rho → Rs Opd) → Rho → Rs Opd
  | none, r => .ok (.val (.fz .non)) r
  | some f, r => (f r).bind fun o r1 => if isI o r1 then .ok o r1 else .st
def tP (C : Ct) : Option (Rho → Rs Opd) → TO
  | none => tNoPart
  | some f => tPart (tE C f)
abbrev GP (X : Cx) (C : Ct) (e : Option Expr) (f : Option (Rho → Rs Opd)) : Prop := PO X e (tP C f)
theorem gp_none : GP X C none none := po_none
theorem gp_some {e : Expr} {f : Rho → Rs Opd} (h : GE X C e f) : GP X C (some e) (some f) := po_some h
def isP (v : V) (o : Option Int) : Prop := match o with
  | none => v = .non
  | some i => v = .int i
theorem tP_then {α : Type} {f : Option (Rho → Rs Opd)} {g : Opd → Rho → Rs α} {σ : St} {H : Hp} {Q : Option Int → Hp → Prop} {U : Addr → Prop} {r : Rho} {R : Rs α → Prop} (s : Sit C U H σ r) (h : R ((ePart f r).bind g))
    (hst : R .st → False) (hex : ∀ c fs r', R (.ex c fs r') → XWant C U H σ r c fs r')
    (hok : ∀ o r' v i H' U', Sit C U' H' σ r' → Aft U H σ r U' H' σ r' → Per r r' → OpOk C U' H' σ r' o v → isP v i → R (g o r') → Q i H') : tP C f σ H Q := by
  cases f with
  | none => exact hok (.val (.fz .non)) r .non none H U s Aft.refl Per.refl ⟨.fz .non, fun p z => (nomatch z), rfl⟩ rfl h
  | some f =>
    simp only [ePart] at h
    refine tE_then (f := f) (g := fun o r1 => (if isI o r1 then (Rs.ok o r1) else .st).bind g) (R := R) s ?_ hst hex ?_
    · refine cast ?_ h
      unfold Rs.bind
      cases e : f r <;> simp only [e]
    · intro o r' v H' U' s' a' p' k' n' q
      by_cases hi : isI o r' = true
      · rw [if_pos hi] at q
        obtain ⟨t, e, x⟩ := k'.res s'
        unfold isI at hi
        rw [e] at hi
        cases t with
        | fz d =>
          cases d with
          | int i =>
            have ev : v = .int i := by cases x with | fz x => cases x; rfl
            exact ⟨i, ev, hok o r' v (some i) H' U' s' a' p' k' ev q⟩
          | _ => cases hi
        | _ => cases hi
      · rw [if_neg hi] at q
        exact (hst q).elim
theorem isP_one {v : V} {i j : Option Int} (h : isP v i) (h' : isP v j) : i = j := by
  cases i <;> cases j <;> (cases h; cases h') <;> rfl
/-- o[lo:hi] -/
theorem ge_slice {o : Expr} {lo hi : Option Expr} {pos p2 : Pos} {fo : Rho → Rs Opd} {fl fh : Option (Rho → Rs Opd)} {rr : V → Option Int → Option Int → Hp → VK → Prop} {p : Pr} (hr : SlR X rr) (hp : PN C (fun vs H Q => ∃ x l u i j, vs = [x, l, u] ∧ isP l i ∧ isP u j ∧ rr x i j H Q) p)
    (ho : GE X C o fo) (hl : GP X C lo fl) (hh : GP X C hi fh) : GE X C (.Subscript o (.Slice lo hi none p2) pos) (eCall p (eCons fo (eCons (ePart fl) (eCons (ePart fh) eNil)))) := by
  refine weakE (pe_slice hr ho hl hh) fun σ H Q h => ?_
  obtain ⟨U, r, s, h⟩ := h
  refine tE_then (g := fun o r1 => (ePart fl r1).bind fun o2 r2 => (ePart fh r2).bind fun o3 r3 => eP p [o, o2, o3] r3) (R := RE C U H σ r Q) s ?_ id (fun _ _ _ z => z) ?_
  · refine cast ?_ h
    unfold eCall eCons eNil Rs.bind
    cases fo r with
    | ok o r1 =>
      simp only []
      cases ePart fl r1 with
      | ok o r2 => simp only []; cases ePart fh r2 <;> rfl
      | _ => rfl
    | _ => rfl
  intro o r1 v H1 U1 s1 a1 p1 k1 n1 h1
  refine tP_then (R := RE C U H σ r Q) s1 h1 id (fun _ _ _ z => XWant.before z a1) fun o2 r2 v2 i2 H2 U2 s2 a2 p2 k2 q2 h2 => ?_
  refine tP_then (R := RE C U H σ r Q) s2 h2 id (fun _ _ _ z => XWant.before z (a1.trans a2)) fun o3 r3 v3 i3 H3 U3 s3 a3 p3 k3 q3 h3 => ?_
  obtain ⟨x, l, u, i, j, e, q4, q5, q⟩ := eP_fin hp s3 ((a1.trans a2).trans a3) ((p1.trans p2).trans p3) (.cons ((k1.after a2 s1 p2).after a3 s2 p3) (.cons (k2.after a3 s2 p3) (.cons k3 .nil))) h3
  cases e
  rw [isP_one q2 q4, isP_one q3 q5]
  exact q
end
/-- a cut -/
def cutD {α : Type} (xs : List α) (lo hi : Option Int) : List α := (xs.drop (HT.sIx xs.length 0 lo)).take (HT.sIx xs.length xs.length hi - HT.sIx xs.length 0 lo)
def ptI : S → Option (Option Int)
  | .fz .non => some none
  | .fz (.int i) => some (some i)
  | _ => none
def cutS1 (a : S) (i j : Option Int) : Option S := match a with
  | .fz (.str w) => if big w.length then some (.fz (.str (cutD w i j))) else none
  | .fz (.tup ds) => some (.fz (.tup (cutD ds i j)))
  | a => (asLs a).map fun ds => .ol (cutD ds i j)
def fSl (a l u : S) : Option S := match ptI l, ptI u with
  | some i, some j => cutS1 a i j
  | _, _ => none
def rSlU (K : PySem.W.Frag) : V → Option Int → Option Int → Hp → VK → Prop := fun x lo hi H Q => rSlL K x lo hi H Q ∨ rSlA K x lo hi H Q ∨ rSlS x lo hi H Q
section
variable {X : Cx} {C : Ct} {K : PySem.W.Frag} {U W : Addr → Prop} {H : Hp}
theorem sl_U : SlR X (rSlU X.K) := sl_list.or (sl_tupA.or sl_str)
theorem ptI_of {v : V} {s : S} {i : Option Int} (x : SR K U W H v s) (h : ptI s = some i) : isP v i := by
  cases x with
  | fz x => cases x <;> first | (cases h; exact rfl) | cases h
  | _ => cases h
theorem cutD_all {α : Type} {xs : List α} {lo hi : Option Int} (h : HT.sIx xs.length 0 lo = 0 ∧ HT.sIx xs.length xs.length hi = xs.length) : cutD xs lo hi = xs := by
  unfold cutD
  rw [h.1, h.2]
  simp
theorem cutV_rps {xs : List V} {ds : List D} {lo hi : Option Int} (x : Rps K W H xs ds) : Rps K W H (cutV xs lo hi) (cutD ds lo hi) := by
  unfold cutV cutD
  rw [x.len]
  exact rps_take _ (rps_drop _ x)
theorem pn_sl : PN C (fun vs H Q => ∃ x l u i j, vs = [x, l, u] ∧ isP l i ∧ isP u j ∧ rSlU C.K x i j H Q) (p3 fSl) := by
  intro U W H vs ss s Q lv hs hp q
  match ss, hs, hp with
  | [a, l, u], .cons (a := x) xa (.cons (a := y) xl (.cons (a := z) xu .nil)), hp =>
    have hp : fSl a l u = some s := hp
    unfold fSl at hp
    cases e1 : ptI l with
    | none => rw [e1] at hp; cases hp
    | some i =>
      cases e2 : ptI u with
      | none => rw [e1, e2] at hp; cases hp
      | some j =>
        rw [e1, e2] at hp
        have hp : cutS1 a i j = some s := hp
        refine ⟨_, _, _, i, j, rfl, ptI_of xl e1, ptI_of xu e2, ?_⟩
        have lst : (asLs a).map (fun ds => S.ol (cutD ds i j)) = some s → rSlU C.K x i j H Q := fun h => by
          cases e : asLs a with
          | none => rw [e] at h; cases h
          | some ds =>
            rw [e] at h; cases h
            obtain ⟨p, xs, rfl, e2, t⟩ := asLs_of xa e
            exact .inl ⟨p, xs, rfl, e2, fun l hl => q _ _ (Got.newL (C := C) lv hl (cutV_rps t))⟩
        cases a with
        | fz a =>
          cases a with
          | str w =>
            have hp : (if big w.length then some (S.fz (.str (cutD w i j))) else none) = some s := hp
            by_cases hb : big w.length = true
            · rw [if_pos hb] at hp; cases hp
              rw [sr_str xa]
              refine .inr (.inr ⟨_, rfl, by rw [str_len]; exact big_le hb, ?_⟩)
              have e : cutS ⟨w.toArray⟩ i j = ⟨(cutD w i j).toArray⟩ := by
                unfold cutS cutD
                rw [str_len]
              rw [e]
              exact q _ _ (.same (.str _))
            · rw [if_neg hb] at hp; cases hp
          | tup ds =>
            cases hp
            cases xa with
            | fz xa =>
              cases xa with
              | @tup p xs ds e t =>
                refine .inr (.inl ⟨p, xs, rfl, e, fun hw => ?_, fun _ l hl => q _ _ (Got.newT (C := C) lv hl (cutV_rps t))⟩)
                rw [t.len] at hw
                rw [cutD_all hw] at q
                exact q _ _ (.same (.tup e t))
          | _ => exact lst hp
        | _ => exact lst hp
end

/-! ### methods of a text -/
def lowL (w : List Nat) : Option (List Nat) := if w.all (· < 128) && decide (w.length ≤ 5592405) then some (w.map PyProof.Rows.lo1) else none
def upL (w : List Nat) : Option (List Nat) := if w.all (· < 128) && decide (w.length ≤ 5592405) then some (w.map PyProof.Rows.up1) else none
def isStr : S → Bool
  | .fz (.str _) => true
  | _ => false
def isLst (s : S) : Bool := (asLs s).isSome
def fLower : S → Option S
  | .fz (.str w) => (lowL w).map fun w => .fz (.str w)
  | _ => none
def fUpper : S → Option S
  | .fz (.str w) => (upL w).map fun w => .fz (.str w)
  | _ => none
section
variable {X : Cx} {C : Ct} {K : PySem.W.Frag} {U W : Addr → Prop} {H : Hp}
theorem isStr_ty (U W : Addr → Prop) (H : Hp) (v : V) (s : S) (x : SR C.K U W H v s) (h : isStr s = true) : tyV K "str" v H := by
  cases x with
  | fz x => cases x <;> first | exact rfl | cases h
  | _ => cases h
theorem isLst_ty (U W : Addr → Prop) (H : Hp) (v : V) (s : S) (x : SR C.K U W H v s) (h : isLst s = true) : tyV C.K "list" v H := by
  unfold isLst at h
  cases e : asLs s with
  | none => rw [e] at h; cases h
  | some ds =>
    obtain ⟨p, xs, rfl, e2, _⟩ := asLs_of x e
    exact .inl ⟨rfl, xs, e2⟩
theorem low_if {f : Nat → Nat} {w : List Nat} {s : S} (h : ((if w.all (· < 128) && decide (w.length ≤ 5592405) then some (w.map f) else none).map fun w => S.fz (.str w)) = some s) : w.all (· < 128) = true ∧ w.length ≤ 5592405 ∧ s = .fz (.str (w.map f)) := by
  by_cases z : (w.all (· < 128) && decide (w.length ≤ 5592405)) = true
  · rw [if_pos z] at h; cases h
    rw [Bool.and_eq_true] at z
    exact ⟨z.1, of_decide_eq_true z.2, rfl⟩
  · rw [if_neg z] at h; cases h
theorem pn_lower : PN C (fun vs H Q => ∃ x xs, vs = x :: xs ∧ ∃ a, x = .str a ∧ xs = [] ∧ a.length ≤ 5592405 ∧ Q (.str (Txt.lower a)) H) (p1 fLower) := by
  refine pnm0 (rr := fun x xs H Q => ∃ a, x = .str a ∧ xs = [] ∧ a.length ≤ 5592405 ∧ Q (.str (Txt.lower a)) H) fun U W H x a s Q lv xa h q => ?_
  cases a with
  | fz a =>
    cases a with
    | str w =>
      rw [sr_str xa]
      obtain ⟨z1, z2, rfl⟩ := low_if (f := PyProof.Rows.lo1) h
      refine ⟨_, rfl, rfl, by rw [str_len]; exact z2, ?_⟩
      rw [show Txt.lower ⟨w.toArray⟩ = ⟨(w.map PyProof.Rows.lo1).toArray⟩ from SX.lower_S z1]
      exact q _ _ (.same (.str _))
    | _ => cases h
  | _ => cases h
theorem pn_upper : PN C (fun vs H Q => ∃ x xs, vs = x :: xs ∧ ∃ a, x = .str a ∧ xs = [] ∧ a.length ≤ 5592405 ∧ Q (.str (Txt.upper a)) H) (p1 fUpper) := by
  refine pnm0 (rr := fun x xs H Q => ∃ a, x = .str a ∧ xs = [] ∧ a.length ≤ 5592405 ∧ Q (.str (Txt.upper a)) H) fun U W H x a s Q lv xa h q => ?_
  cases a with
  | fz a =>
    cases a with
    | str w =>
      rw [sr_str xa]
      obtain ⟨z1, z2, rfl⟩ := low_if (f := PyProof.Rows.up1) h
      refine ⟨_, rfl, rfl, by rw [str_len]; exact z2, ?_⟩
      rw [show Txt.upper ⟨w.toArray⟩ = ⟨(w.map PyProof.Rows.up1).toArray⟩ from SX.upper_S z1]
      exact q _ _ (.same (.str _))
    | _ => cases h
  | _ => cases h
end
/-- texts of words -/
def strsOf : List D → Option (List (List Nat))
  | [] => some []
  | .str w :: ds => (strsOf ds).map (w :: ·)
  | _ :: _ => none
def joinN (sep : List Nat) (ws : List (List Nat)) : List Nat := TL.joinL sep ws
def fJoin : S → S → Option S
  | .fz (.str sep), s => match asQ s with
    | some ds => (match strsOf ds with
      | some ws => if big ((ws.map List.length).sum + ws.length * sep.length) then some (.fz (.str (joinN sep ws))) else none
      | none => none)
    | none => none
  | _, _ => none
section
variable {X : Cx} {C : Ct} {K : PySem.W.Frag} {U W : Addr → Prop} {H : Hp}
theorem strsOf_of : ∀ {xs : List V} {ds : List D} {ws : List (List Nat)}, Rps K W H xs ds → strsOf ds = some ws → xs = (ws.map fun w => (⟨w.toArray⟩ : Str)).map V.str
  | _, _, _, .nil, h => by cases h; rfl
  | _, d :: ds, ws, .cons x t, h => by
    cases x with
    | str w =>
      have h : (strsOf ds).map (w :: ·) = some ws := h
      cases e : strsOf ds with
      | none => rw [e] at h; cases h
      | some w2 => rw [e] at h; cases h; rw [strsOf_of t e]; rfl
    | _ => cases h
theorem join_toL (sep : List Nat) (ws : List (List Nat)) : Txt.join ⟨sep.toArray⟩ (ws.map fun w => (⟨w.toArray⟩ : Str)) = ⟨(joinN sep ws).toArray⟩ := by
  rw [TL.join_eq]
  refine TL.ext_tl ?_
  show (Str.join _ _).cps.toList = _
  rw [show (Str.join (⟨sep.toArray⟩ : Str) (ws.map fun w => (⟨w.toArray⟩ : Str))).cps.toList = TL.joinL sep (ws.map fun w => w) from ?_]
  · simp [joinN, TL.tl]
  · have := TL.tl_join ⟨sep.toArray⟩ (ws.map fun w => (⟨w.toArray⟩ : Str))
    rw [List.map_map] at this
    exact this
theorem pn_join : PN C (fun vs H Q => ∃ x xs, vs = x :: xs ∧ ∃ a p, ∃ ys : List Str, x = .str a ∧ xs = [.ref p] ∧ (SqL C.K H p (ys.map V.str) ∨ SqT C.K H p (ys.map V.str)) ∧
    (ys.map (·.length)).sum + ys.length * a.length ≤ 16777216 ∧ Q (.str (Txt.join a ys)) H) (p2 fJoin) := by
  refine pnm1 (rr := fun x xs H Q => ∃ a p, ∃ ys : List Str, x = .str a ∧ xs = [.ref p] ∧ (SqL C.K H p (ys.map V.str) ∨ SqT C.K H p (ys.map V.str)) ∧
    (ys.map (·.length)).sum + ys.length * a.length ≤ 16777216 ∧ Q (.str (Txt.join a ys)) H) fun U W H x y a b s Q lv xa xb h q => ?_
  cases a with
  | fz a =>
    cases a with
    | str sep =>
      rw [sr_str xa]
      unfold fJoin at h
      dsimp only at h
      cases e : asQ b with
      | none => rw [e] at h; cases h
      | some ds =>
        rw [e] at h
        dsimp only at h
        cases e2 : strsOf ds with
        | none => rw [e2] at h; cases h
        | some ws =>
          rw [e2] at h
          dsimp only at h
          by_cases hb : big ((ws.map List.length).sum + ws.length * sep.length) = true
          · rw [if_pos hb] at h; cases h
            obtain ⟨p, xs, rfl, e3, t⟩ := asQ_of xb e
            rw [strsOf_of t e2] at e3
            refine ⟨_, p, ws.map fun w => (⟨w.toArray⟩ : Str), rfl, rfl, e3, ?_, ?_⟩
            · have hb := of_decide_eq_true hb
              rw [List.map_map, List.length_map, str_len]
              have e4 : ((fun x : Str => x.length) ∘ fun w : List Nat => (⟨w.toArray⟩ : Str)) = List.length := by
                funext w; exact str_len w
              rw [e4]
              exact hb
            · rw [join_toL]
              exact q _ _ (.same (.str _))
          · rw [if_neg hb] at h; cases h
    | _ => cases h
  | _ => cases h
/-- w.index(p) -/
def fSIndex : S → S → Option S
  | .fz (.str a), .fz (.str b) => (subIx b a).map fun n => .fz (.int n)
  | _, _ => none
theorem pn_sindex : PN C (fun vs H Q => ∃ x xs, vs = x :: xs ∧ ∃ a b i rest, x = .str a ∧ xs = [.str b] ∧ Builtin.Str.occurrences a b 0 a.length 1 = i :: rest ∧ Q (.int (i : Nat)) H) (p2 fSIndex) := by
  refine pnm1 (rr := fun x xs H Q => ∃ a b i rest, x = .str a ∧ xs = [.str b] ∧ Builtin.Str.occurrences a b 0 a.length 1 = i :: rest ∧ Q (.int (i : Nat)) H) fun U W H x y a b s Q lv xa xb h q => ?_
  cases a with
  | fz a =>
    cases a with
    | str l =>
      cases b with
      | fz b =>
        cases b with
        | str p =>
          have h : (subIx p l).map (fun n => S.fz (.int n)) = some s := h
          cases e : subIx p l with
          | none => rw [e] at h; cases h
          | some n =>
            rw [e] at h; cases h
            rw [sr_str xa, sr_str xb]
            exact ⟨_, _, n, [], rfl, rfl, by rw [occ_subIx, e]; rfl, q _ _ (.same (.int _))⟩
        | _ => cases h
      | _ => cases h
    | _ => cases b <;> first | cases h | (rename_i d; cases d <;> cases h)
  | _ => cases b <;> first | cases h | (rename_i d; cases d <;> cases h)
end

/-! ### methods that write a list -/
def asO : S → Option (List D)
  | .ol ds => some ds | .br ds => some ds | _ => none
def reO : S → List D → S
  | .br _, ds => .br ds
  | _, ds => .ol ds
def isOL (s : S) : Bool := (asO s).isSome
def mOf (f : List D → List D → Option (List D × D)) : Mu := fun s as => match asO s with
  | some ds => (f ds as).map fun z => (reO s z.1, z.2)
  | none => none
section
variable {X : Cx} {C : Ct} {K : PySem.W.Frag} {U W : Addr → Prop} {H : Hp}
theorem isOL_ty (U W : Addr → Prop) (H : Hp) (v : V) (s : S) (x : SR C.K U W H v s) (h : isOL s = true) : tyV C.K "list" v H := by
  cases x with
  | ol e x => exact .inl ⟨rfl, _, .inl (.inl e)⟩
  | br e x => exact .inl ⟨rfl, _, .inl (.inl e)⟩
  | _ => cases h
theorem mOf_ok {rr : V → List V → Hp → VK → Prop} {f : List D → List D → Option (List D × D)}
    (h : ∀ (W : Addr → Prop) (H : Hp) (p : Addr) (xs vs : List V) (ds as ds' : List D) (d : D) (Q : VK), H p = some (.lst xs) → (∀ a, W a → Lv H a) → Rps C.K W H xs ds → Rps C.K W H vs as → f ds as = some (ds', d) →
      (∀ v xs', Rps C.K W H xs' ds' → Rp C.K W H v d → Q v (upd H p (.lst xs'))) → rr (.ref p) vs H Q) : MuOk C rr (mOf f) := by
  intro U W H p s s' vs ds d Q ho hw lv xs xv hm q
  have go : ∀ (ls : List D) (ys : List V), asO s = some ls → H p = some (.lst ys) → Rps C.K W H ys ls → (∀ ds' ys', Rps C.K W H ys' ds' → At C.K W H (reO s ds') (.lst ys')) → (∀ ds', s.hard = true → Sl s (reO s ds')) → rr (.ref p) vs H Q := fun ls ys e1 e2 e3 e4 e5 => by
    unfold mOf at hm
    rw [e1] at hm
    dsimp only at hm
    cases e : f ls ds with
    | none => rw [e] at hm; cases hm
    | some z =>
      obtain ⟨ds', d'⟩ := z
      rw [e] at hm; cases hm
      exact h W H p ys vs ls ds ds' _ Q e2 lv e3 xv e fun v ys' y1 y2 => q v _ (e4 _ _ y1) (e5 _) y2
  cases xs with
  | ol e x => exact go _ _ rfl e x (fun _ _ y => .ol y) fun _ h => by cases h
  | br e x => exact go _ _ rfl e x (fun _ _ y => .br y) fun _ _ => ⟨_, rfl⟩
  | _ => first | (cases ho; done) | (cases hm; done)
def fApp (ds as : List D) : Option (List D × D) := match as with
  | [d] => if decide (ds.length < 16777216) then some (ds ++ [d], .non) else none
  | _ => none
theorem mu_append : MuOk C rAppend (mOf fApp) := by
  refine mOf_ok fun W H p xs vs ds as ds' d Q hp lv x xv h q => ?_
  match as, xv, h with
  | [a], .cons y .nil, h =>
    have h : (if decide (ds.length < 16777216) then some (ds ++ [a], D.non) else none) = some (ds', _) := h
    by_cases hl : decide (ds.length < 16777216) = true
    · rw [if_pos hl] at h; cases h
      exact ⟨p, xs, _, rfl, rfl, hp, by rw [sizeLine_eq, x.len]; exact of_decide_eq_true hl, q _ _ (rps_append x (.cons y .nil)) .non⟩
    · rw [if_neg hl] at h; cases h
def fExt (ds as : List D) : Option (List D × D) := match as with
  | [.lst es] => if big (ds.length + es.length) then some (ds ++ es, .non) else none
  | _ => none
theorem mu_extend : MuOk C rExtend (mOf fExt) := by
  refine mOf_ok fun W H p xs vs ds as ds' d Q hp lv x xv h q => ?_
  match as, xv, h with
  | [.lst es], .cons (.lst e n y) .nil, h =>
    have h : (if big (ds.length + es.length) then some (ds ++ es, D.non) else none) = some (ds', _) := h
    by_cases hl : big (ds.length + es.length) = true
    · rw [if_pos hl] at h; cases h
      exact ⟨p, _, xs, _, rfl, rfl, hp, e, by rw [x.len, y.len]; exact big_le hl, q _ _ (rps_append x y) .non⟩
    · rw [if_neg hl] at h; cases h
def fIns (ds as : List D) : Option (List D × D) := match as with
  | [.int i, d] => if decide (ds.length < 16777216) && decide (0 ≤ i ∧ i < 2 ^ 63) then some (ds.take i.toNat ++ [d] ++ ds.drop i.toNat, .non) else none
  | _ => none
theorem mu_insert : MuOk C (fun x vs H Q => ∃ (l : Addr) (xs : List V) (i : Int) (y : V), x = .ref l ∧ vs = [.int i, y] ∧ H l = some (.lst xs) ∧ xs.length < sizeLine ∧ 0 ≤ i ∧ i < 2 ^ 63 ∧
    Q .non (upd H l (.lst (xs.take i.toNat ++ [y] ++ xs.drop i.toNat)))) (mOf fIns) := by
  refine mOf_ok fun W H p xs vs ds as ds' d Q hp lv x xv h q => ?_
  match as, xv, h with
  | [.int i, a], .cons (.int _) (.cons y .nil), h =>
    have h : (if decide (ds.length < 16777216) && decide (0 ≤ i ∧ i < 2 ^ 63) then some (ds.take i.toNat ++ [a] ++ ds.drop i.toNat, D.non) else none) = some (ds', _) := h
    by_cases hl : (decide (ds.length < 16777216) && decide (0 ≤ i ∧ i < 2 ^ 63)) = true
    · rw [if_pos hl] at h; cases h
      rw [Bool.and_eq_true] at hl
      have h2 := of_decide_eq_true hl.2
      exact ⟨p, xs, i, _, rfl, rfl, hp, by rw [sizeLine_eq, x.len]; exact of_decide_eq_true hl.1, h2.1, h2.2, q _ _ (rps_append (rps_append (rps_take _ x) (.cons y .nil)) (rps_drop _ x)) .non⟩
    · rw [if_neg hl] at h; cases h
def fPop0 (ds as : List D) : Option (List D × D) := match as with
  | [] => ds.getLast?.map fun d => (ds.dropLast, d)
  | _ => none
theorem rps_dropLast : ∀ {xs : List V} {ds : List D}, Rps K W H xs ds → Rps K W H xs.dropLast ds.dropLast
  | _, _, .nil => .nil
  | _, _, .cons x .nil => .nil
  | _, _, .cons x (.cons y t) => .cons x (rps_dropLast (.cons y t))
theorem mu_pop : MuOk C rPop (mOf fPop0) := by
  refine mOf_ok fun W H p xs vs ds as ds' d Q hp lv x xv h q => ?_
  match as, xv, h with
  | [], .nil, h =>
    have h : (ds.getLast?.map fun d => (ds.dropLast, d)) = some (ds', _) := h
    cases e : ds.getLast? with
    | none => rw [e] at h; cases h
    | some z =>
      rw [e] at h; cases h
      rw [List.getLast?_eq_getElem?] at e
      obtain ⟨w, e2, y⟩ := rps_at x e
      exact ⟨p, xs, w, rfl, rfl, hp, by rw [x.len]; exact e2, q _ _ (rps_dropLast x) y⟩
end
end GB

/-! x[k] = e; dicts -/
namespace GB
open PySem PySem.Spec PyProof.Rows L2
/-! ### x[k] = e -/
def fPut (i : Nat) (m : Mu) (fe fi : Rho → Rs Opd) : Rho → Fl := fun r => ofR (fe r) fun o r1 => match ownAt r1 i with
  | some _ => ofR (fi r1) fun o2 r2 => ofR (mutP m i [o, o2] r2) fun _ r3 => .nx r3
  | none => .st
def rPut (t : TSet) : V → List V → Hp → VK → Prop := fun x vs H Q => ∃ v k, vs = [v, k] ∧ t x k v H fun H' => Q .non H'
/-- the first writing function that answers -/
def orM (m m' : Mu) : Mu := fun s ds => match m s ds with
  | none => m' s ds
  | z => z
section
variable {X : Cx} {C : Ct} {e ie : Expr} {fe fi : Rho → Rs Opd} {i : Nat} {x : Str} {m m' : Mu} {t : TSet}
theorem mut_stmt {rr : V → List V → Hp → VK → Prop} (hm : MuOk C rr m) {U U' : Addr → Prop} {H H' : Hp} {σ : St} {r r' : Rho} {os : List Opd} {vs : List V} {v0 : V} {D : Ends} (hv : σ[i]? = some (some v0)) (s0 : Sit C U H σ r) (s : Sit C U' H' σ r') (a : Aft U H σ r U' H' σ r') (pe : Per r r') (k : OpsOk C U' H' σ r' os vs) (n : NewS H os vs)
    (h : RS C U H σ r D (ofR (mutP m i os r') fun _ r3 => .nx r3)) : rr v0 vs H' fun _ H2 => D.nx σ H2 := by
  refine mutP_fin (Q := fun _ H2 => D.nx σ H2) hm hv s0 s a pe k n ?_
  cases e : mutP m i os r' with
  | ok o r3 => rw [e] at h; exact fun v H2 U2 s2 a2 p2 k2 n2 => h σ H2 U2 s2 a2
  | ex c fs r3 => rw [e] at h; exact h
  | st => rw [e] at h; exact h
theorem tE_stmt3 {fe : Rho → Rs Opd} {k : Opd → Rho → Fl} {σ : St} {H H1 : Hp} {Q : VK} {D : Ends} {U U1 : Addr → Prop} {r r1 : Rho} (a1 : Aft U H σ r U1 H1 σ r1) (s : Sit C U1 H1 σ r1) (h : RS C U H σ r D (ofR (fe r1) k))
    (hok : ∀ o r' v H' U', Sit C U' H' σ r' → Aft U1 H1 σ r1 U' H' σ r' → Per r1 r' → OpOk C U' H' σ r' o v → New H1 o v → RS C U H σ r D (k o r') → Q v H') : tE C fe σ H1 Q := by
  refine ⟨U1, r1, s, ?_⟩
  cases e : fe r1 with
  | ok o r' => rw [e] at h; exact fun v H' U' s' a' p' k' n' => hok o r' v H' U' s' a' p' k' n' h
  | ex c fs r' => rw [e] at h; exact XWant.before (show XWant C U H σ r c fs r' from h) a1
  | st => rw [e] at h; exact h
theorem gs_put {st : Stmt} (h : PS X st (tAsg (tE C fe) (gSub (tVar i) (tE C fi) t))) (hm : MuOk C (rPut t) m) : GS X C st (fPut i m fe fi) := by
  refine weakS h fun D σ H h => ?_
  obtain ⟨U, r, s, h⟩ := h
  refine tE_stmt2 (D := D) s h fun o r1 v H1 U1 s1 a1 p1 k1 n1 q => ?_
  cases e1 : ownAt r1 i with
  | none => simp only [e1] at q; exact (show False from q).elim
  | some t' =>
    simp only [e1] at q
    obtain ⟨g1, g2⟩ := ownAt_of e1
    obtain ⟨v0, ev, x0⟩ := s1.rep i t' g1
    refine ⟨v0, ev, ?_⟩
    refine tE_stmt3 (D := D) a1 s1 q fun o2 r2 v2 H2 U2 s2 a2 p2 k2 n2 q2 => ?_
    obtain ⟨v', k', e, q4⟩ := mut_stmt hm ev s s2 (a1.trans a2) (p1.trans p2) (.cons (k1.after a2 s1 p2) (.cons k2 .nil)) (.cons n1 (.cons (n2.back a1) .nil)) q2
    cases e
    exact q4
theorem fPut_alt : fPut i (orM m m') fe fi = fAlt (fPut i m fe fi) (fPut i m' fe fi) := by
  funext r
  unfold fPut fAlt
  cases e : fe r with
  | ok o r1 =>
    simp only [e, ofR]
    cases e1 : ownAt r1 i with
    | none => simp only [e1]
    | some t' =>
      simp only [e1]
      cases e2 : fi r1 with
      | ok o2 r2 =>
        simp only [e2]
        unfold mutP orM
        cases e3 : frzAll [o, o2] r2 with
        | none => simp only [e3]
        | some z =>
          obtain ⟨ds, r3⟩ := z
          simp only [e3]
          cases e4 : ownAt r3 i with
          | none => simp only [e4]
          | some s =>
            simp only [e4]
            cases e5 : m s ds with
            | none => simp only [e5]
            | some z => simp only [e5]
      | ex c fs r2 => simp only [e2]
      | st => simp only [e2]
  | ex c fs r1 => simp only [e, ofR]
  | st => simp only [e, ofR]
theorem gs_putU {st : Stmt} (h : GS X C st (fPut i m fe fi)) (h' : GS X C st (fPut i m' fe fi)) : GS X C st (fPut i (orM m m') fe fi) := by
  rw [fPut_alt]
  exact gs_alt h h'
end
/-- xs[k] = v -/
def fSetL (ds as : List D) : Option (List D × D) := match as with
  | [v, .int k] => (ixN ds.length k).map fun j => (ds.set j v, .non)
  | _ => none
def keyD : D → Option Key
  | .int i => some (.inl i)
  | .str w => some (.inr ⟨w.toArray⟩)
  | _ => none
def getD (kvs : List (Key × D)) (k : Key) : Option D := (kvs.find? fun kv => decide (kv.1 = k)).map (·.2)
def putD (kvs : List (Key × D)) (k : Key) (v : D) : List (Key × D) :=
  if (kvs.any fun kv => decide (kv.1 = k)) = true then kvs.map (fun kv => if kv.1 = k then (kv.1, v) else kv) else kvs ++ [(k, v)]
def asDw : S → Option (List (Key × D))
  | .od k => some k | .bd k => some k | _ => none
def asDr : S → Option (List (Key × D))
  | .od k => some k | .bd k => some k | .kd k => some k | _ => none
def reD : S → List (Key × D) → S
  | .bd _, k => .bd k
  | _, k => .od k
def mDPut : Mu := fun s as => match asDw s, as with
  | some kvs, [v, k] => (match keyD k with
    | some k => if decide (kvs.length < 16777216) then some (reD s (putD kvs k v), .non) else none
    | none => none)
  | _, _ => none
def tDP : TSet := fun o i v H Q => ∃ a H4, o = .ref a ∧ DPut H a i v H4 ∧ Q H4
section
variable {X : Cx} {C : Ct} {e ie : Expr} {fe fi : Rho → Rs Opd} {i : Nat} {x : Str} {m m' : Mu} {t : TSet} {K : PySem.W.Frag} {U W : Addr → Prop} {H : Hp}
theorem mu_setL : MuOk C (rPut rSetL) (mOf fSetL) := by
  refine mOf_ok fun W H p xs vs ds as ds' d Q hp lv x xv h q => ?_
  match as, xv, h with
  | [a, .int k], .cons y (.cons (.int _) .nil), h =>
    have h : ((ixN ds.length k).map fun j => (ds.set j a, D.non)) = some (ds', _) := h
    cases e : ixN ds.length k with
    | none => rw [e] at h; cases h
    | some j =>
      rw [e] at h; cases h
      exact ⟨_, _, rfl, p, xs, k, j, rfl, rfl, hp, by rw [x.len]; exact e, q _ _ (rps_set j x y) .non⟩
theorem keyD_of {v : V} {d : D} {k : Key} (x : Rp K W H v d) (h : keyD d = some k) : v = kV k := by
  cases x <;> first | (cases h; rfl) | cases h
theorem kr_any {k : Key} : ∀ {xs : List (Key × V)} {ds : List (Key × D)}, KR K W H xs ds → (xs.any fun kv => decide (kv.1 = k)) = ds.any fun kv => decide (kv.1 = k)
  | _, _, .nil => rfl
  | _, _, .cons h t => by rw [List.any_cons, List.any_cons, h.1, kr_any t]
theorem kr_get {k : Key} : ∀ {xs : List (Key × V)} {ds : List (Key × D)}, KR K W H xs ds → match getD ds k with | some d => ∃ v, valV xs k = some v ∧ Rp K W H v d | none => valV xs k = none
  | _, _, .nil => rfl
  | _, _, .cons (a := p) (b := q) h t => by
    by_cases e : q.1 = k
    · have e' : p.1 = k := h.1.trans e
      rw [show getD (q :: _) k = some q.2 by simp [getD, List.find?_cons, e]]
      exact ⟨p.2, valV_pos e', h.2⟩
    · have e' : ¬ p.1 = k := fun z => e (h.1.symm.trans z)
      rw [show getD (q :: _) k = getD _ k by simp [getD, List.find?_cons, e]; rfl, valV_neg e']
      exact kr_get t
theorem kr_map {k : Key} {v : V} {d : D} (y : Rp K W H v d) : ∀ {xs : List (Key × V)} {ds : List (Key × D)}, KR K W H xs ds → KR K W H (xs.map fun kv => if kv.1 = k then (kv.1, v) else kv) (ds.map fun kv => if kv.1 = k then (kv.1, d) else kv)
  | _, _, .nil => .nil
  | _, _, .cons (a := p) (b := q) h t => by
    refine .cons ?_ (kr_map y t)
    dsimp only
    by_cases e : q.1 = k
    · rw [if_pos e, if_pos (h.1.trans e)]; exact ⟨h.1, y⟩
    · rw [if_neg e, if_neg fun z => e (h.1.symm.trans z)]; exact h
theorem kr_app : ∀ {xs ys : List (Key × V)} {ds es : List (Key × D)}, KR K W H xs ds → KR K W H ys es → KR K W H (xs ++ ys) (ds ++ es)
  | _, _, _, _, .nil, h => h
  | _, _, _, _, .cons x t, h => .cons x (kr_app t h)
theorem kr_put {k : Key} {v : V} {d : D} (y : Rp K W H v d) {xs : List (Key × V)} {ds : List (Key × D)} (x : KR K W H xs ds) : KR K W H (putK xs k v) (putD ds k d) := by
  unfold putK putD
  rw [kr_any x]
  by_cases h : (ds.any fun kv => decide (kv.1 = k)) = true
  · rw [if_pos h, if_pos h]; exact kr_map y x
  · rw [if_neg h, if_neg h]; exact kr_app x (.cons ⟨rfl, y⟩ .nil)
theorem mu_dput : MuOk C (rPut tDP) mDPut := by
  intro U W H p s s' vs as d Q ho hw lv xs xv hm q
  have go : ∀ (ls : List (Key × D)) (ys : List (Key × V)), asDw s = some ls → H p = some (.dK ys) → KR C.K W H ys ls → (∀ ds' ys', KR C.K W H ys' ds' → At C.K W H (reD s ds') (.dK ys')) → (∀ ds', s.hard = true → Sl s (reD s ds')) → rPut tDP (.ref p) vs H Q := fun ls ys e1 e2 e3 e4 e5 => by
    unfold mDPut at hm
    rw [e1] at hm
    match as, xv, hm with
    | [a, kd], .cons y (.cons yk .nil), hm =>
      dsimp only at hm
      cases e : keyD kd with
      | none => rw [e] at hm; cases hm
      | some k =>
        rw [e] at hm
        dsimp only at hm
        by_cases hl : decide (ls.length < 16777216) = true
        · rw [if_pos hl] at hm; cases hm
          rw [keyD_of yk e]
          exact ⟨_, _, rfl, p, _, rfl, .k e2 (by rw [sizeLine_eq, e3.len]; exact of_decide_eq_true hl), q _ _ (e4 _ _ (kr_put y e3)) (e5 _) .non⟩
        · rw [if_neg hl] at hm; cases hm
  cases xs with
  | od e x => exact go _ _ rfl e x (fun _ _ y => .od y) fun _ h => by cases h
  | bd e x => exact go _ _ rfl e x (fun _ _ y => .bd y) fun _ _ => ⟨_, rfl⟩
  | _ => first | (cases ho; done) | (cases hm; done)
/-- x[k] = e, a list or a dict -/
def mPut : Mu := orM (mOf fSetL) mDPut
theorem gs_sub {px p1 pos : Pos} (hu : X.A.units + 1 < cLine) (hN : X.N[i]? = some x) (hv : Vis X.env.scope x) (he : GE X C e fe) (hi : GE X C ie fi)
    (ha : ∀ v, assign (.Subscript (.Name x px) ie p1) X.env v = (do
      let ov ← holding [v] (eval (.Name x px) X.env)
      let iv ← holding [v, ov] (eval ie X.env)
      standAt p1
      holding [v, ov, iv] (setItem ov iv v)
      release [v, ov, iv] []) := by intro _; rfl)
    (hs : swapsWithSole [.Subscript (.Name x px) ie p1] e pos.line X.env = pure false := by rfl) (hw : swappedStores [.Subscript (.Name x px) ie p1] e X.env = pure none := by rfl)
    (h1 : (assignEach [.Subscript (.Name x px) ie p1] X.env).map (·.2) = [assign (.Subscript (.Name x px) ie p1) X.env] := by rfl)
    (hs2 : swapsWith e (some (.Subscript (.Name x px) ie p1)) pos.line X.env = pure false := by rfl)
    (hd : (x == ("__debug__" : Str)) = false := by decide) (hcd : (x == ("__classdict__" : Str)) = false := by decide) : GS X C (.Assign [.Subscript (.Name x px) ie p1] e pos) (fPut i mPut fe fi) :=
  gs_putU (gs_put (ps_asg he (pg_sub (pe_var hN hv hd hcd) hi set_list ha) hs hw h1) mu_setL)
    (gs_put (t := tDP) (weakS (ps_dput hu (pe_var hN hv hd hcd) hi he hs2) fun D σ H h => h) mu_dput)

/-! ### reading a dict -/
def rDGet : R2 := fun x y H Q => ∃ a v, x = .ref a ∧ DGet H a y (some v) ∧ Q v H
def fDGet (a b : S) : Option S := match asDr a, b with
  | some kvs, .fz k => (match keyD k with | some k => (getD kvs k).map .fz | none => none)
  | _, _ => none
theorem asDr_of {v : V} {s : S} (x : SR K U W H v s) {ds : List (Key × D)} (h : asDr s = some ds) : ∃ p xs, v = .ref p ∧ H p = some (.dK xs) ∧ KR K W H xs ds := by
  cases x with
  | od e x => cases h; exact ⟨_, _, rfl, e, x⟩
  | bd e x => cases h; exact ⟨_, _, rfl, e, x⟩
  | kd e u x => cases h; exact ⟨_, _, rfl, e, x⟩
  | _ => cases h
theorem pn_dget : PN C (fun vs H Q => ∃ x y, vs = [x, y] ∧ rDGet x y H Q) (p2 fDGet) := by
  refine pn2 fun U W H x y a b s Q lv xa xb h q => ?_
  unfold fDGet at h
  cases e : asDr a with
  | none => rw [e] at h; cases h
  | some kvs =>
    rw [e] at h
    cases b with
    | fz kd =>
      dsimp only at h
      cases e2 : keyD kd with
      | none => rw [e2] at h; cases h
      | some k =>
        rw [e2] at h
        dsimp only at h
        cases e3 : getD kvs k with
        | none => rw [e3] at h; cases h
        | some d =>
          rw [e3] at h; cases h
          obtain ⟨p, xs, rfl, e4, t⟩ := asDr_of xa e
          have g := kr_get (k := k) t
          rw [e3] at g
          obtain ⟨v, g1, g2⟩ := g
          cases xb with
          | fz xb =>
            rw [keyD_of xb e2]
            exact ⟨p, v, rfl, by rw [← g1]; exact .k e4, q _ _ (.same g2)⟩
    | _ => cases h
/-- o[i]: a list, a tuple, a text, a dict -/
theorem ge_sub {pos : Pos} (hu : X.A.units + 1 < cLine) (hn : NoSl ie) (ho : GE X C e fe) (hi : GE X C ie fi) (h : GE X C (.Subscript e ie pos) (eCall (p2 fIx) (eCons fe (eCons fi eNil)))) : GE X C (.Subscript e ie pos) (eCall (orP (p2 fIx) (p2 fDGet)) (eCons fe (eCons fi eNil))) :=
  ge_orP h (ge_op pn_dget (weakE (pe_dget hu ho hi hn) fun σ H Q h => h))
/-- {} -/
def eDic0 : Rho → Rs Opd := fun r => .ok (.val (.od [])) r
theorem ge_dic0 {pos : Pos} : GE X C (.Dict [] [] pos) eDic0 := by
  refine weakE pe_dnewK fun σ H Q h => ?_
  obtain ⟨U, r, s, h⟩ := h
  intro p hp
  obtain ⟨U2, s2, a2, k2, n2⟩ := (Got.od (K := C.K) (W := Wn U σ r) (upd_keep hp) hp (upd_same (o := .dK [])) .nil).fin s
  exact h _ _ U2 s2 a2 Per.refl k2 n2
/-- k in d -/
def inD (a b : S) : Option Bool := match a, asDr b with
  | .fz k, some kvs => (keyD k).map fun k => (getD kvs k).isSome
  | _, _ => none
def fDIn (a b : S) : Option S := (inD a b).map fun k => .fz (.bl k)
def fDNotIn (a b : S) : Option S := (inD a b).map fun k => .fz (.bl (!k))
def rDIn : R2 := fun y x H Q => ∃ a o, x = .ref a ∧ DGet H a y o ∧ Q (.bl o.isSome) H
def rDNotIn : R2 := fun y x H Q => ∃ a o, x = .ref a ∧ DGet H a y o ∧ Q (.bl (!o.isSome)) H
theorem inD_of {x y : V} {a b : S} {k : Bool} (xa : SR K U W H x a) (xb : SR K U W H y b) (h : inD a b = some k) : ∃ p o, y = .ref p ∧ DGet H p x o ∧ o.isSome = k := by
  unfold inD at h
  cases a with
  | fz kd =>
    cases e : asDr b with
    | none => rw [e] at h; cases h
    | some kvs =>
      rw [e] at h
      dsimp only at h
      cases e2 : keyD kd with
      | none => rw [e2] at h; cases h
      | some k =>
        rw [e2] at h; cases h
        obtain ⟨p, xs, rfl, e4, t⟩ := asDr_of xb e
        have g := kr_get (k := k) t
        cases xa with
        | fz xa =>
          rw [keyD_of xa e2]
          refine ⟨p, _, rfl, .k e4, ?_⟩
          cases e3 : getD kvs k with
          | none => rw [e3] at g; simp only [g, e3, Option.isSome_none]
          | some d => rw [e3] at g; obtain ⟨v, g1, g2⟩ := g; simp only [g1, e3, Option.isSome_some]
  | _ => cases h
theorem pn_din : PN C (fun vs H Q => ∃ x y, vs = [x, y] ∧ rDIn x y H Q) (p2 fDIn) := by
  refine pn2 fun U W H x y a b s Q lv xa xb h q => ?_
  unfold fDIn at h
  cases e : inD a b with
  | none => rw [e] at h; cases h
  | some k =>
    rw [e] at h; cases h
    obtain ⟨p, o, h1, h2, h3⟩ := inD_of xa xb e
    exact ⟨p, o, h1, h2, by rw [h3]; exact q (.bl k) H (.same (.bl k))⟩
theorem pn_dnotin : PN C (fun vs H Q => ∃ x y, vs = [x, y] ∧ rDNotIn x y H Q) (p2 fDNotIn) := by
  refine pn2 fun U W H x y a b s Q lv xa xb h q => ?_
  unfold fDNotIn at h
  cases e : inD a b with
  | none => rw [e] at h; cases h
  | some k =>
    rw [e] at h; cases h
    obtain ⟨p, o, h1, h2, h3⟩ := inD_of xa xb e
    exact ⟨p, o, h1, h2, by rw [h3]; exact q (.bl (!k)) H (.same (.bl _))⟩
theorem PN.or2 {rr rr' : R2} {p q : Pr} (h : PN C (fun vs H Q => ∃ x y, vs = [x, y] ∧ rr x y H Q) p) (h' : PN C (fun vs H Q => ∃ x y, vs = [x, y] ∧ rr' x y H Q) q) : PN C (fun vs H Q => ∃ x y, vs = [x, y] ∧ (rr x y H Q ∨ rr' x y H Q)) (orP p q) := by
  intro U W H vs ss s Q lv hs hp k
  rcases PN.or h h' U W H vs ss s Q lv hs hp k with ⟨x, y, e, z⟩ | ⟨x, y, e, z⟩
  · exact ⟨x, y, e, .inl z⟩
  · exact ⟨x, y, e, .inr z⟩
theorem op_din (hu : X.A.units + 1 < cLine) : OpR X (compareOp .In) rDIn := fun pins s σ H x y v u Q I rx ry h => by
  obtain ⟨a, o, rfl, g, q⟩ := h
  obtain rfl : u = Value.ref a := ry
  exact d_in hu I g rx fun s3 I3 => ⟨.bl o.isSome, H, I3, rfl, q⟩
theorem op_dnotin (hu : X.A.units + 1 < cLine) : OpR X (compareOp .NotIn) rDNotIn := fun pins s σ H x y v u Q I rx ry h => by
  obtain ⟨a, o, rfl, g, q⟩ := h
  obtain rfl : u = Value.ref a := ry
  exact d_notIn hu I g rx fun s3 I3 => ⟨.bl (!o.isSome), H, I3, rfl, q⟩
/-- in, of all kinds -/
def qIn : Pr := orP (p2 fIn) (p2 fDIn)
def qNotIn : Pr := orP (p2 fNotIn) (p2 fDNotIn)
theorem op_inA (hu : X.A.units + 1 < cLine) : OpR X (compareOp .In) (fun x y H Q => rInU X.K x y H Q ∨ rDIn x y H Q) := op_inU.or (op_din hu)
theorem op_notInA (hu : X.A.units + 1 < cLine) : OpR X (compareOp .NotIn) (fun x y H Q => rNotInU X.K x y H Q ∨ rDNotIn x y H Q) := op_notInU.or (op_dnotin hu)
theorem pn_inA : PN C (fun vs H Q => ∃ x y, vs = [x, y] ∧ (rInU C.K x y H Q ∨ rDIn x y H Q)) qIn := PN.or2 pn_in pn_din
theorem pn_notInA : PN C (fun vs H Q => ∃ x y, vs = [x, y] ∧ (rNotInU C.K x y H Q ∨ rDNotIn x y H Q)) qNotIn := PN.or2 pn_notIn pn_dnotin
end
end GB

/-! what is walked -/
namespace GB
open PySem PySem.Spec PyProof.Rows L2
section
variable {X : Cx} {C : Ct} {e e2 tg : Expr} {fe fe2 : Rho → Rs Opd} {fa : Rho → Rs (List Opd)} {R : It → Hp → Prop} {pins : List (Addr × Obj)} {σ : St} {H : Hp} {s : Shared} {a : Addr}
/-- a list, a tuple or a text is walked -/
def iAny (K : PySem.W.Frag) (v : V) (H : Hp) (R : It → Hp → Prop) : Prop :=
  (∃ a, v = .ref a ∧ (∃ xs, SqL K H a xs) ∧ R (Itl K a) H) ∨ (∃ a, v = .ref a ∧ (∃ xs, SqT K H a xs) ∧ R (Itt K a) H) ∨ ∃ x, v = .str x ∧ R (Its x) H
theorem it_any {v : V} {u : Value} (I : Inv X pins σ H s) (r : RelV v u) (h : iAny X.K v H R) : wpAny (model X.prog X.w) X.A (pyIter u) (PIE X pins σ tg R) X.xe s := by
  rcases h with ⟨a, rfl, ⟨xs, hq⟩, h⟩ | ⟨a, rfl, ⟨xs, hq⟩, h⟩ | ⟨x, rfl, h⟩
  · cases r
    obtain ⟨its, _, p, _⟩ := I.list hq
    exact wpAny_pyIter_list p.isList (pi_one (tk := s.toks) I _ (turn_list a _) ⟨_, Heap.get?_push_size _ rfl, rfl, rfl⟩ h)
  · cases r
    obtain ⟨its, _, p, _⟩ := I.tuple hq
    exact wpAny_pyIter_tuple (show s.heap.IsTuple a its.toArray from p) (pi_one (tk := s.toks) I _ (turn_tuple a _) ⟨_, Heap.get?_push_size _ rfl, rfl, rfl⟩ h)
  · obtain ⟨t, rfl⟩ := r
    by_cases z : x.cps.all (· < 128) = true
    · exact wpAny_pyIter_ascii z (pi_one (tk := s.toks) I _ (turn_str _ x t _ (.inl rfl)) ⟨_, Heap.get?_push_size _ rfl, rfl, rfl⟩ h)
    · exact wpAny_pyIter_wide (Bool.eq_false_iff.mpr z) (pi_one (tk := s.toks) I _ (turn_str _ x t _ (.inr rfl)) ⟨_, Heap.get?_push_size _ rfl, rfl, rfl⟩ h)
theorem pi_any {te : TE} (he : PE X e te) : PI X tg e (fun σ H R => te σ H fun v H1 => iAny X.K v H1 R) :=
  ⟨fun pins s σ H R I h => thn (he.run pins s σ H _ I h) fun u s1 ⟨v, H1, I1, r1, q⟩ => it_any I1 r1 q⟩
/-- what a walk gives, one by one -/
def itemsOf : S → Option (List D)
  | .fz (.str w) => some (w.map fun c => .str [c])
  | s => asQ s
def mkSeq : List S → Option (List D)
  | [s] => itemsOf s
  | _ => none
theorem weakI {wi wi' : TI} (h : PI X tg e wi) (k : ∀ σ H R, wi' σ H R → wi σ H R) : PI X tg e wi' := ⟨fun pins s σ H R I q => h.run pins s σ H R I (k σ H R q)⟩
theorem walkL {K : PySem.W.Frag} {n : Nat} : Walk (Itl K a) n (fun H => ∃ xs, SqL K H a xs ∧ xs.length = n) (fun i H x H' => H' = H ∧ ∀ xs, SqL K H a xs → xs[i]? = some x) :=
  ⟨fun i _ hi ⟨xs, q, e⟩ => ⟨xs, xs[i], q, by simp [e, hi]⟩, fun _ ⟨xs, q, e⟩ => ⟨xs, q, Nat.le_of_eq e⟩, fun _ _ _ _ _ _ y => y⟩
theorem walkT {K : PySem.W.Frag} {n : Nat} : Walk (Itt K a) n (fun H => ∃ xs, SqT K H a xs ∧ xs.length = n) (fun i H x H' => H' = H ∧ ∀ xs, SqT K H a xs → xs[i]? = some x) :=
  ⟨fun i _ hi ⟨xs, q, e⟩ => ⟨xs, xs[i], q, by simp [e, hi]⟩, fun _ ⟨xs, q, e⟩ => ⟨xs, q, Nat.le_of_eq e⟩, fun _ _ _ _ _ _ y => y⟩
theorem srs1 {K : PySem.W.Frag} {U W : Addr → Prop} {v : V} {t : S} (h : SRs K U W H [v] [t]) : SR K U W H v t := by cases h; assumption
theorem git_list {t : S} {p : Addr} {ds : List D} (h : asLs t = some ds) : GItem C (Itl C.K p) ds [.ref p] [t] := by
  refine ⟨_, _, walkL, fun U W H z => ?_, fun i H x H' d U W hd z lv y => ?_⟩
  · obtain ⟨p', xs, e, h2, h3⟩ := asLs_of (srs1 z) h
    cases e
    exact ⟨xs, h2, h3.len⟩
  · obtain ⟨p', xs, e, h2, h3⟩ := asLs_of (srs1 z) h
    cases e
    obtain ⟨rfl, y⟩ := y
    obtain ⟨v, g1, g2⟩ := rps_at h3 hd
    have := y xs h2
    rw [g1] at this
    cases this
    exact ⟨fun _ _ h => h, g2⟩
theorem git_tup {p : Addr} {ds : List D} : GItem C (Itt C.K p) ds [.ref p] [.fz (.tup ds)] := by
  refine ⟨_, _, walkT, fun U W H z => ?_, fun i H x H' d U W hd z lv y => ?_⟩
  · cases srs1 z with | fz z => cases z with | tup e z => exact ⟨_, e, z.len⟩
  · cases srs1 z with
    | fz z =>
      cases z with
      | tup e z =>
        obtain ⟨rfl, y⟩ := y
        obtain ⟨v, g1, g2⟩ := rps_at z hd
        have := y _ e
        rw [g1] at this
        cases this
        exact ⟨fun _ _ h => h, g2⟩
theorem git_str {w : List Nat} : GItem C (Its ⟨w.toArray⟩) (w.map fun c => .str [c]) [.str ⟨w.toArray⟩] [.fz (.str w)] := by
  refine ⟨_, _, by simpa using walk_str (z := ⟨w.toArray⟩), fun U W H z => True.intro, fun i H x H' d U W hd z lv y => ?_⟩
  obtain ⟨rfl, c, e, rfl⟩ := y
  have e : w[i]? = some c := by simpa using e
  rw [List.getElem?_map, e] at hd
  cases hd
  exact ⟨fun _ _ h => h, .str [c]⟩
theorem gi_seq (he : GE X C e fe) (hK : C.K = X.K := by rfl) : GI X C tg e (eCons fe eNil) mkSeq := by
  refine ⟨fun vs H R => ∃ v, vs = [v] ∧ iAny C.K v H R, ?_, ?_⟩
  · intro vs H ss ds U W R hs hn hm q
    match ss, hs, hm with
    | [t], .cons (a := v) x .nil, hm =>
      refine ⟨v, rfl, ?_⟩
      have hm : itemsOf t = some ds := hm
      have lst : asLs t = some ds → iAny C.K v H R := fun h => by
        obtain ⟨p, xs, rfl, h2, h3⟩ := asLs_of x h
        exact .inl ⟨p, rfl, ⟨xs, h2⟩, q _ (git_list h)⟩
      cases t with
      | fz d =>
        cases d with
        | str w =>
          cases hm
          have e := sr_str x
          subst e
          exact .inr (.inr ⟨_, rfl, q _ git_str⟩)
        | tup es =>
          cases hm
          cases x with
          | fz x => cases x with | tup e z => exact .inr (.inl ⟨_, rfl, ⟨_, e⟩, q _ git_tup⟩)
        | _ => exact lst hm
      | _ => exact lst hm
  · refine weakI (pi_any he) fun σ H R h => ?_
    obtain ⟨U, r, s, h⟩ := h
    refine tE_then (g := fun o r1 => Rs.ok [o] r1) (R := fun z : Rs (List Opd) => match z with | .ok os r' => ∀ vs H' U', Sit C U' H' σ r' → Aft U H σ r U' H' σ r' → Per r r' → OpsOk C U' H' σ r' os vs → NewS H os vs → ∃ v, vs = [v] ∧ iAny C.K v H' R | .ex c fs r' => XWant C U H σ r c fs r' | .st => False) s ?_ id (fun _ _ _ z => z) ?_
    · refine cast ?_ h
      unfold eCons eNil Rs.bind
      cases fe r <;> rfl
    · intro o r1 v H1 U1 s1 a1 p1 k1 n1 h1
      obtain ⟨v', e, q⟩ := h1 [v] H1 U1 s1 a1 p1 (.cons k1 .nil) (.cons n1 .nil)
      cases e
      rw [← hK]
      exact q

/-! ### range -/
def small62 (i : Int) : Bool := decide (-(2 ^ 62) ≤ i ∧ i < 2 ^ 62)
def upFrom (lo : Int) (n : Nat) : List D := (List.range n).map fun k => .int (lo + (k : Nat))
def mkR1 : List S → Option (List D)
  | [.fz (.int j)] => if small62 j then some (upFrom 0 j.toNat) else none
  | _ => none
def mkR2 : List S → Option (List D)
  | [.fz (.int i), .fz (.int j)] => if small62 i && small62 j then some (upFrom i (j - i).toNat) else none
  | _ => none
theorem git_range {lo : Int} {n : Nat} {vs : List V} {ss : List S} : GItem C (Itr lo n) (upFrom lo n) vs ss := by
  refine ⟨_, _, by simpa [upFrom] using walk_range (lo := lo) (n := n), fun U W H z => True.intro, fun i H x H' d U W hd z lv y => ?_⟩
  obtain ⟨rfl, rfl⟩ := y
  unfold upFrom at hd
  rw [List.getElem?_map] at hd
  by_cases hi : i < n
  · rw [List.getElem?_range hi] at hd
    cases hd
    exact ⟨fun _ _ h => h, .int _⟩
  · rw [List.getElem?_eq_none (by simpa using hi)] at hd
    cases hd
theorem gi_range1 {p pos : Pos} (hg : Gl X "range") (hm : X.mg "range" = none) (ha : GA X C [e] fa) (hs : starEach [e] X.env = [(false, eval e X.env)] := by rfl) : GI X C tg (.Call (.Name "range" p) [e] [] pos) fa mkR1 := by
  refine ⟨_, ?_, pi_range1 hg hm ha hs⟩
  intro vs H ss ds U W R hs hn hm q
  match ss, hs, hm with
  | [.fz (.int j)], .cons x .nil, hm =>
    have hm : (if small62 j then some (upFrom 0 j.toNat) else none) = some ds := hm
    by_cases z : small62 j = true
    · rw [if_pos z] at hm; cases hm
      have z := of_decide_eq_true z
      rw [sr_int x]
      exact ⟨j, rfl, z.1, z.2, q _ git_range⟩
    · rw [if_neg z] at hm; cases hm
theorem gi_range2 {p pos : Pos} (hg : Gl X "range") (hm : X.mg "range" = none) (ha : GA X C [e, e2] fa) (hs : starEach [e, e2] X.env = [(false, eval e X.env), (false, eval e2 X.env)] := by rfl) (hs2 : starEach [e2] X.env = [(false, eval e2 X.env)] := by rfl) : GI X C tg (.Call (.Name "range" p) [e, e2] [] pos) fa mkR2 := by
  refine ⟨_, ?_, pi_range2 hg hm ha hs hs2⟩
  intro vs H ss ds U W R hs hn hm q
  match ss, hs, hm with
  | [.fz (.int i), .fz (.int j)], .cons x (.cons y .nil), hm =>
    have hm : (if small62 i && small62 j then some (upFrom i (j - i).toNat) else none) = some ds := hm
    by_cases z : (small62 i && small62 j) = true
    · rw [if_pos z] at hm; cases hm
      rw [Bool.and_eq_true] at z
      have z1 := of_decide_eq_true z.1
      have z2 := of_decide_eq_true z.2
      rw [sr_int x, sr_int y]
      exact ⟨i, j, rfl, ⟨z1.1, z1.2, z2.1, z2.2⟩, q _ git_range⟩
    · rw [if_neg z] at hm; cases hm

/-! ### pairs: enumerate, zip of lists -/
def mkEnum : List S → Option (List D)
  | [s] => (asLs s).map fun ds => ds.zipIdx.map fun z => .tup [.int (z.2 : Nat), z.1]
  | _ => none
def mkZip : List S → Option (List D)
  | [s, t] => match asLs s, asLs t with
    | some xs, some ys => some ((xs.zip ys).map fun z => .tup [z.1, z.2])
    | _, _ => none
  | _ => none
theorem walkE {K : PySem.W.Frag} {n : Nat} : Walk (Ite K a) n (fun H => ∃ xs, SqL K H a xs ∧ xs.length = n) (fun i H v H' => ∃ T x, v = .ref T ∧ H T = none ∧ H' = upd H T (.tup [.int (i : Nat), x]) ∧ ∀ xs, SqL K H a xs → xs[i]? = some x) :=
  ⟨fun i _ hi ⟨xs, q, e⟩ => ⟨xs, xs[i], q, by simp [e, hi]⟩, fun _ ⟨xs, q, e⟩ => ⟨xs, q, Nat.le_of_eq e⟩, fun _ _ _ _ _ _ y => y⟩
theorem gi_enum {p pos tpos : Pos} {elts : List Expr} {kk : Nat} (hg : Gl X "enumerate") (hm : X.mg "enumerate" = none) (ha : GA X C [e] fa) (hs : starEach [e] X.env = [(false, eval e X.env)] := by rfl) (hK : C.K = X.K := by rfl) : GI X C (.Tuple elts kk tpos) (.Call (.Name "enumerate" p) [e] [] pos) fa mkEnum := by
  refine ⟨_, ?_, pi_enum hg hm ha hs⟩
  intro vs H ss ds U W R hs hn hm q
  match ss, hs, hm with
  | [t], .cons (a := v) x .nil, hm =>
    have hm : (asLs t).map (fun ds => ds.zipIdx.map fun z => D.tup [.int (z.2 : Nat), z.1]) = some ds := hm
    cases e1 : asLs t with
    | none => rw [e1] at hm; cases hm
    | some es =>
      rw [e1] at hm; cases hm
      obtain ⟨p, xs, rfl, h2, h3⟩ := asLs_of x e1
      refine ⟨p, xs, rfl, hK ▸ h2, q _ ⟨_, _, by rw [List.length_map, List.length_zipIdx]; exact walkE (K := X.K) (a := p) (n := es.length), fun U W H z => ?_, fun i H x H' d U W hd z lv y => ?_⟩⟩
      · obtain ⟨p', xs, e, h2, h3⟩ := asLs_of (srs1 z) e1
        cases e
        exact ⟨xs, hK ▸ h2, h3.len⟩
      · obtain ⟨p', xs, e, h2, h3⟩ := asLs_of (srs1 z) e1
        cases e
        obtain ⟨T, w, rfl, hT, rfl, y⟩ := y
        rw [List.getElem?_map, List.getElem?_zipIdx] at hd
        cases e3 : es[i]? with
        | none => rw [e3] at hd; cases hd
        | some d' =>
          rw [e3] at hd; cases hd
          obtain ⟨v, g1, g2⟩ := rps_at h3 e3
          have := y xs (hK ▸ h2)
          rw [g1] at this
          cases this
          refine ⟨upd_keep hT, .tup (.inl (.inl upd_same)) (.cons ?_ (.cons (g2.mono (monoKeep lv (upd_keep hT))) .nil))⟩
          simp only [Nat.zero_add]
          exact .int _
end
end GB

/-! turned about: xs[::-1] -/
namespace GB
open PySem PySem.Spec PyProof.Rows L2
theorem revIx (n : Nat) : Builtin.Str.strSliceIndices none none (-1) n = (List.range n).reverse := by
  unfold Builtin.Str.strSliceIndices
  show sliceRange ((n : Int) - 1) (-1) (-1) = _
  rw [PySem.W.krv_sliceRange, PySem.W.krv_range]
theorem allAt (w : List Nat) : (List.range w.length).filterMap (w.toArray[·]?) = w := by
  have key : ∀ (a b : List Nat), (List.range' a.length b.length).filterMap ((a ++ b).toArray[·]?) = b := by
    intro a b
    induction b generalizing a with
    | nil => rfl
    | cons c b ih =>
      rw [List.length_cons, List.range'_succ, List.filterMap_cons]
      have e : (a ++ c :: b).toArray[a.length]? = some c := by simp
      rw [e]
      have h := ih (a ++ [c])
      rw [List.length_append, List.length_singleton, List.append_assoc, List.singleton_append] at h
      rw [h]
  have := key [] w
  rw [List.range_eq_range']
  exact this
section
variable {X : Cx} {C : Ct} {e : Expr} {fe : Rho → Rs Opd} {k : Nat} {p1' p2' p3' pos : Pos}
theorem revMade {w : List Nat} {t u : Tok} : (if (((some ((-1 : Int), u)).map (·.1)).getD 1 == 1 && (slicePicked ⟨w.toArray⟩ none none (some (-1, u))).length == (⟨w.toArray⟩ : Str).length) = true then Made.val (.str ⟨w.toArray⟩ t) else .str ⟨((slicePicked ⟨w.toArray⟩ none none (some (-1, u))).filterMap ((⟨w.toArray⟩ : Str).cps[·]?)).toArray⟩) = .str ⟨w.reverse.toArray⟩ := by
  rw [if_neg (by simp)]
  have e : slicePicked ⟨w.toArray⟩ none none (some (-1, u)) = (List.range w.length).reverse := by
    show Builtin.Str.strSliceIndices none none (-1) (⟨w.toArray⟩ : Str).length = _
    rw [revIx, str_len]
  rw [e, List.filterMap_reverse]
  show Made.str ⟨((List.range w.length).filterMap (w.toArray[·]?)).reverse.toArray⟩ = _
  rw [allAt]
def tRevS (te : TE) : TE := fun σ H Q => te σ H fun x H1 => ∃ w : List Nat, x = .str ⟨w.toArray⟩ ∧ w.length ≤ sizeLine ∧ Q (.str ⟨w.reverse.toArray⟩) H1
theorem pe_revS {te : TE} (he : PE X e te) : PE X (.Subscript e (.Slice none none (some (.UnaryOp .USub (.Constant (.int 1) k p1') p2')) p3') pos) (tRevS te) := by
  refine ⟨fun pins s σ H Q I h => Subscript_ (thn (he.run pins s σ H _ I h) fun v s1 ⟨x, H1, I1, r1, w, ex, hz, q⟩ => ?_)⟩
  subst ex
  obtain ⟨tk, rfl⟩ := r1
  have step : PO X (some (.UnaryOp .USub (.Constant (.int 1) k p1') p2')) _ := po_some (pe_un un_neg pe_int)
  refine wpAny_Slice (thn ((po_none (X := X)).run pins s1 σ H1 (fun o H2 => o = none ∧ H2 = H1) I1 ⟨rfl, rfl⟩) fun vl s2 z2 => ?_)
  obtain ⟨l, H2, I2, pl, rfl, rfl⟩ := z2
  refine thn ((po_none (X := X)).run pins s2 σ H2 (fun o H3 => o = none ∧ H3 = H2) I2 ⟨rfl, rfl⟩) fun vu s3 z3 => ?_
  obtain ⟨u, H3, I3, pu, rfl, rfl⟩ := z3
  refine thn (step.run pins s3 σ H3 (fun o H4 => o = some (-1) ∧ H4 = H3) I3 ⟨1, rfl, -1, rfl, rfl, rfl⟩) fun vs s4 z4 => ?_
  obtain ⟨o, H4, I4, ps, rfl, rfl⟩ := z4
  cases pl
  cases pu
  cases ps with
  | int i t =>
  have I5 : Inv X pins σ H4 { s4 with heap := s4.heap.push { cls := .type "slice", data := .fields #[.none, .none, .int (-1) t] } } := I4.kept (t' := s4.toks) fun b ob q => Heap.get?_push_of_some _ q
  show wpAny (model X.prog X.w) X.A (subscriptTail e _ (.str ⟨w.toArray⟩ tk) (.ref s4.heap.objs.size)) _ X.xe _
  refine tail_any (ops := [.ref s4.heap.objs.size, .str ⟨w.toArray⟩ tk]) (typeIs_str _ _ _) F.slot_str_getitem.lookup ?_ (by with_unfolding_all rfl)
  refine wpAny_getItem_str_slice (l := none) (u := none) (st := some (-1, t)) ⟨_, Heap.get?_push_size _ rfl, rfl, rfl⟩ rfl ?_
  unfold sliceMade
  rw [revMade]
  exact ⟨by rw [str_len, List.length_reverse]; exact hz, .str _, H4, I5.tok _, ⟨_, rfl⟩, q⟩
def fRevS : S → Option S
  | .fz (.str w) => if big w.length then some (.fz (.str w.reverse)) else none
  | _ => none
def fRevL (s : S) : Option S := (asLs s).map fun ds => .ol ds.reverse
theorem pn_revS : PN C (fun vs H Q => ∃ x, vs = [x] ∧ ∃ w : List Nat, x = .str ⟨w.toArray⟩ ∧ w.length ≤ sizeLine ∧ Q (.str ⟨w.reverse.toArray⟩) H) (p1 fRevS) := by
  refine pn1 (rr := fun x H Q => ∃ w : List Nat, x = .str ⟨w.toArray⟩ ∧ w.length ≤ sizeLine ∧ Q (.str ⟨w.reverse.toArray⟩) H) fun U W H x a s Q lv xa h q => ?_
  cases a with
  | fz a =>
    cases a with
    | str w =>
      have h : (if big w.length then some (S.fz (.str w.reverse)) else none) = some s := h
      by_cases z : big w.length = true
      · rw [if_pos z] at h; cases h
        rw [sr_str xa]
        exact ⟨w, rfl, big_le z, q _ _ (.same (.str _))⟩
      · rw [if_neg z] at h; cases h
    | _ => cases h
  | _ => cases h
theorem rps_rev {K : PySem.W.Frag} {W : Addr → Prop} {H : Hp} : ∀ {xs : List V} {ds : List D}, Rps K W H xs ds → Rps K W H xs.reverse ds.reverse
  | _, _, .nil => .nil
  | _, _, .cons x t => by rw [List.reverse_cons, List.reverse_cons]; exact rps_append (rps_rev t) (.cons x .nil)
theorem pn_revL : PN C (fun vs H Q => ∃ x, vs = [x] ∧ ∃ a xs, x = .ref a ∧ SqL C.K H a xs ∧ ∀ p, H p = none → Q (.ref p) (upd H p (.lst xs.reverse))) (p1 fRevL) := by
  refine pn1 (rr := fun x H Q => ∃ a xs, x = .ref a ∧ SqL C.K H a xs ∧ ∀ p, H p = none → Q (.ref p) (upd H p (.lst xs.reverse))) fun U W H x a s Q lv xa h q => ?_
  unfold fRevL at h
  cases e : asLs a with
  | none => rw [e] at h; cases h
  | some ds =>
    rw [e] at h; cases h
    obtain ⟨p, xs, rfl, e2, t⟩ := asLs_of xa e
    exact ⟨p, xs, rfl, e2, fun l hl => q _ _ (Got.newL (C := C) lv hl (rps_rev t))⟩
def qRev : Pr := orP (p1 fRevS) (p1 fRevL)
theorem ge_rev (he : GE X C e fe) (hK : C.K = X.K := by rfl) : GE X C (.Subscript e (.Slice none none (some (.UnaryOp .USub (.Constant (.int 1) k p1') p2')) p3') pos) (eCall qRev (eCons fe eNil)) :=
  ge_orP (ge_un pn_revS (pe_revS he)) (ge_un pn_revL (by rw [hK]; exact pe_revL he))

/-! ### repr -/
def reprOk (d : D) : Bool := d.py.showable && !d.py.hasDict && decide (d.py.depth ≤ 60) && decide (d.py.shown.length ≤ 16777216)
def fRepr (s : S) : Option S := match s.tree with
  | some d => if reprOk d then some (.fz (.str d.py.shown.cps.toList)) else none
  | none => none
def rReprU (K : PySem.W.Frag) : List V → Hp → VK → Prop := fun xs H Q => ∃ x d, xs = [x] ∧ Dp K H x d ∧ d.showable = true ∧ d.hasDict = false ∧ d.depth ≤ 60 ∧ d.shown.length ≤ sizeLine ∧ Q (.str d.shown) H
theorem call_reprU (hu : X.A.units + 64 < cLine) (gu : X.A.guards = some []) : CallR X (.builtin "repr") (rReprU X.K) := by
  intro pins s σ H xs us Q I r h
  obtain ⟨x, d, rfl, hd, h1, h2, h3, h4, q⟩ := h
  obtain ⟨u, rfl, r1⟩ := vals1 r
  have ref : ∀ a, x = .ref a → wpAny (model X.prog X.w) X.A (call (.builtin "repr") [u]) (EP X pins σ Q) X.xe s := fun a e => by
    subst e
    cases r1
    obtain ⟨as, rd⟩ := Dp.reads I d _ _ hd rfl
    refine repr_of_reads' rd h1 (fun z => by rw [h2] at z; cases z) gu (by omega) (fun _ _ z => z) (fun h' u tk hk => ?_) h4
    exact ⟨.str d.shown, H, I.kept hk, ⟨u, rfl⟩, q⟩
  cases hd with
  | non => cases r1; exact PySem.P.repr_of_none ⟨.str _, H, I.tok _, ⟨_, rfl⟩, q⟩
  | bl b => cases r1; exact PySem.P.repr_of_bool ⟨.str _, H, I.tok _, ⟨_, rfl⟩, q⟩
  | int i =>
    obtain ⟨t, rfl⟩ := r1
    exact PySem.P.repr_of_int (of_decide_eq_true h1) ⟨.str _, H, I.tok _, ⟨_, rfl⟩, q⟩
  | str z =>
    obtain ⟨t, rfl⟩ := r1
    exact PySem.P.repr_of_str ⟨.str _, H, I.tok _, ⟨_, rfl⟩, q⟩ h4
  | lst _ _ => exact ref _ rfl
  | tup _ _ => exact ref _ rfl
theorem toStr (z : Str) : z = ⟨z.cps.toList.toArray⟩ := by cases z; simp
theorem pn_repr : PN C (rReprU C.K) (p1 fRepr) := by
  intro U W H vs ss s Q lv hs hp q
  match ss, hs, hp with
  | [a], .cons (a := x) xa .nil, hp =>
    have h : (match a.tree with | some d => if reprOk d then some (S.fz (.str d.py.shown.cps.toList)) else none | none => none) = some s := hp
    cases e : a.tree with
    | none => rw [e] at h; cases h
    | some d =>
      rw [e] at h
      dsimp only at h
      by_cases z : reprOk d = true
      · rw [if_pos z] at h; cases h
        unfold reprOk at z
        simp only [Bool.and_eq_true, Bool.not_eq_true', decide_eq_true_eq] at z
        obtain ⟨⟨⟨z3, z4⟩, z5⟩, z6⟩ := z
        have f := q (.str ⟨d.py.shown.cps.toList.toArray⟩) H (.same (.str _))
        rw [← toStr] at f
        exact ⟨x, d.py, rfl, tree_dp xa e z4, z3, z4, z5, by rw [sizeLine_eq]; exact z6, f⟩
      · rw [if_neg z] at h; cases h
end
end GB

/-! rules in short, for a printed term -/
namespace GB
open PySem PySem.Spec PyProof.Rows L2
abbrev e1 (p : Pr) (fa : Rho → Rs Opd) : Rho → Rs Opd := eCall p (eCons fa eNil)
abbrev e2 (p : Pr) (fa fb : Rho → Rs Opd) : Rho → Rs Opd := eCall p (eCons fa (eCons fb eNil))
theorem rp_str {K : PySem.W.Frag} {W : Addr → Prop} {H : Hp} {x : Str} {l : List Nat} (h : x = ⟨l.toArray⟩) : Rp K W H (.str x) (.str l) := by subst h; exact .str l
section
variable {X : Cx} {C : Ct} {a b c e : Expr} {es : List Expr} {fa fb fc fe fo : Rho → Rs Opd} {fs : Rho → Rs (List Opd)} {pos p px : Pos} {i : Nat} {x : Str}
theorem x_var (i : Nat) (hN : X.N[i]? = some x := by rfl) (hv : Vis X.env.scope x := by first | exact Or.inl rfl | exact Or.inr (Or.inl rfl) | exact Or.inr (Or.inr rfl)) (hd : (x == ("__debug__" : Str)) = false := by decide) (hcd : (x == ("__classdict__" : Str)) = false := by decide) :
    GE X C (.Name x pos) (eVar i) := ge_var hN hv hd hcd
theorem x_int {n : Int} {j : Nat} : GE X C (.Constant (.int n) j pos) (eC (.int n)) := ge_c pe_int fun _ _ => .int n
theorem x_bl {k : Bool} {j : Nat} : GE X C (.Constant (.bool k) j pos) (eC (.bl k)) := ge_c pe_bl fun _ _ => .bl k
theorem x_non {j : Nat} : GE X C (.Constant .none j pos) (eC .non) := ge_c pe_non fun _ _ => .non
theorem x_str {z : Str} {j : Nat} (l : List Nat) (h : z = ⟨l.toArray⟩ := by rfl) : GE X C (.Constant (.str z) j pos) (eC (.str l)) := ge_c pe_str fun _ _ => rp_str h
/-- a text of the module -/
theorem x_gstr {z : Str} (l : List Nat) (h : ∃ u, X.mg x = some u ∧ RelV (.str z) u) (hl : z = ⟨l.toArray⟩ := by rfl) (hg : Gl X x := by rfl) (hd : (x == ("__debug__" : Str)) = false := by decide) : GE X C (.Name x pos) (eC (.str l)) :=
  ge_c (C8.pe_gc hg h hd) fun _ _ => rp_str hl
/-! operators -/
theorem x_add (ha : GE X C a fa) (hb : GE X C b fb) (hK : C.K = X.K := by rfl) : GE X C (.BinOp a .Add b pos) (e2 (p2 fAdd) fa fb) := ge_op pn_add (by rw [hK]; exact pe_op op_addU ha hb)
theorem x_sub (ha : GE X C a fa) (hb : GE X C b fb) : GE X C (.BinOp a .Sub b pos) (e2 (p2 (fInts fun i j => some (.fz (.int (i - j))))) fa fb) := ge_op pn_sub (pe_op op_sub ha hb)
theorem x_mul (ha : GE X C a fa) (hb : GE X C b fb) : GE X C (.BinOp a .Mult b pos) (e2 (p2 fMul) fa fb) := ge_op pn_mul (pe_op op_mulU ha hb)
theorem x_mod (ha : GE X C a fa) (hb : GE X C b fb) : GE X C (.BinOp a .Mod b pos) (e2 (p2 (fInts fModI)) fa fb) := ge_op pn_mod (pe_op op_mod ha hb)
theorem x_div (ha : GE X C a fa) (hb : GE X C b fb) : GE X C (.BinOp a .FloorDiv b pos) (e2 (p2 (fInts fDivI)) fa fb) := ge_op pn_div (pe_op op_fdiv ha hb)
theorem x_pow (ha : GE X C a fa) (hb : GE X C b fb) : GE X C (.BinOp a .Pow b pos) (e2 (p2 (fInts fPowI)) fa fb) := ge_op pn_pow (pe_op op_pow ha hb)
theorem x_neg (ha : GE X C a fa) : GE X C (.UnaryOp .USub a pos) (e1 (p1 fNeg) fa) := ge_un pn_neg (pe_un un_neg ha)
/-! comparisons, as values and as tests -/
abbrev qLt : Pr := p2 (fInts fun i j => some (.fz (.bl (decide (i < j)))))
abbrev qLe : Pr := p2 (fInts fun i j => some (.fz (.bl (decide (i ≤ j)))))
abbrev qGt : Pr := p2 (fInts fun i j => some (.fz (.bl (decide (j < i)))))
abbrev qGe : Pr := p2 (fInts fun i j => some (.fz (.bl (decide (j ≤ i)))))
theorem x_lt (ha : GE X C a fa) (hb : GE X C b fb) : GE X C (.Compare a [.Lt] [b] pos) (e2 qLt fa fb) := ge_op (pn_cmpI fun i j => decide (i < j)) (pe_cmpR op_lt ha hb (nobehind _ (by decide) (by decide)))
theorem x_le (ha : GE X C a fa) (hb : GE X C b fb) : GE X C (.Compare a [.LtE] [b] pos) (e2 qLe fa fb) := ge_op (pn_cmpI fun i j => decide (i ≤ j)) (pe_cmpR op_le ha hb (nobehind _ (by decide) (by decide)))
theorem x_gt (ha : GE X C a fa) (hb : GE X C b fb) : GE X C (.Compare a [.Gt] [b] pos) (e2 qGt fa fb) := ge_op (pn_cmpI fun i j => decide (j < i)) (pe_cmpR op_gt ha hb (nobehind _ (by decide) (by decide)))
theorem x_ge (ha : GE X C a fa) (hb : GE X C b fb) : GE X C (.Compare a [.GtE] [b] pos) (e2 qGe fa fb) := ge_op (pn_cmpI fun i j => decide (j ≤ i)) (pe_cmpR op_ge ha hb (nobehind _ (by decide) (by decide)))
theorem t_lt (ha : GE X C a fa) (hb : GE X C b fb) : GT X C (.Compare a [.Lt] [b] pos) (eBl (e2 qLt fa fb)) := gt_cmp op_lt (pn_cmpI fun i j => decide (i < j)) ha hb (nobehind _ (by decide) (by decide))
theorem t_le (ha : GE X C a fa) (hb : GE X C b fb) : GT X C (.Compare a [.LtE] [b] pos) (eBl (e2 qLe fa fb)) := gt_cmp op_le (pn_cmpI fun i j => decide (i ≤ j)) ha hb (nobehind _ (by decide) (by decide))
theorem t_gt (ha : GE X C a fa) (hb : GE X C b fb) : GT X C (.Compare a [.Gt] [b] pos) (eBl (e2 qGt fa fb)) := gt_cmp op_gt (pn_cmpI fun i j => decide (j < i)) ha hb (nobehind _ (by decide) (by decide))
theorem t_ge (ha : GE X C a fa) (hb : GE X C b fb) : GT X C (.Compare a [.GtE] [b] pos) (eBl (e2 qGe fa fb)) := gt_cmp op_ge (pn_cmpI fun i j => decide (j ≤ i)) ha hb (nobehind _ (by decide) (by decide))
theorem hu64 {A : Around} {k : Nat} (hr : Room k A) : A.units + 64 < cLine := by have := hr.un; omega
theorem hu1 {A : Around} {k : Nat} (hr : Room k A) : A.units + 1 < cLine := by have := hr.un; omega
theorem x_eq (hr : X.A.units + 64 < cLine) (ha : GE X C a fa) (hb : GE X C b fb) (hK : C.K = X.K := by rfl) : GE X C (.Compare a [.Eq] [b] pos) (e2 (p2 fEq) fa fb) := ge_op pn_eq (by rw [hK]; exact pe_cmpR (op_eqU hr) ha hb (nobehind _ (by decide) (by decide)))
theorem x_ne (hr : X.A.units + 64 < cLine) (ha : GE X C a fa) (hb : GE X C b fb) (hK : C.K = X.K := by rfl) : GE X C (.Compare a [.NotEq] [b] pos) (e2 (p2 fNe) fa fb) := ge_op pn_ne (by rw [hK]; exact pe_cmpR (op_neU hr) ha hb (nobehind _ (by decide) (by decide)))
theorem t_eq (hr : X.A.units + 64 < cLine) (ha : GE X C a fa) (hb : GE X C b fb) (hK : C.K = X.K := by rfl) : GT X C (.Compare a [.Eq] [b] pos) (eBl (e2 (p2 fEq) fa fb)) := gt_cmp (by rw [hK]; exact op_eqU hr) pn_eq ha hb (nobehind _ (by decide) (by decide))
theorem t_ne (hr : X.A.units + 64 < cLine) (ha : GE X C a fa) (hb : GE X C b fb) (hK : C.K = X.K := by rfl) : GT X C (.Compare a [.NotEq] [b] pos) (eBl (e2 (p2 fNe) fa fb)) := gt_cmp (by rw [hK]; exact op_neU hr) pn_ne ha hb (nobehind _ (by decide) (by decide))
theorem x_in (hr : X.A.units + 64 < cLine) (ha : GE X C a fa) (hb : GE X C b fb) (hK : C.K = X.K := by rfl) (hm : behindInMarks .In b = false := by with_unfolding_all rfl) : GE X C (.Compare a [.In] [b] pos) (e2 qIn fa fb) := ge_op pn_inA (by rw [hK]; exact pe_cmpR (op_inA (by omega)) ha hb hm)
theorem x_notIn (hr : X.A.units + 64 < cLine) (ha : GE X C a fa) (hb : GE X C b fb) (hK : C.K = X.K := by rfl) (hm : behindInMarks .NotIn b = false := by with_unfolding_all rfl) : GE X C (.Compare a [.NotIn] [b] pos) (e2 qNotIn fa fb) := ge_op pn_notInA (by rw [hK]; exact pe_cmpR (op_notInA (by omega)) ha hb hm)
theorem t_in (hr : X.A.units + 64 < cLine) (ha : GE X C a fa) (hb : GE X C b fb) (hK : C.K = X.K := by rfl) (hm : behindInMarks .In b = false := by with_unfolding_all rfl) : GT X C (.Compare a [.In] [b] pos) (eBl (e2 qIn fa fb)) := gt_cmp (by rw [hK]; exact op_inA (by omega)) pn_inA ha hb hm
theorem t_notIn (hr : X.A.units + 64 < cLine) (ha : GE X C a fa) (hb : GE X C b fb) (hK : C.K = X.K := by rfl) (hm : behindInMarks .NotIn b = false := by with_unfolding_all rfl) : GT X C (.Compare a [.NotIn] [b] pos) (eBl (e2 qNotIn fa fb)) := gt_cmp (by rw [hK]; exact op_notInA (by omega)) pn_notInA ha hb hm
theorem x_isN (ha : GE X C a fa) (hb : GE X C b fb) : GE X C (.Compare a [.Is] [b] pos) (e2 (p2 fIsN) fa fb) := ge_op pn_isN (pe_cmpR op_isN ha hb (nobehind _ (by decide) (by decide)))
theorem t_isN (ha : GE X C a fa) (hb : GE X C b fb) : GT X C (.Compare a [.Is] [b] pos) (eBl (e2 (p2 fIsN) fa fb)) := gt_cmp op_isN pn_isN ha hb (nobehind _ (by decide) (by decide))
/-! displays, subscripts -/
theorem x_tup {n : Nat} (h : GA X C es fs) : GE X C (.Tuple es n pos) (eTup fs) := ge_tup (pe_tup h)
theorem x_lst (h : GA X C es fs) : GE X C (.List es pos) (eLst fs) := ge_lst (pe_lst h)
abbrev qIx : Pr := orP (p2 fIx) (p2 fDGet)
theorem x_ix (hr : X.A.units + 64 < cLine) (ha : GE X C a fa) (hb : GE X C b fb) (hK : C.K = X.K := by rfl) (hs : PlainIx b := by intro _ _; rfl) (hn : NoSl b := by intro _ _; rfl) : GE X C (.Subscript a b pos) (e2 qIx fa fb) :=
  ge_sub (by omega) hn ha hb (ge_op pn_ix (by rw [hK]; exact pe_ix ix_seq ha hb hs))
abbrev eSl (fa : Rho → Rs Opd) (fl fh : Option (Rho → Rs Opd)) : Rho → Rs Opd := eCall (p3 fSl) (eCons fa (eCons (ePart fl) (eCons (ePart fh) eNil)))
theorem x_sl {lo hi : Option Expr} {fl fh : Option (Rho → Rs Opd)} (ha : GE X C a fa) (hl : GP X C lo fl) (hh : GP X C hi fh) (hK : C.K = X.K := by rfl) : GE X C (.Subscript a (.Slice lo hi none p) pos) (eSl fa fl fh) :=
  ge_slice sl_U (by rw [← hK]; exact pn_sl) ha hl hh
theorem x_rev {k : Nat} {q1 q2 q3 : Pos} (ha : GE X C a fa) (hK : C.K = X.K := by rfl) : GE X C (.Subscript a (.Slice none none (some (.UnaryOp .USub (.Constant (.int 1) k q1) q2)) q3) pos) (e1 qRev fa) := ge_rev ha hK
/-! built-in calls -/
theorem x_len (hm : X.mg "len" = none) (ha : GE X C a fa) (hK : C.K = X.K := by rfl) (hg : Gl X "len" := by rfl) (hs : starEach [a] X.env = (false, eval a X.env) :: starEach [] X.env := by rfl) : GE X C (.Call (.Name "len" p) [a] [] pos) (e1 (p1 fLen) fa) :=
  ge_call pn_len (by rw [hK]; exact pe_callB call_len hg hm PySem.boot_len (ga_cons ha ga_nil hs) (he := hs))
theorem x_list (hm : X.mg "list" = none) (ha : GE X C a fa) (hK : C.K = X.K := by rfl) (hg : Gl X "list" := by rfl) (hs : starEach [a] X.env = (false, eval a X.env) :: starEach [] X.env := by rfl) : GE X C (.Call (.Name "list" p) [a] [] pos) (e1 (p1 fList) fa) :=
  ge_call pn_list (by rw [hK]; exact pe_callTy call_list_of hg hm PyProof.Rows.boot_list (ga_cons ha ga_nil hs) (he := hs))
theorem x_tuple (hm : X.mg "tuple" = none) (ha : GE X C a fa) (hK : C.K = X.K := by rfl) (hg : Gl X "tuple" := by rfl) (hs : starEach [a] X.env = (false, eval a X.env) :: starEach [] X.env := by rfl) : GE X C (.Call (.Name "tuple" p) [a] [] pos) (e1 (p1 fTuple) fa) :=
  ge_call pn_tuple (by rw [hK]; exact pe_callTy call_tuple_of hg hm PyProof.Rows.boot_tuple (ga_cons ha ga_nil hs) (he := hs))
theorem x_int1 (hm : X.mg "int" = none) (ha : GE X C a fa) (hg : Gl X "int" := by rfl) (hs : starEach [a] X.env = (false, eval a X.env) :: starEach [] X.env := by rfl) : GE X C (.Call (.Name "int" p) [a] [] pos) (e1 (p1 fInt1) fa) :=
  ge_call pn_int1 (pe_callTy call_int1 hg hm PyProof.Rows.boot_int (ga_cons ha ga_nil hs) (he := hs))
theorem x_repr (hr : X.A.units + 64 < cLine) (gu : X.A.guards = some []) (hm : X.mg "repr" = none) (ha : GE X C a fa) (hK : C.K = X.K := by rfl) (hg : Gl X "repr" := by rfl) (hs : starEach [a] X.env = (false, eval a X.env) :: starEach [] X.env := by rfl) : GE X C (.Call (.Name "repr" p) [a] [] pos) (e1 (p1 fRepr) fa) :=
  ge_call pn_repr (by rw [hK]; exact pe_callB (call_reprU hr gu) hg hm PyProof.Rows.boot_repr (ga_cons ha ga_nil hs) (he := hs))
end
end GB

/-! methods, calls of defs, statements, in short -/
namespace GB
open PySem PySem.Spec PyProof.Rows L2
section
variable {X : Cx} {C : Ct} {a b c e o : Expr} {es : List Expr} {fa fb fc fe fo : Rho → Rs Opd} {fs : Rho → Rs (List Opd)} {pos p px apos cpos : Pos} {i : Nat} {x : Str}
theorem x_lower (ho : GE X C o fo) (hbase : attributeBase o "lower" X.env (eval o X.env) = eval o X.env := by rfl) (hline : (apos.endLine == cpos.line) = true := by rfl) : GE X C (.Call (.Attribute o "lower" apos) [] [] cpos) (eMeth isStr (p1 fLower) fo eNil) :=
  ge_meth0 (pe_bm0 PySem.F.plainAttrs_str PySem.F.slot_str_lower PySem.F.type_str_lower mt_lower ho hbase hline) isStr_ty pn_lower
theorem x_upper (ho : GE X C o fo) (hbase : attributeBase o "upper" X.env (eval o X.env) = eval o X.env := by rfl) (hline : (apos.endLine == cpos.line) = true := by rfl) : GE X C (.Call (.Attribute o "upper" apos) [] [] cpos) (eMeth isStr (p1 fUpper) fo eNil) :=
  ge_meth0 (pe_bm0 PySem.F.plainAttrs_str PySem.F.slot_str_upper PySem.F.type_str_upper mt_upper ho hbase hline) isStr_ty pn_upper
/-- what a method call of a built-in asks of the text -/
structure MCall (X : Cx) (o : Expr) (m : Str) (apos : Pos) (e : Expr) (es : List Expr) (cpos : Pos) : Prop where
  base : attributeBase o m X.env (eval o X.env) = eval o X.env
  few : ((backTo cpos (starEach (e :: es) X.env)).all (fun x => !x.1) && (backToKw cpos (keywordEach [] X.env)).all (fun x => x.1.isSome)
      && decide ((e :: es).length + ([] : List Keyword).length + (if ([] : List Keyword).isEmpty then 0 else 1) < 30)) = true
  line : (apos.endLine == cpos.line) = true
  star : starEach (e :: es) X.env = (false, eval e X.env) :: starEach es X.env
  plain : (backTo cpos (starEach es X.env)).any (·.1) = false
theorem x_join (ho : GE X C o fo) (ha : GE X C e fe) (mc : MCall X o "join" apos e [] cpos) (hK : C.K = X.K := by rfl) : GE X C (.Call (.Attribute o "join" apos) [e] [] cpos) (eMeth isStr (p2 fJoin) fo (eCons fe eNil)) :=
  ge_meth (pe_bm PySem.F.plainAttrs_str PySem.F.slot_str_join PySem.F.type_str_join mt_join ho (ga_cons ha ga_nil mc.star) mc.base mc.few mc.line mc.star mc.plain) isStr_ty (by rw [← hK]; exact pn_join)
theorem x_sindex (ho : GE X C o fo) (ha : GE X C e fe) (mc : MCall X o "index" apos e [] cpos) : GE X C (.Call (.Attribute o "index" apos) [e] [] cpos) (eMeth isStr (p2 fSIndex) fo (eCons fe eNil)) :=
  ge_meth (pe_bm PySem.F.plainAttrs_str PySem.F.slot_str_index PySem.F.type_str_index mt_sindex ho (ga_cons ha ga_nil mc.star) mc.base mc.few mc.line mc.star mc.plain) isStr_ty pn_sindex
/-! methods that write -/
theorem x_append (hN : X.N[i]? = some x) (hv : Vis X.env.scope x) (ha : GE X C e fe) (mc : MCall X (.Name x px) "append" apos e [] cpos) (hK : C.K = X.K := by rfl) (hd : (x == ("__debug__" : Str)) = false := by decide) (hcd : (x == ("__classdict__" : Str)) = false := by decide) :
    GE X C (.Call (.Attribute (.Name x px) "append" apos) [e] [] cpos) (eMut isOL (mOf fApp) i (eCons fe eNil)) :=
  ge_mut (by rw [hK]; exact pe_bm PySem.F.plainAttrs_list PySem.F.slot_list_append PySem.F.type_list_append mt_append (pe_var hN hv hd hcd) (ga_cons ha ga_nil mc.star) mc.base mc.few mc.line mc.star mc.plain) isOL_ty mu_append
theorem x_extend (hN : X.N[i]? = some x) (hv : Vis X.env.scope x) (ha : GE X C e fe) (mc : MCall X (.Name x px) "extend" apos e [] cpos) (hK : C.K = X.K := by rfl) (hd : (x == ("__debug__" : Str)) = false := by decide) (hcd : (x == ("__classdict__" : Str)) = false := by decide) :
    GE X C (.Call (.Attribute (.Name x px) "extend" apos) [e] [] cpos) (eMut isOL (mOf fExt) i (eCons fe eNil)) :=
  ge_mut (by rw [hK]; exact pe_bm PySem.F.plainAttrs_list PySem.F.slot_list_extend PySem.F.type_list_extend mt_extend (pe_var hN hv hd hcd) (ga_cons ha ga_nil mc.star) mc.base mc.few mc.line mc.star mc.plain) isOL_ty mu_extend
theorem x_insert (hN : X.N[i]? = some x) (hv : Vis X.env.scope x) (ha : GA X C [a, b] fs) (mc : MCall X (.Name x px) "insert" apos a [b] cpos) (hK : C.K = X.K := by rfl) (hd : (x == ("__debug__" : Str)) = false := by decide) (hcd : (x == ("__classdict__" : Str)) = false := by decide) :
    GE X C (.Call (.Attribute (.Name x px) "insert" apos) [a, b] [] cpos) (eMut isOL (mOf fIns) i fs) :=
  ge_mut (by rw [hK]; exact pe_bm PySem.F.plainAttrs_list PySem.F.slot_list_insert PySem.F.type_list_insert mt_insert (pe_var hN hv hd hcd) ha mc.base mc.few mc.line mc.star mc.plain) isOL_ty mu_insert
theorem x_pop (hN : X.N[i]? = some x) (hv : Vis X.env.scope x) (hbase : attributeBase (.Name x px) "pop" X.env (eval (.Name x px) X.env) = eval (.Name x px) X.env := by rfl) (hline : (apos.endLine == cpos.line) = true := by rfl) (hK : C.K = X.K := by rfl) (hd : (x == ("__debug__" : Str)) = false := by decide) (hcd : (x == ("__classdict__" : Str)) = false := by decide) :
    GE X C (.Call (.Attribute (.Name x px) "pop" apos) [] [] cpos) (eMut isOL (mOf fPop0) i eNil) :=
  ge_mut0 (by rw [hK]; exact pe_bm0 PySem.F.plainAttrs_list PySem.F.slot_list_pop PySem.F.type_list_pop mt_pop (pe_var hN hv hd hcd) hbase hline) isOL_ty mu_pop

/-! calls of defs -/
/-- a def of the module, its function shown -/
def DefOk (P : Program) (w : World) (K : PySem.W.Frag) (mg : Str → Option Value) (base : Heap) (k : Nat) (x : Str) (ps : List Str) (F : Fs) : Prop :=
  ∃ f fd, FnG P w K mg base k f fd ps (spF (ct0 K mg) ps.length F) ∧ mg x = some (.ref f) ∧ PySem.W.keepIn K (.ref f) = true ∧ Binds K fd ps []
theorem x_fn {k j : Nat} {ps : List Str} {F : Fs} (c : DefOk X.prog X.w X.K X.mg X.base j x ps F) (hr : Room k X.A) (hj : j ≤ k) (gu : X.A.guards = some []) (tk : Takes X C.W) (ha : GA X C (e :: es) fs) (ar : Ar fs ps.length) (hK : C.K = X.K := by rfl) (hM : C.mg = X.mg := by rfl) (hg : Gl X x := by rfl) (hdb : (x == ("__debug__" : Str)) = false := by decide)
    (he : starEach (e :: es) X.env = (false, eval e X.env) :: starEach es X.env := by rfl) (hpl : (backTo pos (starEach es X.env)).any (·.1) = false := by rfl) : GE X C (.Call (.Name x p) (e :: es) [] pos) (eFn F fs) := by
  obtain ⟨f, fd, G, hm, hk, hb⟩ := c
  exact ge_callF G (hr.mono hj) gu hg hm hk hb tk ha ar hK hM hdb he hpl
theorem x_fn0 {k j : Nat} {F : Fs} (c : DefOk X.prog X.w X.K X.mg X.base j x [] F) (hr : Room k X.A) (hj : j ≤ k) (gu : X.A.guards = some []) (tk : Takes X C.W) (hK : C.K = X.K := by rfl) (hM : C.mg = X.mg := by rfl) (hg : Gl X x := by rfl) (hdb : (x == ("__debug__" : Str)) = false := by decide) : GE X C (.Call (.Name x p) [] [] pos) (eFn F eNil) := by
  obtain ⟨f, fd, G, hm, hk, hb⟩ := c
  exact ge_callF0 G (hr.mono hj) gu hg hm hk hb tk hK hM hdb
/-- a def of the module, by its text -/
def DefAt (K : PySem.W.Frag) (mg : Str → Option Value) (x : Str) (ps : List Str) (st : Stmt) : Prop :=
  ∃ f fd, L2.Fun K x x st f fd ∧ mg x = some (.ref f) ∧ Binds K fd ps []
theorem def_at {P : Program} {w : World} {K : PySem.W.Frag} {mg : Str → Option Value} {base : Heap} {x : Str} {st : Stmt} {N ps : List Str} {k : Nat} {body : Rho → Fl} (d : DefAt K mg x ps st) (Sc : FnScope N ps (defScope st))
    (hb : ∀ (f : Addr) (cdv : Value) (A : Around) (l : List Env) (t : Shared) (H : Hp) (E : XK), Room k (A.deeper (envOfC x (defScope st) t.heap.objs.size f cdv)) → A.guards = some [] → GSs (bodyCx P w K mg base N x st f cdv A l t H E) (bodyCt K mg E) (defBody st) body) :
    DefOk P w K mg base (k + 1) x ps (runF N.length body) := by
  obtain ⟨f, fd, F, hm, b⟩ := d
  exact ⟨f, fd, def_ok F Sc (hb f), hm, F.kp, b⟩
section
variable {P : Program} {w : World} {K : PySem.W.Frag} {mg : Str → Option Value} {base : Heap} {N : List Str} {qual : Str} {st : Stmt} {f : Addr} {cdv : Value} {A : Around} {l : List Env} {t : Shared} {H : Hp} {E : XK}
theorem tkB : Takes (bodyCx P w K mg base N qual st f cdv A l t H E) (bodyCt K mg E).W := takes_of rfl rfl rfl rfl
theorem psB : PassesOwn (model (bodyCx P w K mg base N qual st f cdv A l t H E).prog (bodyCx P w K mg base N qual st f cdv A l t H E).w) (bodyCx P w K mg base N qual st f cdv A l t H E).A (bodyCx P w K mg base N qual st f cdv A l t H E).env (bodyCx P w K mg base N qual st f cdv A l t H E).xe := passes_of rfl
end
theorem tkQ : Takes X (C.quiet).W := fun _ _ ⟨_, _, _, _, _, _, _, _, _, _, _, _, _, _, _, _, w⟩ => w.elim
end
end GB

/-! what the functions do, for simp; loops by induction -/
namespace GB
open PySem PySem.Spec PyProof.Rows L2
variable {α β : Type} {r : Rho} {i : Nat}
@[simp] theorem bind_ok {a : α} {f : α → Rho → Rs β} : (Rs.ok a r).bind f = f a r := rfl
@[simp] theorem bind_ex {c fs} {f : α → Rho → Rs β} : (Rs.ex c fs r).bind f = .ex c fs r := rfl
@[simp] theorem bind_st {f : α → Rho → Rs β} : (Rs.st : Rs α).bind f = .st := rfl
@[simp] theorem ofR_ok {a : α} {k : α → Rho → Fl} : ofR (.ok a r) k = k a r := rfl
@[simp] theorem ofR_ex {c fs} {k : α → Rho → Fl} : ofR (.ex c fs r) k = .ex c fs r := rfl
@[simp] theorem ofR_st {k : α → Rho → Fl} : ofR (.st : Rs α) k = .st := rfl
section
variable {fa fb fc fe fi fo : Rho → Rs Opd} {ft gt : Rho → Rs Bool} {fs : Rho → Rs (List Opd)} {f g : Rho → Fl} {p q : Pr} {os : List Opd} {o : Opd} {F : Fs} {s : S} {d : D}
@[simp] theorem s_eC : eC d r = .ok (.val (.fz d)) r := rfl
@[simp] theorem s_eNil : eNil r = .ok [] r := rfl
@[simp] theorem s_eCons : eCons fe fs r = (fe r).bind fun o r1 => (fs r1).bind fun os r2 => .ok (o :: os) r2 := rfl
@[simp] theorem s_eCall : eCall p fs r = (fs r).bind (eP p) := rfl
@[simp] theorem s_eVar : eVar i r = match r[i]? with | some (some _) => .ok (.loc i) r | _ => .st := rfl
@[simp] theorem s_eP : eP p os r = match resAll r os with | some ss => (match p ss with | some s => .ok (.val s) r | none => .st) | none => .st := rfl
@[simp] theorem s_res1 : resAll r [] = some [] := rfl
@[simp] theorem s_res2 : resAll r (o :: os) = match res r o, resAll r os with | some s, some ss => some (s :: ss) | _, _ => none := rfl
@[simp] theorem s_resL : res r (.loc i) = (r[i]?).join := rfl
@[simp] theorem s_resV : res r (.val s) = some s := rfl
@[simp] theorem s_eIf : eIf ft fa fb r = (ft r).bind fun b r1 => if b then fa r1 else fb r1 := rfl
@[simp] theorem s_eBl : eBl fe r = (fe r).bind tBl := rfl
@[simp] theorem s_tBl {b : Bool} : tBl (.val (.fz (.bl b))) r = .ok b r := rfl
@[simp] theorem s_eTru : eTru fe r = (fe r).bind tTru := rfl
@[simp] theorem s_tTru : tTru o r = match res r o with | some s => (match tru s with | some b => .ok b r | none => .st) | none => .st := rfl
@[simp] theorem s_eNotT : eNotT ft r = (ft r).bind fun b r1 => .ok (!b) r1 := rfl
@[simp] theorem s_eAndT : eAndT ft gt r = (ft r).bind fun b r1 => if b then gt r1 else .ok false r1 := rfl
@[simp] theorem s_eOrT : eOrT ft gt r = (ft r).bind fun b r1 => if b then .ok true r1 else gt r1 := rfl
@[simp] theorem s_fSeq : fSeq f g r = match f r with | .nx r1 => g r1 | z => z := rfl
@[simp] theorem s_fNil : fNil r = .nx r := rfl
@[simp] theorem s_fRet : fRet fe r = ofR (fe r) handed := by unfold fRet; cases fe r <;> rfl
@[simp] theorem s_fExpr : fExpr fe r = ofR (fe r) fun _ r1 => .nx r1 := by unfold fExpr; cases fe r <;> rfl
@[simp] theorem s_fSet : fSet i fe r = ofR (fe r) (putS i) := by unfold fSet; cases fe r <;> rfl
@[simp] theorem s_fIf : fIf ft f g r = ofR (ft r) fun b r1 => if b then f r1 else g r1 := rfl
@[simp] theorem s_p1 {h : S → Option S} : p1 h [s] = h s := rfl
@[simp] theorem s_p2 {h : S → S → Option S} {t : S} : p2 h [s, t] = h s t := rfl
@[simp] theorem s_p3 {h : S → S → S → Option S} {t u : S} : p3 h [s, t, u] = h s t u := rfl
@[simp] theorem s_eMeth {tt : S → Bool} : eMeth tt p fo fs r = (fo r).bind fun o r1 => match res r1 o with | some s => if tt s then (fs r1).bind fun os r2 => eP p (o :: os) r2 else .st | none => .st := rfl
@[simp] theorem s_isStr {w : List Nat} : isStr (.fz (.str w)) = true := rfl
@[simp] theorem s_pass0 : passAll r [] = some [] := rfl
@[simp] theorem s_passc : passAll r (o :: os) = match pass1 r o, passAll r os with | some s, some ss => some (s :: ss) | _, _ => none := rfl
@[simp] theorem s_pass1v : pass1 r (.val (.fz d)) = some (.fz d) := rfl
@[simp] theorem s_pass1o {ds : List D} : pass1 r (.val (.ol ds)) = some (.fz (.lst ds)) := rfl
@[simp] theorem s_pass1l : pass1 r (.loc i) = match r[i]? with | some (some s) => (match s with | .fz d => some (.fz d) | .ol ds => some (.br ds) | .br ds => some (.br ds) | .lk ds => some (.lk ds) | .od k => some (.bd k) | .bd k => some (.bd k) | .kd k => some (.kd k) | .exc _ _ _ _ => none) | _ => none := rfl
@[simp] theorem s_eFn : eFn F fs r = (fs r).bind (eFnO F) := rfl
@[simp] theorem s_eFnO : eFnO F os r = match passAll r os with | some ss => if dst r os then (match F ss with | .ok s outs => (match wbAll os outs r with | some r1 => .ok (.val s) r1 | none => .st) | .ex c fs outs => (match wbAll os outs r with | some r1 => .ex c fs r1 | none => .st) | .st => .st) else .st | none => .st := rfl
@[simp] theorem s_dst0 : dst r [] = true := rfl
@[simp] theorem s_dstv : dst r (.val s :: os) = dst r os := rfl
@[simp] theorem s_dstl : dst r (.loc i :: os) = ((if hardAt r i then !(os.any (isLoc i)) else true) && dst r os) := rfl
@[simp] theorem s_isLocv : isLoc i (.val s) = false := rfl
@[simp] theorem s_isLocl {j : Nat} : isLoc i (.loc j) = (i == j) := rfl
@[simp] theorem s_hardAt : hardAt r i = match r[i]? with | some (some s) => !s.soft | _ => false := rfl
@[simp] theorem s_soft1 : S.soft (.fz d) = true := rfl
@[simp] theorem s_soft2 {ds : List D} : S.soft (.ol ds) = false := rfl
@[simp] theorem s_soft3 {ds : List D} : S.soft (.br ds) = false := rfl
@[simp] theorem s_soft4 {ds : List D} : S.soft (.lk ds) = false := rfl
@[simp] theorem s_soft5 {k : List (Key × D)} : S.soft (.od k) = false := rfl
@[simp] theorem s_soft6 {k : List (Key × D)} : S.soft (.bd k) = false := rfl
@[simp] theorem s_soft7 {k : List (Key × D)} : S.soft (.kd k) = false := rfl
@[simp] theorem s_soft8 {a dx : Addr} {c : Str} {q : List (Str × D)} : S.soft (.exc a dx c q) = true := rfl
@[simp] theorem s_hard8 {a dx : Addr} {c : Str} {q : List (Str × D)} : S.hard (.exc a dx c q) = false := rfl
@[simp] theorem s_own8 {a dx : Addr} {c : Str} {q : List (Str × D)} : S.own (.exc a dx c q) = false := rfl
@[simp] theorem s_hard1 : S.hard (.fz d) = false := rfl
@[simp] theorem s_hard2 {ds : List D} : S.hard (.ol ds) = false := rfl
@[simp] theorem s_hard3 {ds : List D} : S.hard (.br ds) = true := rfl
@[simp] theorem s_hard4 {ds : List D} : S.hard (.lk ds) = true := rfl
@[simp] theorem s_hard5 {k : List (Key × D)} : S.hard (.od k) = false := rfl
@[simp] theorem s_hard6 {k : List (Key × D)} : S.hard (.bd k) = true := rfl
@[simp] theorem s_hard7 {k : List (Key × D)} : S.hard (.kd k) = true := rfl
@[simp] theorem s_own1 : S.own (.fz d) = false := rfl
@[simp] theorem s_own2 {ds : List D} : S.own (.ol ds) = true := rfl
@[simp] theorem s_own3 {ds : List D} : S.own (.br ds) = true := rfl
@[simp] theorem s_own4 {ds : List D} : S.own (.lk ds) = false := rfl
@[simp] theorem s_own5 {k : List (Key × D)} : S.own (.od k) = true := rfl
@[simp] theorem s_own6 {k : List (Key × D)} : S.own (.bd k) = true := rfl
@[simp] theorem s_own7 {k : List (Key × D)} : S.own (.kd k) = false := rfl
@[simp] theorem s_wb0 : wbAll [] [] r = some r := rfl
@[simp] theorem s_wbc {t : S} {ts : List S} : wbAll (o :: os) (t :: ts) r = match wb1 o t r with | some r1 => wbAll os ts r1 | none => none := rfl
@[simp] theorem s_wb1v {t : S} : wb1 (.val s) t r = some r := rfl
@[simp] theorem s_wb1l {t : S} : wb1 (.loc i) t r = match r[i]? with
    | some (some (.ol _)) => (match t with | .br ds => some (r.set i (some (.ol ds))) | _ => none)
    | some (some (.br _)) => (match t with | .br ds => some (r.set i (some (.br ds))) | _ => none)
    | some (some (.od _)) => (match t with | .bd ds => some (r.set i (some (.od ds))) | _ => none)
    | some (some (.bd _)) => (match t with | .bd ds => some (r.set i (some (.bd ds))) | _ => none)
    | some (some _) => some r
    | _ => none := rfl
@[simp] theorem s_handv : handed (.val s) r = if s.hard then .st else .rt s r := rfl
@[simp] theorem s_handl : handed (.loc i) r = match r[i]? with
    | some (some (.fz d)) => .rt (.fz d) r
    | some (some (.ol ds)) => .rt (.ol ds) (r.set i none)
    | some (some (.od ds)) => .rt (.od ds) (r.set i none)
    | _ => .st := rfl
@[simp] theorem s_takev : take (.val s) r = if s.hard then none else some (s, r) := rfl
@[simp] theorem s_takel : take (.loc i) r = match frz1 (.loc i) r with | some (d, r1) => some (.fz d, r1) | none => none := rfl
@[simp] theorem s_putS : putS i o r = match take o r with | some (s, r1) => if free r1 i then .nx (r1.set i (some s)) else .st | none => .st := rfl
@[simp] theorem s_free : free r i = match r[i]? with | some none => true | some (some s) => !s.hard | none => false := rfl
@[simp] theorem s_frz1v : frz1 (.val (.fz d)) r = some (d, r) := rfl
@[simp] theorem s_frz1o {ds : List D} : frz1 (.val (.ol ds)) r = some (.lst ds, r) := rfl
@[simp] theorem s_frz1l : frz1 (.loc i) r = match r[i]? with
    | some (some (.fz d)) => some (d, r)
    | some (some (.ol ds)) => some (.lst ds, r.set i (some (.fz (.lst ds))))
    | _ => none := rfl
@[simp] theorem s_frz0 : frzAll [] r = some ([], r) := rfl
@[simp] theorem s_frzc : frzAll (o :: os) r = match frz1 o r with | some (d, r1) => (match frzAll os r1 with | some (ds, r2) => some (d :: ds, r2) | none => none) | none => none := rfl
@[simp] theorem s_eTup : eTup fs r = (fs r).bind fun os r1 => match frzAll os r1 with | some (ds, r2) => if os.length ≤ 1000 then .ok (.val (.fz (.tup ds))) r2 else .st | none => .st := rfl
@[simp] theorem s_eLst : eLst fs r = (fs r).bind fun os r1 => match frzAll os r1 with | some (ds, r2) => if os.length ≤ 1000 then .ok (.val (.ol ds)) r2 else .st | none => .st := rfl
@[simp] theorem s_eMut {tt : S → Bool} {m : Mu} : eMut tt m i fs r = match ownAt r i with | some s => if tt s then (fs r).bind (mutP m i) else .st | none => .st := rfl
@[simp] theorem s_ownAt : ownAt r i = match r[i]? with | some (some s) => if s.own then some s else none | _ => none := rfl
@[simp] theorem s_mutP {m : Mu} : mutP m i os r = match frzAll os r with
    | some (ds, r2) => (match ownAt r2 i with
      | some s => (match m s ds with | some (s', d) => .ok (.val (.fz d)) (r2.set i (some s')) | none => .st)
      | none => .st)
    | none => .st := rfl
@[simp] theorem s_isOL1 {ds : List D} : isOL (.ol ds) = true := rfl
@[simp] theorem s_isOL2 {ds : List D} : isOL (.br ds) = true := rfl
@[simp] theorem s_fPut {m : Mu} : fPut i m fe fi r = ofR (fe r) fun o r1 => match ownAt r1 i with | some _ => ofR (fi r1) fun o2 r2 => ofR (mutP m i [o, o2] r2) fun _ r3 => .nx r3 | none => .st := rfl
@[simp] theorem s_eNot : eNot fa r = (fa r).bind fun o r1 => match blOf o r1 with | some b => .ok (.val (.fz (.bl (!b)))) r1 | none => .st := rfl
@[simp] theorem s_ePartN : ePart none r = .ok (.val (.fz .non)) r := rfl
@[simp] theorem s_ePartS : ePart (some fe) r = (fe r).bind fun o r1 => if isI o r1 then .ok o r1 else .st := rfl
@[simp] theorem s_isI : isI o r = match res r o with | some (.fz (.int _)) => true | _ => false := rfl
@[simp] theorem s_mOf {h : List D → List D → Option (List D × D)} {ds : List D} : mOf h s ds = match asO s with | some xs => (h xs ds).map fun z => (reO s z.1, z.2) | none => none := rfl
@[simp] theorem s_asO1 {ds : List D} : asO (.ol ds) = some ds := rfl
@[simp] theorem s_asO2 {ds : List D} : asO (.br ds) = some ds := rfl
@[simp] theorem s_reO1 {ds es : List D} : reO (.ol ds) es = .ol es := rfl
@[simp] theorem s_reO2 {ds es : List D} : reO (.br ds) es = .br es := rfl
@[simp] theorem s_fFor {mk : List S → Option (List D)} {fg : D → Rho → Option Rho} : fFor fs mk fg f r = ofR (fs r) fun os r1 => match lockAll os r1 with
  | some (ss, r2, u) => (match mk ss with | some ds => mapFl (unlR u) (forL fg f ds r2) | none => .st)
  | none => .st := rfl
@[simp] theorem s_eLc {mk : List S → Option (List D)} {fg : D → Rho → Option Rho} {vs : List Nat} : eLc fs mk fg ft fe vs r = (fs r).bind fun os r1 => match lockAll os r1 with
  | some (ss, r2, u) => (match mk ss with
    | some ds => if softs r2 vs then
        (match cmpL fg ft fe vs ds (wipeR r2 vs) [] with | .ok acc r3 => .ok (.val (.ol acc)) (unlR u (restR r2 r3 vs)) | _ => .st)
        else .st
    | none => .st)
  | none => .st := rfl
@[simp] theorem s_lock0 : lockAll [] r = some ([], r, []) := rfl
@[simp] theorem s_lockc : lockAll (o :: os) r = match lockO o r with
    | some (s, r1, u1) => (match lockAll os r1 with | some (ss, r2, u2) => some (s :: ss, r2, u1 ++ u2) | none => none)
    | none => none := rfl
@[simp] theorem s_lockv : lockO (.val (.fz d)) r = some (.fz d, r, []) := rfl
@[simp] theorem s_locko {ds : List D} : lockO (.val (.ol ds)) r = some (.lk ds, r, []) := rfl
@[simp] theorem s_lockl : lockO (.loc i) r = match r[i]? with
    | some (some (.fz d)) => some (.fz d, r, [])
    | some (some (.lk ds)) => some (.lk ds, r, [])
    | some (some (.ol ds)) => some (.lk ds, r.set i (some (.lk ds)), [(i, .ol ds)])
    | some (some (.br ds)) => some (.lk ds, r.set i (some (.lk ds)), [(i, .br ds)])
    | _ => none := rfl
@[simp] theorem s_unl0 : unlR [] r = r := rfl
@[simp] theorem s_unlc {u : List (Nat × S)} : unlR ((i, s) :: u) r = (unlR u r).set i (some s) := rfl
@[simp] theorem s_softs {vs : List Nat} : softs r (i :: vs) = ((match r[i]? with | some none => true | some (some (.fz _)) => true | _ => false) && softs r vs) := by
  unfold softs
  rw [List.all_cons] <;> congr 1
@[simp] theorem s_softs0 : softs r [] = true := rfl
@[simp] theorem s_wipe0 : wipeR r [] = r := rfl
@[simp] theorem s_wipec {vs : List Nat} : wipeR r (i :: vs) = (wipeR r vs).set i none := rfl
@[simp] theorem s_rest0 {r0 : Rho} : restR r0 r [] = r := rfl
@[simp] theorem s_restc {r0 : Rho} {vs : List Nat} : restR r0 r (i :: vs) = (restR r0 r vs).set i (r0[i]?).join := rfl
@[simp] theorem s_gNm : gNm i d r = if free r i then some (r.set i (some (.fz d))) else none := rfl
@[simp] theorem s_eYes : eYes r = .ok true r := rfl
theorem s_orP {ss : List S} : orP p q ss = match p ss with | none => q ss | z => z := rfl
@[simp] theorem s_runF {n : Nat} {ss : List S} : runF n f ss = match f (startR n ss) with
  | .nx r => .ok (.fz .non) (outsL ss r)
  | .rt s r => .ok s (outsL ss r)
  | .ex c fs r => .ex c fs (outsL ss r)
  | _ => .st := rfl
@[simp] theorem s_outs0 : outsL [] r = [] := rfl
@[simp] theorem s_outsc {ss : List S} : outsL (s :: ss) r = (if s.hard then (match r.head? with | some (some t) => t | _ => s) else s) :: outsL ss r.tail := rfl
@[simp] theorem s_start {n : Nat} {ss : List S} : startR n ss = words ss ++ List.replicate (n - ss.length) none := rfl
@[simp] theorem s_words {ss : List S} : words ss = ss.map some := rfl
@[simp] theorem s_mapnx {h : Rho → Rho} : mapFl h (.nx r) = .nx (h r) := rfl
@[simp] theorem s_mapct {h : Rho → Rho} : mapFl h (.ct r) = .ct (h r) := rfl
@[simp] theorem s_mapbk {h : Rho → Rho} : mapFl h (.bk r) = .bk (h r) := rfl
@[simp] theorem s_maprt {h : Rho → Rho} : mapFl h (.rt s r) = .rt s (h r) := rfl
@[simp] theorem s_mapex {c fs'} {h : Rho → Rho} : mapFl h (.ex c fs' r) = .ex c fs' (h r) := rfl
@[simp] theorem s_fInts {h : Int → Int → Option S} {i j : Int} : fInts h (.fz (.int i)) (.fz (.int j)) = h i j := rfl
@[simp] theorem s_mkR1 {j : Int} : mkR1 [.fz (.int j)] = if small62 j then some (upFrom 0 j.toNat) else none := rfl
@[simp] theorem s_mkR2 {i j : Int} : mkR2 [.fz (.int i), .fz (.int j)] = if small62 i && small62 j then some (upFrom i (j - i).toNat) else none := rfl
@[simp] theorem s_mkSeq : mkSeq [s] = itemsOf s := rfl
end
section
variable {fg : D → Rho → Option Rho} {ft : Rho → Rs Bool} {fe : Rho → Rs Opd} {f : Rho → Fl} {vs : List Nat} {r0 : Rho} {ds acc : List D}
/-- a for loop by a word that holds behind each turn -/
theorem forL_ind (P : Nat → Rho → Prop) : ∀ {ds : List D} {r : Rho} (k : Nat), P k r → (∀ i d r, ds[i]? = some d → P (k + i) r → ∃ r1, fg d r = some r1 ∧ ∃ r2, (f r1 = .nx r2 ∨ f r1 = .ct r2) ∧ P (k + i + 1) r2) → ∃ r', forL fg f ds r = .nx r' ∧ P (k + ds.length) r'
  | [], r, k, h0, hs => ⟨r, rfl, h0⟩
  | d :: ds, r, k, h0, hs => by
    obtain ⟨r1, e1, r2, e2, h2⟩ := hs 0 d r rfl h0
    obtain ⟨r', e3, h3⟩ := forL_ind P (ds := ds) (r := r2) (k + 1) h2 fun i d' r' hd hp => by
      have := hs (i + 1) d' r' (by simpa using hd) (by rw [Nat.add_right_comm] at hp; exact hp)
      rw [Nat.add_right_comm k 1 i]
      exact this
    refine ⟨r', ?_, by rw [List.length_cons, Nat.add_comm ds.length 1, ← Nat.add_assoc]; exact h3⟩
    rw [forL, e1]
    rcases e2 with e2 | e2 <;> simp only [e2] <;> exact e3
theorem forL_inv (P : Nat → Rho → Prop) {ds : List D} {r : Rho} (h0 : P 0 r) (hs : ∀ i d r, ds[i]? = some d → P i r → ∃ r1, fg d r = some r1 ∧ ∃ r2, (f r1 = .nx r2 ∨ f r1 = .ct r2) ∧ P (i + 1) r2) : ∃ r', forL fg f ds r = .nx r' ∧ P ds.length r' := by
  have := forL_ind P (ds := ds) (r := r) 0 h0 fun i d r hd hp => by rw [Nat.zero_add] at hp ⊢; exact hs i d r hd hp
  rw [Nat.zero_add] at this
  exact this
/-- a while loop by a word and a measure -/
theorem fWhile_inv (P : Rho → Prop) (Q : Rho → Prop) (m : Rho → Nat) (hs : ∀ r, P r → (∃ r1, ft r = .ok false r1 ∧ Q r1) ∨ ∃ r1 r2, ft r = .ok true r1 ∧ (f r1 = .nx r2 ∨ f r1 = .ct r2) ∧ P r2 ∧ m r2 < m r) : ∀ r, P r → ∃ r', fWhile ft f r = .nx r' ∧ Q r' := by
  intro r
  induction h : m r using Nat.strongRecOn generalizing r with
  | _ n ih =>
    intro hp
    rcases hs r hp with ⟨r1, e1, h1⟩ | ⟨r1, r2, e1, e2, h2, lt⟩
    · exact ⟨r1, by rw [fWhile_eq, e1]; rfl, h1⟩
    · obtain ⟨r', e3, h3⟩ := ih (m r2) (h ▸ lt) r2 rfl h2
      refine ⟨r', ?_, h3⟩
      rw [fWhile_eq, e1]
      rcases e2 with e2 | e2 <;> simp [e2, e3]
/-- a comprehension whose turns leave the slots as they were -/
theorem cmpL_map (g : D → D) : ∀ {ds acc : List D}, acc.length + ds.length ≤ 16777216 → (∀ d ∈ ds, ∃ r1 r2 o r3 r4, fg d r0 = some r1 ∧ ft r1 = .ok true r2 ∧ fe r2 = .ok o r3 ∧ frz1 o r3 = some (g d, r4) ∧ wipeR r4 vs = r0) → cmpL fg ft fe vs ds r0 acc = .ok (acc ++ ds.map g) r0
  | [], acc, _, _ => by rw [cmpL, List.map_nil, List.append_nil]
  | d :: ds, acc, hl, h => by
    obtain ⟨r1, r2, o, r3, r4, e1, e2, e3, e4, e5⟩ := h d (List.mem_cons_self ..)
    rw [List.length_cons] at hl
    have ih := cmpL_map g (ds := ds) (acc := acc ++ [g d]) (by rw [List.length_append, List.length_singleton]; omega) fun d' hd => h d' (List.mem_cons_of_mem _ hd)
    rw [cmpL, e1]
    simp only [e2, e3, e4]
    rw [if_pos (by omega), e5, ih, List.map_cons, List.append_assoc]
    rfl
/-- a comprehension by a word that holds behind each turn -/
theorem cmpL_inv (P : Nat → Rho → List D → Prop) : ∀ {ds acc : List D} {r : Rho} (k : Nat), acc.length + ds.length ≤ 16777216 → P k r acc → (∀ i d r acc, ds[i]? = some d → P (k + i) r acc → ∃ r1, fg d r = some r1 ∧ ((∃ r2, ft r1 = .ok false r2 ∧ P (k + i + 1) (wipeR r2 vs) acc) ∨
    ∃ r2 o r3 y r4, ft r1 = .ok true r2 ∧ fe r2 = .ok o r3 ∧ frz1 o r3 = some (y, r4) ∧ P (k + i + 1) (wipeR r4 vs) (acc ++ [y]))) → ∃ r' acc', cmpL fg ft fe vs ds r acc = .ok acc' r' ∧ P (k + ds.length) r' acc'
  | [], acc, r, k, _, h0, _ => ⟨r, acc, rfl, h0⟩
  | d :: ds, acc, r, k, hl, h0, hs => by
    rw [List.length_cons] at hl
    have next : ∀ {r' : Rho} {acc' : List D}, acc'.length ≤ acc.length + 1 → P (k + 1) r' acc' → ∃ r'' acc'', cmpL fg ft fe vs ds r' acc' = .ok acc'' r'' ∧ P (k + (ds.length + 1)) r'' acc'' := fun {r' acc'} ha hp => by
      have := cmpL_inv P (ds := ds) (acc := acc') (r := r') (k + 1) (by omega) hp fun i d' r'' a'' hd hq => by
        have := hs (i + 1) d' r'' a'' (by simpa using hd) (by rw [Nat.add_right_comm] at hq; exact hq)
        rw [Nat.add_right_comm k 1 i]
        exact this
      rw [Nat.add_comm ds.length 1, ← Nat.add_assoc]
      exact this
    obtain ⟨r1, e1, ⟨r2, e2, h2⟩ | ⟨r2, o, r3, y, r4, e2, e3, e4, h2⟩⟩ := hs 0 d r acc rfl h0
    · obtain ⟨r', a', e5, h5⟩ := next (by omega) h2
      exact ⟨r', a', by rw [cmpL, e1]; simp only [e2]; exact e5, by rw [List.length_cons]; exact h5⟩
    · obtain ⟨r', a', e5, h5⟩ := next (by rw [List.length_append, List.length_singleton]; omega) h2
      exact ⟨r', a', by rw [cmpL, e1]; simp only [e2, e3, e4]; rw [if_pos (by omega)]; exact e5, by rw [List.length_cons]; exact h5⟩
end
end GB

/-! more that simp is told; comprehensions, texts, items -/
namespace GB
open PySem PySem.Spec PyProof.Rows L2
theorem subAt1 (c : Nat) (l : List Nat) (i : Nat) : subAtL [c] l i = (l[i]? == some c) := by
  unfold subAtL
  by_cases h : i < l.length
  · rw [List.drop_eq_getElem_cons h, List.getElem?_eq_getElem h]
    have : decide (i + [c].length ≤ l.length) = true := decide_eq_true (by rw [List.length_singleton]; omega)
    rw [this, Bool.true_and]
    show ([l[i]] == [c]) = (some l[i] == some c)
    rw [Bool.eq_iff_iff, beq_iff_eq, beq_iff_eq]
    simp
  · rw [List.getElem?_eq_none (by omega)]
    have : decide (i + [c].length ≤ l.length) = false := decide_eq_false (by rw [List.length_singleton]; omega)
    rw [this]
    rfl
theorem subIx_one (c : Nat) : ∀ l : List Nat, subIx [c] l = l.findIdx? (· == c) := by
  intro l
  have e : subAtL [c] l = fun i => l[i]? == some c := funext (subAt1 c l)
  unfold subIx
  rw [e]
  induction l with
  | nil => rfl
  | cons a l ih =>
    have ih := ih (funext (subAt1 c l))
    rw [List.length_cons, List.range_succ_eq_map, List.find?_cons, List.find?_map, List.findIdx?_cons]
    by_cases h : a = c
    · subst h; simp
    · have h1 : ((a :: l)[0]? == some c) = false := by simp [h]
      have h2 : (a == c) = false := by simp [h]
      rw [h1, h2]
      simp only [Bool.false_eq_true, if_false]
      have e2 : ((fun i => (a :: l)[i]? == some c) ∘ Nat.succ) = fun i => l[i]? == some c := by funext i; rfl
      rw [e2, ih]
theorem subIx_isSome (c : Nat) (l : List Nat) : (subIx [c] l).isSome = decide (c ∈ l) := by
  rw [subIx_one, List.findIdx?_isSome, Bool.eq_iff_iff, List.any_eq_true, decide_eq_true_iff]
  simp
@[simp] theorem s_qIn1 {c : Nat} {l : List Nat} : qIn [.fz (.str [c]), .fz (.str l)] = some (.fz (.bl (decide (c ∈ l)))) := by
  unfold qIn
  simp [s_orP, fIn, inS, subIx_isSome]
@[simp] theorem s_qNotIn1 {c : Nat} {l : List Nat} : qNotIn [.fz (.str [c]), .fz (.str l)] = some (.fz (.bl (!decide (c ∈ l)))) := by
  unfold qNotIn
  simp [s_orP, fNotIn, inS, subIx_isSome]
theorem strsOf_map {α : Type} (f : α → List Nat) : ∀ l : List α, strsOf (l.map fun a => .str (f a)) = some (l.map f)
  | [] => rfl
  | a :: l => by
    show (strsOf (l.map fun a => D.str (f a))).map (f a :: ·) = _
    rw [strsOf_map f l]; rfl
theorem joinN_nil : ∀ ws : List (List Nat), joinN [] ws = ws.flatten
  | [] => rfl
  | [p] => by show p = _; simp
  | p :: q :: r => by
    show p ++ ([] ++ joinN [] (q :: r)) = _
    rw [joinN_nil (q :: r)]; simp
@[simp] theorem s_fJoin {sep : List Nat} {ds : List D} : fJoin (.fz (.str sep)) (.ol ds) = match strsOf ds with
      | some ws => if big ((ws.map List.length).sum + ws.length * sep.length) then some (.fz (.str (joinN sep ws))) else none
      | none => none := rfl
/-- one turn of a comprehension: what it adds -/
def cturn (fg : D → Rho → Option Rho) (ft : Rho → Rs Bool) (fe : Rho → Rs Opd) (vs : List Nat) (d : D) (r : Rho) : Option (List D × Rho) := match fg d r with
  | none => none
  | some r1 => match ft r1 with
    | .ok false r2 => some ([], wipeR r2 vs)
    | .ok true r2 => (match fe r2 with
      | .ok o r3 => (match frz1 o r3 with | some (y, r4) => some ([y], wipeR r4 vs) | none => none)
      | _ => none)
    | _ => none
theorem cturn_len {fg : D → Rho → Option Rho} {ft : Rho → Rs Bool} {fe : Rho → Rs Opd} {vs : List Nat} {d : D} {r r' : Rho} {ys : List D} (h : cturn fg ft fe vs d r = some (ys, r')) : ys.length ≤ 1 := by
  unfold cturn at h
  cases e1 : fg d r with
  | none => rw [e1] at h; cases h
  | some r1 =>
    simp only [e1] at h
    cases e2 : ft r1 with
    | st => simp only [e2] at h; cases h
    | ex c fs r => simp only [e2] at h; cases h
    | ok b r2 =>
      simp only [e2] at h
      cases b with
      | false => cases h; exact Nat.zero_le _
      | true =>
        cases e3 : fe r2 with
        | st => simp only [e3] at h; cases h
        | ex c fs r => simp only [e3] at h; cases h
        | ok o r3 =>
          simp only [e3] at h
          cases e4 : frz1 o r3 with
          | none => simp only [e4] at h; cases h
          | some z => simp only [e4] at h; cases h; exact Nat.le_refl _
theorem cmpL_turn {fg : D → Rho → Option Rho} {ft : Rho → Rs Bool} {fe : Rho → Rs Opd} {vs : List Nat} {d : D} {ds acc : List D} {r r' : Rho} {ys : List D} (h : cturn fg ft fe vs d r = some (ys, r')) (hl : acc.length < 16777216) : cmpL fg ft fe vs (d :: ds) r acc = cmpL fg ft fe vs ds r' (acc ++ ys) := by
  rw [cmpL]
  unfold cturn at h
  cases e1 : fg d r with
  | none => rw [e1] at h; cases h
  | some r1 =>
    simp only [e1] at h ⊢
    cases e2 : ft r1 with
    | st => simp only [e2] at h; cases h
    | ex c fs r => simp only [e2] at h; cases h
    | ok b r2 =>
      simp only [e2] at h ⊢
      cases b with
      | false => cases h; rw [List.append_nil]
      | true =>
        cases e3 : fe r2 with
        | st => simp only [e3] at h; cases h
        | ex c fs r => simp only [e3] at h; cases h
        | ok o r3 =>
          simp only [e3] at h ⊢
          cases e4 : frz1 o r3 with
          | none => simp only [e4] at h; cases h
          | some z => simp only [e4] at h ⊢; cases h; rw [if_pos hl]
/-- a comprehension, turn by turn -/
theorem cmpL_go {fg : D → Rho → Option Rho} {ft : Rho → Rs Bool} {fe : Rho → Rs Opd} {vs : List Nat} (P : Nat → Rho → List D → Prop) : ∀ {ds acc : List D} {r : Rho} (k : Nat), acc.length + ds.length ≤ 16777216 → P k r acc → (∀ i d r acc, ds[i]? = some d → P (k + i) r acc → ∃ ys r', cturn fg ft fe vs d r = some (ys, r') ∧ P (k + i + 1) r' (acc ++ ys)) →
    ∃ r' acc', cmpL fg ft fe vs ds r acc = .ok acc' r' ∧ P (k + ds.length) r' acc'
  | [], acc, r, k, _, h0, _ => ⟨r, acc, rfl, h0⟩
  | d :: ds, acc, r, k, hl, h0, hs => by
    rw [List.length_cons] at hl
    obtain ⟨ys, r1, e1, h1⟩ := hs 0 d r acc rfl h0
    have hy := cturn_len e1
    obtain ⟨r', a', e2, h2⟩ := cmpL_go P (ds := ds) (acc := acc ++ ys) (r := r1) (k + 1) (by rw [List.length_append]; omega) h1 fun i d' r'' a'' hd hq => by
      have := hs (i + 1) d' r'' a'' (by simpa using hd) (by rw [Nat.add_right_comm] at hq; exact hq)
      rw [Nat.add_right_comm k 1 i]
      exact this
    exact ⟨r', a', by rw [cmpL_turn e1 (by omega)]; exact e2, by rw [List.length_cons, Nat.add_comm ds.length 1, ← Nat.add_assoc]; exact h2⟩
theorem cmpL_each {fg : D → Rho → Option Rho} {ft : Rho → Rs Bool} {fe : Rho → Rs Opd} {vs : List Nat} {r0 : Rho} (g : D → List D) : ∀ {ds acc : List D}, acc.length + ds.length ≤ 16777216 → (∀ d ∈ ds, cturn fg ft fe vs d r0 = some (g d, r0)) → cmpL fg ft fe vs ds r0 acc = .ok (acc ++ ds.flatMap g) r0
  | [], acc, _, _ => by rw [cmpL, List.flatMap_nil, List.append_nil]
  | d :: ds, acc, hl, h => by
    rw [List.length_cons] at hl
    have e := h d (List.mem_cons_self ..)
    have hy := cturn_len e
    rw [cmpL_turn e (by omega), cmpL_each g (ds := ds) (by rw [List.length_append]; omega) fun d' hd => h d' (List.mem_cons_of_mem _ hd), List.flatMap_cons, List.append_assoc]
theorem flat_sing {α β : Type} (g : α → β) : ∀ ds : List α, ds.flatMap (fun d => [g d]) = ds.map g
  | [] => rfl
  | d :: ds => by rw [List.flatMap_cons, flat_sing g ds]; rfl
/-- each item becomes one -/
theorem cmpL_one {fg : D → Rho → Option Rho} {ft : Rho → Rs Bool} {fe : Rho → Rs Opd} {vs : List Nat} {r0 : Rho} (g : D → D) {ds : List D} (hl : ds.length ≤ 16777216) (h : ∀ d ∈ ds, cturn fg ft fe vs d r0 = some ([g d], r0)) : cmpL fg ft fe vs ds r0 [] = .ok (ds.map g) r0 := by
  rw [cmpL_each (fun d => [g d]) (by simpa using hl) h, flat_sing]; rfl
theorem flat_one (f : Nat → Nat) : ∀ l : List Nat, (l.map fun a => [f a]).flatten = l.map f
  | [] => rfl
  | a :: l => by rw [List.map_cons, List.flatten_cons, flat_one f l]; rfl
theorem sum_one (f : Nat → Nat) : ∀ l : List Nat, ((l.map fun a => [f a]).map List.length).sum = l.length
  | [] => rfl
  | a :: l => by rw [List.map_cons, List.map_cons, List.sum_cons, sum_one f l, List.length_cons]; simp; omega
theorem fWhile_go {ft : Rho → Rs Bool} {f : Rho → Fl} (P : Nat → Rho → Prop) (Q : Rho → Prop) (hs : ∀ k r, P k r → (∃ r1, ft r = .ok false r1 ∧ Q r1) ∨ ∃ r1 r2 k', ft r = .ok true r1 ∧ (f r1 = .nx r2 ∨ f r1 = .ct r2) ∧ k' < k ∧ P k' r2) : ∀ k r, P k r → ∃ r', fWhile ft f r = .nx r' ∧ Q r' := by
  intro k
  induction k using Nat.strongRecOn with
  | _ k ih =>
    intro r hp
    rcases hs k r hp with ⟨r1, e1, h1⟩ | ⟨r1, r2, k', e1, e2, lt, h2⟩
    · exact ⟨r1, by rw [fWhile_eq, e1]; rfl, h1⟩
    · obtain ⟨r', e3, h3⟩ := ih k' lt r2 h2
      refine ⟨r', ?_, h3⟩
      rw [fWhile_eq, e1]
      rcases e2 with e2 | e2 <;> simp [e2, e3]
/-! items -/
theorem opt_id {α : Type} (o : Option α) : (match o with | none => none | z => z) = o := by cases o <;> rfl
theorem atI_n {α : Type} (l : List α) (k : Nat) : atI l (k : Int) = l[k]? := by
  unfold atI ixN
  rw [if_pos (by omega)]
  by_cases h : (k : Int) < l.length
  · rw [if_pos h]; simp
  · rw [if_neg h]; simp only [Option.bind_none]; rw [List.getElem?_eq_none (by omega)]
theorem ixN_n {n k : Nat} (h : k < n) : ixN n (k : Int) = some k := by
  unfold ixN
  rw [if_pos (by omega), if_pos (by omega)]
  simp
@[simp] theorem s_ixB {ds : List D} {k : Int} : qIx [.br ds, .fz (.int k)] = (atI ds k).map .fz := by
  show (match (atI ds k).map S.fz with | none => (none : Option S) | z => z) = _
  cases atI ds k <;> rfl
@[simp] theorem s_ixO {ds : List D} {k : Int} : qIx [.ol ds, .fz (.int k)] = (atI ds k).map .fz := by
  show (match (atI ds k).map S.fz with | none => (none : Option S) | z => z) = _
  cases atI ds k <;> rfl
@[simp] theorem s_ixK {ds : List D} {k : Int} : qIx [.lk ds, .fz (.int k)] = (atI ds k).map .fz := by
  show (match (atI ds k).map S.fz with | none => (none : Option S) | z => z) = _
  cases atI ds k <;> rfl
@[simp] theorem s_ixF {ds : List D} {k : Int} : qIx [.fz (.lst ds), .fz (.int k)] = (atI ds k).map .fz := by
  show (match (atI ds k).map S.fz with | none => (none : Option S) | z => z) = _
  cases atI ds k <;> rfl
@[simp] theorem s_ixT {ds : List D} {k : Int} : qIx [.fz (.tup ds), .fz (.int k)] = (atI ds k).map .fz := by
  show (match (atI ds k).map S.fz with | none => (none : Option S) | z => z) = _
  cases atI ds k <;> rfl
@[simp] theorem s_ixS {w : List Nat} {k : Int} : qIx [.fz (.str w), .fz (.int k)] = if big w.length then (atI w k).map fun c => .fz (.str [c]) else none := by
  show (match (if big w.length then (atI w k).map fun c => S.fz (.str [c]) else none) with | none => (none : Option S) | z => z) = _
  by_cases h : big w.length = true
  · rw [if_pos h]; cases atI w k <;> rfl
  · rw [if_neg h]
@[simp] theorem s_putB {ds : List D} {v : D} {k : Int} : mPut (.br ds) [v, .int k] = (ixN ds.length k).map fun j => (.br (ds.set j v), .non) := by
  unfold mPut orM mDPut
  simp [fSetL]
  cases ixN ds.length k <;> simp [asDw]
@[simp] theorem s_putO {ds : List D} {v : D} {k : Int} : mPut (.ol ds) [v, .int k] = (ixN ds.length k).map fun j => (.ol (ds.set j v), .non) := by
  unfold mPut orM mDPut
  simp [fSetL]
  cases ixN ds.length k <;> simp [asDw]
@[simp] theorem s_addI {i j : Int} : fAdd (.fz (.int i)) (.fz (.int j)) = some (.fz (.int (i + j))) := rfl
@[simp] theorem s_addS {a b : List Nat} : fAdd (.fz (.str a)) (.fz (.str b)) = if big (a.length + b.length) then some (.fz (.str (a ++ b))) else none := rfl
@[simp] theorem s_mulI {i j : Int} : fMul (.fz (.int i)) (.fz (.int j)) = if (-(2 ^ 64) < i ∧ i < 2 ^ 64) ∨ (-(2 ^ 64) < j ∧ j < 2 ^ 64) then some (.fz (.int (i * j))) else none := rfl
@[simp] theorem s_lenS {w : List Nat} : fLen (.fz (.str w)) = if big w.length then some (.fz (.int w.length)) else none := by
  show Option.map (fun n : Int => S.fz (.int n)) ((if big w.length = true then some w.length else none : Option Nat).bind fun a => some (a : Int)) = _
  by_cases h : big w.length = true
  · rw [if_pos h, if_pos h]; rfl
  · rw [if_neg h, if_neg h]; rfl
@[simp] theorem s_lenO {ds : List D} : fLen (.ol ds) = some (.fz (.int ds.length)) := rfl
@[simp] theorem s_lenB {ds : List D} : fLen (.br ds) = some (.fz (.int ds.length)) := rfl
@[simp] theorem s_lenK {ds : List D} : fLen (.lk ds) = some (.fz (.int ds.length)) := rfl
@[simp] theorem s_lenF {ds : List D} : fLen (.fz (.lst ds)) = some (.fz (.int ds.length)) := rfl
@[simp] theorem s_lenT {ds : List D} : fLen (.fz (.tup ds)) = some (.fz (.int ds.length)) := rfl
@[simp] theorem s_lenC {ds : List D} : fLen (.fz (.scr ds)) = some (.fz (.int ds.length)) := rfl
@[simp] theorem s_truB {b : Bool} : tru (.fz (.bl b)) = some b := rfl
@[simp] theorem s_truI {i : Int} : tru (.fz (.int i)) = some (i != 0) := rfl
end GB
namespace GB
open PySem PySem.Spec PyProof.Rows L2
/-- a slot that may be stored to: empty, or a tree -/
def sf (x : Option S) : Prop := x = none ∨ ∃ d, x = some (.fz d)
theorem sf_n : sf none := .inl rfl
theorem sf_f {d : D} : sf (some (.fz d)) := .inr ⟨_, rfl⟩
theorem upFrom_get {lo : Int} {n i : Nat} {d : D} (h : (upFrom lo n)[i]? = some d) : i < n ∧ d = .int (lo + (i : Nat)) := by
  unfold upFrom at h
  rw [List.getElem?_map] at h
  by_cases hi : i < n
  · rw [List.getElem?_range hi] at h; cases h; exact ⟨hi, rfl⟩
  · rw [List.getElem?_eq_none (by simpa using hi)] at h; cases h
theorem upFrom_len {lo : Int} {n : Nat} : (upFrom lo n).length = n := by simp [upFrom]
theorem small_n {n : Nat} (h : n ≤ 16777216) : small62 (n : Int) = true := decide_eq_true ⟨by omega, by omega⟩
@[simp] theorem s_neS {a b : List Nat} : fNe (.fz (.str a)) (.fz (.str b)) = some (.fz (.bl (!decide (a = b)))) := rfl
@[simp] theorem s_eqS {a b : List Nat} : fEq (.fz (.str a)) (.fz (.str b)) = some (.fz (.bl (decide (a = b)))) := rfl
@[simp] theorem s_neI {a b : Int} : fNe (.fz (.int a)) (.fz (.int b)) = some (.fz (.bl (!decide (a = b)))) := rfl
@[simp] theorem s_eqI {a b : Int} : fEq (.fz (.int a)) (.fz (.int b)) = some (.fz (.bl (decide (a = b)))) := rfl
theorem big_of {n : Nat} (h : n ≤ 16777216) : big n = true := decide_eq_true h
theorem range_foldl_succ {α : Type} (f : α → Nat → α) (a : α) (n : Nat) : (List.range (n + 1)).foldl f a = f ((List.range n).foldl f a) n := by
  rw [List.range_succ, List.foldl_append]; rfl
end GB
namespace GB
open PySem PySem.Spec PyProof.Rows L2
theorem mapFl_id (z : Fl) : mapFl (unlR []) z = z := by cases z <;> rfl
section
variable {fs : Rho → Rs (List Opd)} {fg : D → Rho → Option Rho} {f : Rho → Fl} {r r1 : Rho} {n : Nat} {ft : Rho → Rs Bool} {fe : Rho → Rs Opd} {vs : List Nat}
theorem if_small (h : n ≤ 16777216) : (if small62 (n : Int) then some (upFrom 0 (n : Int).toNat) else none) = some (upFrom 0 n) := by
  rw [small_n h, Int.toNat_natCast]
  rfl
theorem mkR1_n (h : n ≤ 16777216) : mkR1 [.fz (.int (n : Nat))] = some (upFrom 0 n) := by
  rw [s_mkR1]
  exact if_small h
/-- a walk over a value that is a tree -/
theorem for_fz {d : D} {mk : List S → Option (List D)} {ds : List D} (h : fs r = .ok [.val (.fz d)] r1) (hk : mk [.fz d] = some ds) : fFor fs mk fg f r = forL fg f ds r1 := by
  unfold fFor
  rw [h]
  show (match mk [.fz d] with | some ds => mapFl (unlR []) (forL fg f ds r1) | none => .st) = _
  rw [hk]
  exact mapFl_id _
theorem for_r1 (h : fs r = .ok [.val (.fz (.int (n : Nat)))] r1) (hn : n ≤ 16777216) : fFor fs mkR1 fg f r = forL fg f (upFrom 0 n) r1 := for_fz h (mkR1_n hn)
theorem for_ol {es : List D} {mk : List S → Option (List D)} {ds : List D} (h : fs r = .ok [.val (.ol es)] r1) (hk : mk [.lk es] = some ds) : fFor fs mk fg f r = forL fg f ds r1 := by
  unfold fFor
  rw [h]
  show (match mk [.lk es] with | some ds => mapFl (unlR []) (forL fg f ds r1) | none => .st) = _
  rw [hk]
  exact mapFl_id _
/-- a walk over a slot that holds a tree -/
theorem for_lfz {i : Nat} {d : D} {mk : List S → Option (List D)} {ds : List D} (h : fs r = .ok [.loc i] r1) (hi : r1[i]? = some (some (.fz d))) (hk : mk [.fz d] = some ds) : fFor fs mk fg f r = forL fg f ds r1 := by
  unfold fFor
  rw [h]
  have e : lockAll [.loc i] r1 = some ([.fz d], r1, []) := by simp [hi]
  show (match lockAll [.loc i] r1 with | some (ss, r2, u) => (match mk ss with | some ds => mapFl (unlR u) (forL fg f ds r2) | none => .st) | none => .st) = _
  rw [e]
  show (match mk [.fz d] with | some ds => mapFl (unlR []) (forL fg f ds r1) | none => .st) = _
  rw [hk]
  exact mapFl_id _
/-- a walk over a slot's own list, which is locked meanwhile -/
theorem for_lol {i : Nat} {es : List D} {mk : List S → Option (List D)} {ds : List D} (h : fs r = .ok [.loc i] r1) (hi : r1[i]? = some (some (.ol es))) (hk : mk [.lk es] = some ds) : fFor fs mk fg f r = mapFl (fun r => r.set i (some (.ol es))) (forL fg f ds (r1.set i (some (.lk es)))) := by
  unfold fFor
  rw [h]
  have e : lockAll [.loc i] r1 = some ([.lk es], r1.set i (some (.lk es)), [(i, .ol es)]) := by simp [hi]
  show (match lockAll [.loc i] r1 with | some (ss, r2, u) => (match mk ss with | some ds => mapFl (unlR u) (forL fg f ds r2) | none => .st) | none => .st) = _
  rw [e]
  show (match mk [.lk es] with | some ds => mapFl (unlR [(i, .ol es)]) (forL fg f ds _) | none => .st) = _
  rw [hk]
  rfl
end
end GB
namespace GB
open PySem PySem.Spec PyProof.Rows L2
variable {α : Type} {l : List α} {n : Nat}
@[simp] theorem atI_0 : atI l 0 = l[0]? := atI_n l 0
@[simp] theorem atI_1 : atI l 1 = l[1]? := atI_n l 1
@[simp] theorem atI_2 : atI l 2 = l[2]? := atI_n l 2
@[simp] theorem atI_3 : atI l 3 = l[3]? := atI_n l 3
@[simp] theorem atI_4 : atI l 4 = l[4]? := atI_n l 4
@[simp] theorem atI_5 : atI l 5 = l[5]? := atI_n l 5
@[simp] theorem atI_6 : atI l 6 = l[6]? := atI_n l 6
@[simp] theorem atI_7 : atI l 7 = l[7]? := atI_n l 7
@[simp] theorem atI_8 : atI l 8 = l[8]? := atI_n l 8
@[simp] theorem atI_9 : atI l 9 = l[9]? := atI_n l 9
@[simp] theorem atI_10 : atI l 10 = l[10]? := atI_n l 10
@[simp] theorem atI_11 : atI l 11 = l[11]? := atI_n l 11
@[simp] theorem atI_12 : atI l 12 = l[12]? := atI_n l 12
@[simp] theorem atI_13 : atI l 13 = l[13]? := atI_n l 13
theorem ixN_k {n k : Nat} : ixN n (k : Int) = if k < n then some k else none := by
  by_cases h : k < n
  · rw [ixN_n h, if_pos h]
  · rw [if_neg h]; unfold ixN; rw [if_pos (by omega), if_neg (by omega)]
@[simp] theorem ixN_0 : ixN n 0 = if 0 < n then some 0 else none := ixN_k (k := 0)
@[simp] theorem ixN_1 : ixN n 1 = if 1 < n then some 1 else none := ixN_k (k := 1)
@[simp] theorem ixN_2 : ixN n 2 = if 2 < n then some 2 else none := ixN_k (k := 2)
@[simp] theorem ixN_3 : ixN n 3 = if 3 < n then some 3 else none := ixN_k (k := 3)
@[simp] theorem ixN_4 : ixN n 4 = if 4 < n then some 4 else none := ixN_k (k := 4)
@[simp] theorem ixN_5 : ixN n 5 = if 5 < n then some 5 else none := ixN_k (k := 5)
@[simp] theorem ixN_6 : ixN n 6 = if 6 < n then some 6 else none := ixN_k (k := 6)
@[simp] theorem ixN_7 : ixN n 7 = if 7 < n then some 7 else none := ixN_k (k := 7)
@[simp] theorem ixN_8 : ixN n 8 = if 8 < n then some 8 else none := ixN_k (k := 8)
@[simp] theorem ixN_9 : ixN n 9 = if 9 < n then some 9 else none := ixN_k (k := 9)
@[simp] theorem ixN_10 : ixN n 10 = if 10 < n then some 10 else none := ixN_k (k := 10)
@[simp] theorem ixN_11 : ixN n 11 = if 11 < n then some 11 else none := ixN_k (k := 11)
@[simp] theorem ixN_12 : ixN n 12 = if 12 < n then some 12 else none := ixN_k (k := 12)
@[simp] theorem ixN_13 : ixN n 13 = if 13 < n then some 13 else none := ixN_k (k := 13)
end GB
namespace GB
open PySem PySem.Spec PyProof.Rows L2
/-! what repr shows -/
def shownL (d : D) : List Nat := d.py.shown.cps.toList
theorem repr_tree {s : S} {d : D} (h : s.tree = some d) (hr : reprOk d = true) : fRepr s = some (.fz (.str (shownL d))) := by
  unfold fRepr
  rw [h]
  dsimp only
  rw [if_pos hr]
  rfl
mutual
/-- leaves that are shown in few signs -/
def D.leaf : D → Bool
  | .int i => decide (i.natAbs.log2 < 1920)
  | .str l => l.all fun c => decide (c < 16 ^ 8)
  | .tup ds => leafAll ds
  | .lst ds => leafAll ds
  | .scr ds => leafAll ds
  | .dic _ _ => false
  | _ => true
def leafAll : List D → Bool
  | [] => true
  | d :: ds => d.leaf && leafAll ds
end
mutual
theorem leaf_py : ∀ d : D, d.leaf = true → d.py.leavesShort 1921 = true ∧ d.py.showable = true ∧ d.py.hasDict = false
  | .non, _ => ⟨rfl, rfl, rfl⟩
  | .bl _, _ => ⟨rfl, rfl, rfl⟩
  | .int i, h => by
    have h := of_decide_eq_true (show decide (i.natAbs.log2 < 1920) = true from h)
    exact ⟨decide_eq_true (int_text_len_1921 h), decide_eq_true h, rfl⟩
  | .str l, h => ⟨by
      have h : (l.all fun c => decide (c < 16 ^ 8)) = true := h
      show ((⟨l.toArray⟩ : Str).cps.toList.all fun c => decide (c < 16 ^ 8)) = true
      simpa using h, rfl, rfl⟩
  | .tup ds, h => by
    have := leafAll_py ds h
    exact ⟨by rw [D.py, PyData.leavesShort]; exact this.1, by rw [D.py, PyData.showable]; exact this.2.1, by rw [D.py, PyData.hasDict]; exact this.2.2⟩
  | .lst ds, h => by
    have := leafAll_py ds h
    exact ⟨by rw [D.py, PyData.leavesShort]; exact this.1, by rw [D.py, PyData.showable]; exact this.2.1, by rw [D.py, PyData.hasDict]; exact this.2.2⟩
  | .scr ds, h => by
    have := leafAll_py ds h
    exact ⟨by rw [D.py, PyData.leavesShort]; exact this.1, by rw [D.py, PyData.showable]; exact this.2.1, by rw [D.py, PyData.hasDict]; exact this.2.2⟩
theorem leafAll_py : ∀ ds : List D, leafAll ds = true → PyData.leavesShortAll 1921 (pyAll ds) = true ∧ PyData.showableAll (pyAll ds) = true ∧ PyData.hasDictAll (pyAll ds) = false
  | [], _ => by rw [pyAll]; exact ⟨by rw [PyData.leavesShortAll], by rw [PyData.showableAll], by rw [PyData.hasDictAll]⟩
  | d :: ds, h => by
    have h : d.leaf = true ∧ leafAll ds = true := by rw [leafAll, Bool.and_eq_true] at h; exact h
    have h1 := leaf_py d h.1
    have h2 := leafAll_py ds h.2
    rw [pyAll]
    exact ⟨by rw [PyData.leavesShortAll, h1.1, h2.1]; rfl, by rw [PyData.showableAll, h1.2.1, h2.2.1]; rfl, by rw [PyData.hasDictAll, h1.2.2, h2.2.2]; rfl⟩
end
theorem reprOk_of {d : D} (h : d.leaf = true) (hd : d.py.depth ≤ 60) (hw : d.py.weight ≤ 8000) : reprOk d = true := by
  obtain ⟨h1, h2, h3⟩ := leaf_py d h
  have h4 := PyData.shown_le 1921 (by decide) _ h1
  have h5 : (1921 + 2) * d.py.weight ≤ 1923 * 8000 := Nat.mul_le_mul (by omega) hw
  unfold reprOk
  rw [h2, h3, decide_eq_true hd, decide_eq_true (show d.py.shown.length ≤ 16777216 by omega)]
  rfl
theorem leafAll_iff : ∀ ds : List D, leafAll ds = true ↔ ∀ d ∈ ds, d.leaf = true
  | [] => by simp [leafAll]
  | d :: ds => by rw [leafAll, Bool.and_eq_true, leafAll_iff ds]; simp
theorem weightAll_le {B : Nat} : ∀ ds : List D, (∀ d ∈ ds, d.py.weight ≤ B) → PyData.weightAll (pyAll ds) ≤ ds.length * (B + 1)
  | [], _ => by rw [pyAll, PyData.weightAll]; exact Nat.zero_le _
  | d :: ds, h => by
    have h1 := h d (List.mem_cons_self ..)
    have h2 := weightAll_le ds fun d hd => h d (List.mem_cons_of_mem _ hd)
    rw [pyAll, PyData.weightAll, List.length_cons, Nat.add_mul]
    omega
theorem depthAll_le {B : Nat} : ∀ ds : List D, (∀ d ∈ ds, d.py.depth ≤ B) → PyData.depthAll (pyAll ds) ≤ B
  | [], _ => by rw [pyAll, PyData.depthAll]; exact Nat.zero_le _
  | d :: ds, h => by
    have h1 := h d (List.mem_cons_self ..)
    have h2 := depthAll_le ds fun d hd => h d (List.mem_cons_of_mem _ hd)
    rw [pyAll, PyData.depthAll]
    exact Nat.max_le.mpr ⟨h1, h2⟩
theorem weight_str (l : List Nat) : (D.str l).py.weight = l.length := by rw [D.py, PyData.weight]; simp
theorem depth_str (l : List Nat) : (D.str l).py.depth = 0 := by rw [D.py, PyData.depth]
theorem reprOk_strs {B : Nat} {ws : List (List Nat)} (h : ∀ w ∈ ws, w.length ≤ B ∧ ∀ c ∈ w, c < 16 ^ 8) (hb : ws.length * (B + 1) ≤ 8000) : reprOk (.lst (ws.map D.str)) = true := by
  refine reprOk_of ?_ ?_ ?_
  · show leafAll _ = true
    rw [leafAll_iff]
    intro d hd
    obtain ⟨w, hw, rfl⟩ := List.mem_map.mp hd
    exact List.all_eq_true.mpr fun c hc => decide_eq_true ((h w hw).2 c hc)
  · rw [D.py, PyData.depth]
    have := depthAll_le (B := 0) (ws.map D.str) fun d hd => by
      obtain ⟨w, hw, rfl⟩ := List.mem_map.mp hd
      rw [depth_str]; exact Nat.le_refl _
    omega
  · rw [D.py, PyData.weight]
    have := weightAll_le (B := B) (ws.map D.str) fun d hd => by
      obtain ⟨w, hw, rfl⟩ := List.mem_map.mp hd
      rw [weight_str]; exact (h w hw).1
    rw [List.length_map] at this
    omega
theorem log_of {n k : Nat} (h : n < 2 ^ k) (hk : 0 < k) : n.log2 < k := by
  by_cases z : n = 0
  · subst z; exact hk
  · exact (Nat.log2_lt z).mpr h
theorem reprOk_int {i : Int} (h : i.natAbs < 2 ^ 64) : reprOk (.int i) = true := by
  refine reprOk_of (decide_eq_true (Nat.lt_of_lt_of_le (log_of h (by omega)) (by omega))) ?_ ?_
  · rw [D.py, PyData.depth]; exact Nat.zero_le _
  · rw [D.py, PyData.weight]
    split
    · exact Nat.zero_le _
    · have := log_of h (by omega); omega
/-- a slot that may be stored to -/
def nh (x : Option S) : Prop := x = none ∨ ∃ s, x = some s ∧ s.hard = false
end GB

/-! more rules: max, min, abs, count, reverse, text * int -/
namespace GB
open PySem PySem.Spec PyProof.Rows L2
section
variable {X : Cx} {C : Ct} {a b e o : Expr} {fa fb fe fo : Rho → Rs Opd} {fs : Rho → Rs (List Opd)} {pos p px apos cpos : Pos} {i : Nat} {x : Str}
theorem pn_ii {rr : List V → Hp → VK → Prop} {f : Int → Int → Int} (h : ∀ (H : Hp) (i j : Int) (Q : VK), Q (.int (f i j)) H → rr [.int i, .int j] H Q) : PN C rr (p2 (fInts fun i j => some (.fz (.int (f i j))))) := by
  intro U W H vs ss s Q lv hs hp q
  match ss, hs, hp with
  | [a, b], .cons xa (.cons xb .nil), hp =>
    cases a with
    | fz a =>
      cases a with
      | int i =>
        cases b with
        | fz b =>
          cases b with
          | int j => cases hp; rw [sr_int xa, sr_int xb]; exact h H i j Q (q _ _ (.same (.int _)))
          | _ => cases hp
        | _ => cases hp
      | _ => cases b <;> first | cases hp | (rename_i d; cases d <;> cases hp)
    | _ => cases b <;> first | cases hp | (rename_i d; cases d <;> cases hp)
abbrev qMax : Pr := p2 (fInts fun i j => some (.fz (.int (if j > i then j else i))))
abbrev qMin : Pr := p2 (fInts fun i j => some (.fz (.int (if j < i then j else i))))
theorem x_max (hc : X.calm = true) (hm : X.mg "max" = none) (ha : GA X C [a, b] fs) (hg : Gl X "max" := by rfl) (hs : starEach [a, b] X.env = (false, eval a X.env) :: starEach [b] X.env := by rfl) (hpl : (backTo pos (starEach [b] X.env)).any (·.1) = false := by rfl) : GE X C (.Call (.Name "max" p) [a, b] [] pos) (eCall qMax fs) :=
  ge_call (pn_ii fun H i j Q h => ⟨i, j, rfl, h⟩) (pe_callB (call_max2 hc) hg hm PyProof.Rows.boot_max ha (he := hs) (hpl := hpl))
theorem x_min (hc : X.calm = true) (hm : X.mg "min" = none) (ha : GA X C [a, b] fs) (hg : Gl X "min" := by rfl) (hs : starEach [a, b] X.env = (false, eval a X.env) :: starEach [b] X.env := by rfl) (hpl : (backTo pos (starEach [b] X.env)).any (·.1) = false := by rfl) : GE X C (.Call (.Name "min" p) [a, b] [] pos) (eCall qMin fs) :=
  ge_call (pn_ii fun H i j Q h => ⟨i, j, rfl, h⟩) (pe_callB (call_min2 hc) hg hm PyProof.Rows.boot_min ha (he := hs) (hpl := hpl))
def fAbs : S → Option S
  | .fz (.int i) => some (.fz (.int (if i < 0 then -i else i)))
  | _ => none
theorem pn_abs : PN C (fun xs H Q => ∃ i, xs = [.int i] ∧ Q (.int (if i < 0 then -i else i)) H) (p1 fAbs) := by
  intro U W H vs ss s Q lv hs hp q
  match ss, hs, hp with
  | [a], .cons xa .nil, hp =>
    cases a with
    | fz a =>
      cases a with
      | int i => cases hp; rw [sr_int xa]; exact ⟨i, rfl, q _ _ (.same (.int _))⟩
      | _ => cases hp
    | _ => cases hp
theorem x_abs (hm : X.mg "abs" = none) (ha : GE X C a fa) (hg : Gl X "abs" := by rfl) (hs : starEach [a] X.env = (false, eval a X.env) :: starEach [] X.env := by rfl) : GE X C (.Call (.Name "abs" p) [a] [] pos) (e1 (p1 fAbs) fa) :=
  ge_call pn_abs (pe_callB call_abs hg hm PyProof.Rows.boot_abs (ga_cons ha ga_nil hs) (he := hs))
/-! methods -/
def cntIx (q l : List Nat) : Nat := (Builtin.Str.occurrences ⟨l.toArray⟩ ⟨q.toArray⟩ 0 l.length (l.length + 1)).length
def fCount : S → S → Option S
  | .fz (.str l), .fz (.str q) => some (.fz (.int (cntIx q l)))
  | _, _ => none
theorem pn_count : PN C (fun vs H Q => ∃ x xs, vs = x :: xs ∧ ∃ a b, x = .str a ∧ xs = [.str b] ∧ Q (.int (Txt.count a b)) H) (p2 fCount) := by
  refine pnm1 (rr := fun x xs H Q => ∃ a b, x = .str a ∧ xs = [.str b] ∧ Q (.int (Txt.count a b)) H) fun U W H x y a b s Q lv xa xb h q => ?_
  cases a with
  | fz a =>
    cases a with
    | str l =>
      cases b with
      | fz b =>
        cases b with
        | str p =>
          cases h
          rw [sr_str xa, sr_str xb]
          refine ⟨_, _, rfl, rfl, ?_⟩
          have e : Txt.count ⟨l.toArray⟩ ⟨p.toArray⟩ = (cntIx p l : Nat) := by
            unfold Txt.count cntIx
            rw [str_len]
          rw [e]
          exact q _ _ (.same (.int _))
        | _ => cases h
      | _ => cases h
    | _ => cases b <;> first | cases h | (rename_i d; cases d <;> cases h)
  | _ => cases b <;> first | cases h | (rename_i d; cases d <;> cases h)
theorem x_count (ho : GE X C o fo) (ha : GE X C e fe) (mc : MCall X o "count" apos e [] cpos) : GE X C (.Call (.Attribute o "count" apos) [e] [] cpos) (eMeth isStr (p2 fCount) fo (eCons fe eNil)) :=
  ge_meth (pe_bm PySem.F.plainAttrs_str PySem.F.slot_str_count PySem.F.type_str_count mt_count ho (ga_cons ha ga_nil mc.star) mc.base mc.few mc.line mc.star mc.plain) isStr_ty pn_count
def fFind : S → S → Option S
  | .fz (.str l), .fz (.str q) => some (.fz (.int (match subIx q l with | some n => (n : Int) | none => -1)))
  | _, _ => none
theorem pn_find : PN C (fun vs H Q => ∃ x xs, vs = x :: xs ∧ ∃ a b, x = .str a ∧ xs = [.str b] ∧ Q (.int (Txt.find a b)) H) (p2 fFind) := by
  refine pnm1 (rr := fun x xs H Q => ∃ a b, x = .str a ∧ xs = [.str b] ∧ Q (.int (Txt.find a b)) H) fun U W H x y a b s Q lv xa xb h q => ?_
  cases a with
  | fz a =>
    cases a with
    | str l =>
      cases b with
      | fz b =>
        cases b with
        | str p =>
          cases h
          rw [sr_str xa, sr_str xb]
          refine ⟨_, _, rfl, rfl, ?_⟩
          have e : Txt.find ⟨l.toArray⟩ ⟨p.toArray⟩ = (match subIx p l with | some n => (n : Int) | none => -1) := by
            unfold Txt.find
            rw [occ_subIx]
            cases subIx p l <;> rfl
          rw [e]
          exact q _ _ (.same (.int _))
        | _ => cases h
      | _ => cases h
    | _ => cases b <;> first | cases h | (rename_i d; cases d <;> cases h)
  | _ => cases b <;> first | cases h | (rename_i d; cases d <;> cases h)
theorem x_find (ho : GE X C o fo) (ha : GE X C e fe) (mc : MCall X o "find" apos e [] cpos) : GE X C (.Call (.Attribute o "find" apos) [e] [] cpos) (eMeth isStr (p2 fFind) fo (eCons fe eNil)) :=
  ge_meth (pe_bm PySem.F.plainAttrs_str PySem.F.slot_str_find PySem.F.type_str_find mt_find ho (ga_cons ha ga_nil mc.star) mc.base mc.few mc.line mc.star mc.plain) isStr_ty pn_find
/-! lists: reverse, pop(i) -/
def fRvs (ds as : List D) : Option (List D × D) := match as with
  | [] => some (ds.reverse, .non)
  | _ => none
theorem mu_reverse : MuOk C rReverse (mOf fRvs) := by
  refine mOf_ok fun W H p xs vs ds as ds' d Q hp lv x xv h q => ?_
  match as, xv, h with
  | [], .nil, h => cases h; exact ⟨p, xs, rfl, rfl, hp, q _ _ (rps_rev x) .non⟩
theorem x_reverse (hN : X.N[i]? = some x) (hv : Vis X.env.scope x) (hbase : attributeBase (.Name x px) "reverse" X.env (eval (.Name x px) X.env) = eval (.Name x px) X.env := by rfl) (hline : (apos.endLine == cpos.line) = true := by rfl) (hK : C.K = X.K := by rfl) (hd : (x == ("__debug__" : Str)) = false := by decide) (hcd : (x == ("__classdict__" : Str)) = false := by decide) :
    GE X C (.Call (.Attribute (.Name x px) "reverse" apos) [] [] cpos) (eMut isOL (mOf fRvs) i eNil) :=
  ge_mut0 (by rw [hK]; exact pe_bm0 PySem.F.plainAttrs_list PySem.F.slot_list_reverse PySem.F.type_list_reverse mt_reverse (pe_var hN hv hd hcd) hbase hline) isOL_ty mu_reverse
def fPopAt (ds as : List D) : Option (List D × D) := match as with
  | [.int k] => if decide (ds.length < 2 ^ 62) then (match ixN ds.length k with | some j => (ds[j]?).map fun d => (ds.eraseIdx j, d) | none => none) else none
  | _ => none
theorem rps_erase {K : PySem.W.Frag} {W : Addr → Prop} {H : Hp} : ∀ {xs : List V} {ds : List D} (j : Nat), Rps K W H xs ds → Rps K W H (xs.eraseIdx j) (ds.eraseIdx j)
  | _, _, _, .nil => .nil
  | _, _, 0, .cons _ t => t
  | _, _, j + 1, .cons x t => .cons x (rps_erase j t)
theorem mu_popAt : MuOk C rPopAt (mOf fPopAt) := by
  refine mOf_ok fun W H p xs vs ds as ds' d Q hp lv x xv h q => ?_
  match as, xv, h with
  | [.int k], .cons (.int _) .nil, h =>
    have h : (if decide (ds.length < 2 ^ 62) then (match ixN ds.length k with | some j => (ds[j]?).map fun d => (ds.eraseIdx j, d) | none => none) else none) = some (ds', _) := h
    by_cases hl : decide (ds.length < 2 ^ 62) = true
    · rw [if_pos hl] at h
      have hl := of_decide_eq_true hl
      cases e : ixN ds.length k with
      | none => rw [e] at h; cases h
      | some j =>
        rw [e] at h
        dsimp only at h
        cases e2 : ds[j]? with
        | none => rw [e2] at h; cases h
        | some d' =>
          rw [e2] at h; cases h
          obtain ⟨w, e3, y⟩ := rps_at x e2
          obtain ⟨h1, h2, h3, h4⟩ := ixN_seq e
          exact ⟨p, xs, k, j, w, rfl, rfl, hp, by omega, by omega, by rw [x.len]; exact h1, e3, q _ _ (rps_erase j x) y⟩
    · rw [if_neg hl] at h; cases h
theorem x_popAt (hN : X.N[i]? = some x) (hv : Vis X.env.scope x) (ha : GE X C e fe) (mc : MCall X (.Name x px) "pop" apos e [] cpos) (hK : C.K = X.K := by rfl) (hd : (x == ("__debug__" : Str)) = false := by decide) (hcd : (x == ("__classdict__" : Str)) = false := by decide) :
    GE X C (.Call (.Attribute (.Name x px) "pop" apos) [e] [] cpos) (eMut isOL (mOf fPopAt) i (eCons fe eNil)) :=
  ge_mut (by rw [hK]; exact pe_bm PySem.F.plainAttrs_list PySem.F.slot_list_pop PySem.F.type_list_pop mt_popAt (pe_var hN hv hd hcd) (ga_cons ha ga_nil mc.star) mc.base mc.few mc.line mc.star mc.plain) isOL_ty mu_popAt
/-! a number of the module -/
theorem x_gint {n : Int} (h : ∃ u, X.mg x = some u ∧ RelV (.int n) u) (hg : Gl X x := by rfl) (hd : (x == ("__debug__" : Str)) = false := by decide) : GE X C (.Name x pos) (eC (.int n)) :=
  ge_c (C8.pe_gc hg h hd) fun _ _ => .int n
end
end GB

/-! isinstance, all, any, text * int, dict displays -/
namespace GB
open PySem PySem.Spec PyProof.Rows L2
/-! ### isinstance -/
def tyS : S → String
  | .fz .non => "NoneType" | .fz (.bl _) => "bool" | .fz (.int _) => "int" | .fz (.str _) => "str" | .fz (.tup _) => "tuple" | .fz (.lst _) => "list" | .fz (.scr _) => "list" | .fz (.dic _ _) => "dict"
  | .ol _ => "list" | .br _ => "list" | .lk _ => "list" | .od _ => "dict" | .bd _ => "dict" | .kd _ => "dict" | .exc _ _ _ _ => ""
def isX : S → Bool
  | .exc _ _ _ _ => true | _ => false
/-- a type that may be asked for -/
inductive BT | str | int | bool | tuple | list | dict
def BT.nm : BT → String
  | .str => "str" | .int => "int" | .bool => "bool" | .tuple => "tuple" | .list => "list" | .dict => "dict"
def isA (s : S) : BT → Bool
  | .str => (match s with | .fz (.str _) => true | _ => false)
  | .int => (match s with | .fz (.int _) => true | .fz (.bl _) => true | _ => false)
  | .bool => (match s with | .fz (.bl _) => true | _ => false)
  | .tuple => (match s with | .fz (.tup _) => true | _ => false)
  | .list => (match s with | .fz (.lst _) => true | .fz (.scr _) => true | .ol _ => true | .br _ => true | .lk _ => true | _ => false)
  | .dict => (match s with | .fz (.dic _ _) => true | .od _ => true | .bd _ => true | .kd _ => true | _ => false)
section
variable {X : Cx} {C : Ct} {K : PySem.W.Frag} {U W : Addr → Prop} {H : Hp} {v : V} {s : S} {e : Expr} {fe : Rho → Rs Opd} {pos p q : Pos}
def kitPairs : List (String × String × Bool) := ["NoneType", "bool", "int", "str", "tuple", "list", "dict"].flatMap fun t => ["str", "int", "bool", "tuple", "list", "dict"].map fun T => (t, T, t == T || (t == "bool" && T == "int"))
theorem kit_all : (kitPairs.all fun z => decide (kitB z.1 z.2.1 = some z.2.2)) = true := by decide +kernel
theorem kit_at {t T : String} {b : Bool} (h : (t, T, b) ∈ kitPairs) : kitB t T = some b := of_decide_eq_true (List.all_eq_true.mp kit_all _ h)
theorem isA_kit (s : S) (T : BT) (hx : isX s = false) : kitB (tyS s) T.nm = some (isA s T) := by
  cases s with
  | exc _ _ _ _ => cases hx
  | fz d => cases d <;> cases T <;> exact kit_at (by simp [kitPairs, tyS, BT.nm, isA])
  | _ => cases T <;> exact kit_at (by simp [kitPairs, tyS, BT.nm, isA])
theorem tyX_lst {a : Addr} {xs : List V} (h : SqL K H a xs) : TyX K H (.ref a) (.type "list") := by
  rcases h with (h | ⟨o, h⟩) | ⟨o, its, n, h1, h2, _⟩
  · exact .base (.lst h)
  · exact .base (.frz h)
  · exact .kList h1 h2
theorem tyX_of (x : SR K U W H v s) (hx : isX s = false) : TyX K H v (.type (tyS s)) := by
  cases x with
  | exc _ _ => cases hx
  | fz x =>
    cases x with
    | non => exact .base .non
    | bl b => exact .base (.bl b)
    | int i => exact .base (.int i)
    | str l => exact .base (.str _)
    | tup e x =>
      rcases e with (h | ⟨o, h⟩) | ⟨o, its, n, h1, h2, _⟩
      · exact .base (.tup h)
      · exact .fTuple h
      · exact .kTuple h1 h2
    | lst e n x => exact .base (.lst e)
    | scr e x => exact tyX_lst e.seq
    | dic e n q x => exact .base (.dK e)
  | ol e x => exact .base (.lst e)
  | br e x => exact .base (.lst e)
  | lk e u x => exact .base (.lst e)
  | od e x => exact .base (.dK e)
  | bd e x => exact .base (.dK e)
  | kd e u x => exact .base (.dK e)
def fIsA (T : BT) : S → Option S := fun s => match isX s with | true => none | false => some (.fz (.bl (isA s T)))
theorem pn_isA (T : BT) : PN C (fun vs H Q => ∃ x, vs = [x] ∧ rIsi C.K [x, .ty T.nm] H Q) (p1 (fIsA T)) := by
  refine pn1 (rr := fun x H Q => rIsi C.K [x, .ty T.nm] H Q) fun U W H x a s Q lv xa h q => ?_
  have h : (match isX a with | true => none | false => some (S.fz (.bl (isA a T)))) = some s := h
  cases e : isX a with
  | true => rw [e] at h; cases h
  | false =>
    rw [e] at h
    cases h
    exact ⟨x, .ty T.nm, _, _, isA a T, rfl, .ty _, tyX_of xa e, kit_ty (isA_kit a T e), q _ _ (.same (.bl _))⟩
theorem boot_of (T : BT) : bootBuiltins (Str.ofString T.nm) = some (.type T.nm) := by cases T <;> decide +kernel
theorem x_isA (T : BT) {x : Str} (hx : x = Str.ofString T.nm) (hm : X.mg "isinstance" = none) (hmT : X.mg x = none) (ha : GE X C e fe) (hK : C.K = X.K := by rfl) (hg : Gl X "isinstance" := by rfl) (hgT : Gl X x := by rfl) (hn : x ≠ "__name__" := by decide) (hdb : (x == ("__debug__" : Str)) = false := by decide)
    (h1 : starEach [e, .Name x q] X.env = (false, eval e X.env) :: starEach [.Name x q] X.env := by rfl) (h2 : starEach [.Name x q] X.env = (false, eval (.Name x q) X.env) :: starEach [] X.env := by rfl) (hpl : (backTo pos (starEach [.Name x q] X.env)).any (·.1) = false := by rfl) :
    GE X C (.Call (.Name "isinstance" p) [e, .Name x q] [] pos) (e1 (p1 (fIsA T)) fe) := by
  have hT : PE X (.Name x q) (tC (.ty T.nm)) := pe_bltn hgT hmT (by rw [hx]; exact boot_of T) rfl hn hdb
  have h := pe_callB (pos := pos) (p := p) (call_isi (X := X)) hg hm PyProof.Rows.boot_isinstance (pa_cons ha (pa_cons hT pa_nil h2) h1) (he := h1) (hpl := hpl)
  exact ge_un (pn_isA T) (weakE h fun σ H Q z => by rw [hK] at z; exact z)
/-! ### all, any of truths -/
def blsOf : List D → Option (List Bool)
  | [] => some []
  | .bl b :: ds => (blsOf ds).map (b :: ·)
  | _ :: _ => none
theorem blsOf_of : ∀ {xs : List V} {ds : List D} {bs : List Bool}, Rps K W H xs ds → blsOf ds = some bs → xs = bs.map V.bl
  | _, _, _, .nil, h => by cases h; rfl
  | _, d :: ds, bs, .cons x t, h => by
    cases x with
    | bl b =>
      have h : (blsOf ds).map (b :: ·) = some bs := h
      cases e : blsOf ds with
      | none => rw [e] at h; cases h
      | some b2 => rw [e] at h; cases h; rw [blsOf_of t e]; rfl
    | _ => cases h
def fAll (s : S) : Option S := match asLs s with
  | some ds => (blsOf ds).map fun bs => .fz (.bl (bs.all id))
  | none => none
def fAny (s : S) : Option S := match asLs s with
  | some ds => (blsOf ds).map fun bs => .fz (.bl (bs.any id))
  | none => none
theorem pn_all : PN C (rAll C.K) (p1 fAll) := by
  intro U W H vs ss s Q lv hs hp q
  match ss, hs, hp with
  | [a], .cons xa .nil, hp =>
    have hp : fAll a = some s := hp
    unfold fAll at hp
    cases e : asLs a with
    | none => rw [e] at hp; cases hp
    | some ds =>
      rw [e] at hp
      dsimp only at hp
      cases e2 : blsOf ds with
      | none => rw [e2] at hp; cases hp
      | some bs =>
        rw [e2] at hp; cases hp
        obtain ⟨p, xs, rfl, h2, t⟩ := asLs_of xa e
        rw [blsOf_of t e2] at h2
        exact ⟨p, bs, rfl, h2, q _ _ (.same (.bl _))⟩
theorem pn_any : PN C (rAny C.K) (p1 fAny) := by
  intro U W H vs ss s Q lv hs hp q
  match ss, hs, hp with
  | [a], .cons xa .nil, hp =>
    have hp : fAny a = some s := hp
    unfold fAny at hp
    cases e : asLs a with
    | none => rw [e] at hp; cases hp
    | some ds =>
      rw [e] at hp
      dsimp only at hp
      cases e2 : blsOf ds with
      | none => rw [e2] at hp; cases hp
      | some bs =>
        rw [e2] at hp; cases hp
        obtain ⟨p, xs, rfl, h2, t⟩ := asLs_of xa e
        rw [blsOf_of t e2] at h2
        exact ⟨p, bs, rfl, h2, q _ _ (.same (.bl _))⟩
theorem x_all (hc : X.calm = true) (hm : X.mg "all" = none) (ha : GE X C e fe) (hK : C.K = X.K := by rfl) (hg : Gl X "all" := by rfl) (hs : starEach [e] X.env = (false, eval e X.env) :: starEach [] X.env := by rfl) : GE X C (.Call (.Name "all" p) [e] [] pos) (e1 (p1 fAll) fe) :=
  ge_call pn_all (by rw [hK]; exact pe_callB (cr_all hc) hg hm PyProof.Rows.boot_all (ga_cons ha ga_nil hs) (he := hs))
theorem x_any (hc : X.calm = true) (hm : X.mg "any" = none) (ha : GE X C e fe) (hK : C.K = X.K := by rfl) (hg : Gl X "any" := by rfl) (hs : starEach [e] X.env = (false, eval e X.env) :: starEach [] X.env := by rfl) : GE X C (.Call (.Name "any" p) [e] [] pos) (e1 (p1 fAny) fe) :=
  ge_call pn_any (by rw [hK]; exact pe_callB (cr_any hc) hg hm PyProof.Rows.boot_any (ga_cons ha ga_nil hs) (he := hs))
end
end GB

/-! dict displays -/
namespace GB
open PySem PySem.Spec PyProof.Rows L2
section
variable {C : Ct} {U U' : Addr → Prop} {H H' : Hp} {σ σ' : St} {r r' : Rho}
theorem Sit.poke2 {p : Addr} {o : HO} (s0 : Sit C U H σ r) (s : Sit C U' H' σ' r') (a : Aft U H σ r U' H' σ' r') (hp : H p = none) (up : U' p) (ho : ∃ kvs, o = .dK kvs) :
    Sit C U' (upd H' p o) σ' r' ∧ Aft U H σ r U' (upd H' p o) σ' r' ∧ (∀ {vs : List V} {ds : List D}, Rps C.K (Wn U' σ' r') H' vs ds → Rps C.K (Wn U' σ' r') (upd H' p o) vs ds) := by
  obtain ⟨xs, rfl⟩ := ho
  have m : Mono (fun _ => False) (Wn U' σ' r') H' (fun _ => False) (Wn U' σ' r') (upd H' p (.dK xs)) :=
    ⟨s.wlv, fun b o n h => by rw [upd_ne (fun z => n (by rw [z]; exact .inr up))]; exact h, fun b o n _ => n, fun _ _ z => z.elim, fun _ z => z.elim⟩
  have keep : ∀ b o, b ≠ p → H' b = some o → upd H' p (.dK xs) b = some o := fun b o n h => by rw [upd_ne n]; exact h
  refine ⟨⟨s.len, fun j t h => ?_, s.inj, s.dis, fun b h => ?_⟩, ⟨a.sub, a.new, a.grow, fun b o h n => keep b o (fun z => by rw [z, hp] at h; cases h) (a.keep b o h n), fun b o h => ?_, a.pin, a.lok⟩, fun x => x.mono m⟩
  · obtain ⟨v, e, x⟩ := s.rep j t h
    refine ⟨v, e, ?_⟩
    have own : ∀ b, t.own = true → v = .ref b → b ≠ p := fun b z1 z2 z => by subst z; exact s.dis b ⟨j, t, h, z1, by rw [e, z2]⟩ up
    have lk : ∀ b, t.lkd = true → v = .ref b → b ≠ p := fun b z1 z2 z => by
      subst z
      obtain ⟨g1, g2⟩ := a.lok j t h z1
      obtain ⟨w, e', y⟩ := s0.rep j t g1
      rw [← g2, e] at e'; cases e'
      exact (s0.uok b (y.lkLv z1 z2)).ne hp
    cases x with
    | fz x => exact .fz (x.mono m)
    | ol e1 x => exact .ol (keep _ _ (own _ rfl rfl) e1) (x.mono m)
    | br e1 x => exact .br (keep _ _ (own _ rfl rfl) e1) (x.mono m)
    | lk e1 u x => exact .lk (keep _ _ (lk _ rfl rfl) e1) u (x.mono m)
    | od e1 x => exact .od (keep _ _ (own _ rfl rfl) e1) (x.mono m)
    | bd e1 x => exact .bd (keep _ _ (own _ rfl rfl) e1) (x.mono m)
    | kd e1 u x => exact .kd (keep _ _ (lk _ rfl rfl) e1) u (x.mono m)
    | exc e1 x => exact .exc (keep _ _ (fun z => by subst z; exact (s.uok _ up).xd e1) e1) (x.mono m)
  · by_cases z : b = p
    · subst z; exact .inr ⟨xs, upd_same⟩
    · rcases s.uok b h with ⟨y, l⟩ | ⟨y, l⟩
      · exact .inl ⟨y, keep _ _ z l⟩
      · exact .inr ⟨y, keep _ _ z l⟩
  · by_cases z : b = p
    · subst z; exact ⟨_, upd_same⟩
    · obtain ⟨o', h'⟩ := a.there b o h
      exact ⟨o', keep _ _ z h'⟩
end
/-- keys and values by turns -/
def eKVs : List ((Rho → Rs Opd) × (Rho → Rs Opd)) → Rho → Rs (List Opd)
  | [] => eNil
  | (k, v) :: l => eCons k (eCons v (eKVs l))
def flatP : List (V × V) → List V
  | [] => []
  | (x, y) :: l => x :: y :: flatP l
def pairD : List D → Option (List (Key × D))
  | [] => some []
  | k :: v :: ds => match keyD k, pairD ds with
    | some k, some l => some ((k, v) :: l)
    | _, _ => none
  | _ => none
def mergeD (kvs : List (Key × D)) : List (Key × D) := kvs.foldl (fun acc kv => putD acc kv.1 kv.2) []
def eDisp (l : List ((Rho → Rs Opd) × (Rho → Rs Opd))) : Rho → Rs Opd := fun r => (eKVs l r).bind fun os r1 => match frzAll os r1 with
  | some (ds, r2) => (match pairD ds with | some kvs => if kvs.length ≤ 15 then .ok (.val (.od (mergeD kvs))) r2 else .st | none => .st)
  | none => .st
section
variable {X : Cx} {C : Ct}
abbrev RA (C : Ct) (U : Addr → Prop) (H : Hp) (σ : St) (r : Rho) (Q : List V → Hp → Prop) : Rs (List Opd) → Prop := fun z => match z with
  | .ok os r' => ∀ vs H' U', Sit C U' H' σ r' → Aft U H σ r U' H' σ r' → Per r r' → OpsOk C U' H' σ r' os vs → NewS H os vs → Q vs H'
  | .ex c fs r' => XWant C U H σ r c fs r'
  | .st => False
theorem RA.before {U U' : Addr → Prop} {H H' : Hp} {σ : St} {r r' : Rho} {Q Q' : List V → Hp → Prop} {z : Rs (List Opd)} (h : RA C U H σ r Q z) (a : Aft U H σ r U' H' σ r') (p : Per r r') (hq : ∀ vs H2, Q vs H2 → Q' vs H2) : RA C U' H' σ r' Q' z := by
  cases z with
  | ok os r2 => exact fun vs H2 U2 s2 a2 p2 k2 n2 => hq _ _ (h vs H2 U2 s2 (a.trans a2) (p.trans p2) k2 (NewS.back a n2))
  | ex c fs r2 => exact XWant.before h a
  | st => exact h
theorem pairs_reading : ∀ (l : List ((Rho → Rs Opd) × (Rho → Rs Opd))) {σ : St} {H : Hp} {Q : List (V × V) → Hp → Prop}, tA C (eKVs l) σ H (fun vs H' => ∃ ps, vs = flatP ps ∧ Q ps H') → tPairs (l.map fun z => (tE C z.1, tE C z.2)) σ H Q
  | [], σ, H, Q, h => by
    obtain ⟨U, r, s, h⟩ := h
    obtain ⟨ps, e, q⟩ := h [] H U s Aft.refl Per.refl .nil .nil
    match ps, e with
    | [], _ => exact q
  | (k, v) :: l, σ, H, Q, h => by
    obtain ⟨U, r, s, h⟩ := h
    have h : RA C U H σ r (fun vs H' => ∃ ps, vs = flatP ps ∧ Q ps H') (eKVs ((k, v) :: l) r) := h
    refine tE_then (f := k) (g := fun o r1 => ((eCons v (eKVs l)) r1).bind fun os r2 => Rs.ok (o :: os) r2) (R := RA C U H σ r (fun vs H' => ∃ ps, vs = flatP ps ∧ Q ps H')) s h id (fun _ _ _ z => z) fun o1 r1 v1 H1 U1 s1 a1 p1 k1 n1 h1 => ?_
    refine tE_then (f := v) (g := fun o2 r2 => (eKVs l r2).bind fun os r3 => Rs.ok (o1 :: o2 :: os) r3) (R := RA C U H σ r (fun vs H' => ∃ ps, vs = flatP ps ∧ Q ps H')) s1 ?_ id (fun _ _ _ z => XWant.before z a1) fun o2 r2 v2 H2 U2 s2 a2 p2 k2 n2 h2 => ?_
    · refine cast ?_ h1
      unfold eCons Rs.bind
      cases v r1 with
      | ok o r2 => simp only []; cases eKVs l r2 <;> rfl
      | ex c fs r2 => rfl
      | st => rfl
    · refine pairs_reading l ⟨U2, r2, s2, ?_⟩
      have h2 : RA C U H σ r (fun vs H' => ∃ ps, vs = flatP ps ∧ Q ps H') ((eKVs l r2).bind fun os r3 => Rs.ok (o1 :: o2 :: os) r3) := h2
      cases e : eKVs l r2 with
      | ok os r3 =>
        rw [e] at h2
        intro vs H3 U3 s3 a3 p3 k3 n3
        obtain ⟨ps, e2, q⟩ := h2 (v1 :: v2 :: vs) H3 U3 s3 ((a1.trans a2).trans a3) ((p1.trans p2).trans p3) (.cons ((k1.after a2 s1 p2).after a3 s2 p3) (.cons (k2.after a3 s2 p3) k3)) (.cons n1 (.cons (n2.back a1) (NewS.back (a1.trans a2) n3)))
        match ps, e2 with
        | (x, y) :: ps, e2 => cases e2; exact ⟨ps, rfl, q⟩
      | ex c fs r3 => rw [e] at h2; exact XWant.before h2 (a1.trans a2)
      | st => rw [e] at h2; exact h2
theorem pairD_of {K : PySem.W.Frag} {W : Addr → Prop} {H : Hp} : ∀ {ds : List D} {vs : List V} {kvs : List (Key × D)}, Rps K W H vs ds → pairD ds = some kvs → ∃ xs : List (Key × V), vs = flatP (xs.map fun kv => (kV kv.1, kv.2)) ∧ KR K W H xs kvs
  | [], _, _, .nil, h => by cases h; exact ⟨[], rfl, .nil⟩
  | [d], _, _, _, h => by cases h
  | k :: d :: ds, _, kvs, .cons xk (.cons xv t), h => by
    have h : (match keyD k, pairD ds with | some k, some l => some ((k, d) :: l) | _, _ => none) = some kvs := h
    cases e1 : keyD k with
    | none => rw [e1] at h; cases h
    | some k' =>
      cases e2 : pairD ds with
      | none => rw [e1, e2] at h; cases h
      | some l =>
        rw [e1, e2] at h; cases h
        obtain ⟨xs, e3, t'⟩ := pairD_of t e2
        refine ⟨(k', _) :: xs, ?_, .cons ⟨rfl, xv⟩ t'⟩
        rw [keyD_of xk e1, e3]; rfl
theorem mergeD_of {K : PySem.W.Frag} {W : Addr → Prop} {H : Hp} {xs : List (Key × V)} {kvs : List (Key × D)} (h : KR K W H xs kvs) : KR K W H (mergeK [] xs) (mergeD kvs) := by
  unfold mergeK mergeD
  have go : ∀ {xs : List (Key × V)} {kvs : List (Key × D)} {a : List (Key × V)} {b : List (Key × D)}, KR K W H xs kvs → KR K W H a b → KR K W H (xs.foldl (fun acc kv => putK acc kv.1 kv.2) a) (kvs.foldl (fun acc kv => putD acc kv.1 kv.2) b) := by
    intro xs kvs a b h
    induction h generalizing a b with
    | nil => exact fun q => q
    | @cons p q ps qs h t ih =>
      intro r
      have e : KR K W H (putK a p.1 p.2) (putD b q.1 q.2) := by rw [h.1]; exact kr_put h.2 r
      exact ih e
  exact go h .nil
/-- {k: v, ..} -/
theorem ge_disp {keys : List (Option Expr)} {values : List Expr} {pos : Pos} {l : List ((Rho → Rs Opd) × (Rho → Rs Opd))} (h : PPs X pos keys values (l.map fun z => (tE C z.1, tE C z.2))) (hall : keys.all (·.isSome) = true) (hl : keys.length = values.length) (h0 : keys ≠ []) (h15 : keys.length ≤ 15) : GE X C (.Dict keys values pos) (eDisp l) := by
  refine weakE (pe_disp h hall hl h0 h15) fun σ H Q h => ?_
  obtain ⟨U, r, s, h⟩ := h
  have h : RE C U H σ r Q (eDisp l r) := h
  intro p hp
  obtain ⟨s1, a1⟩ := own_set hp s (upd_keep hp) (H' := upd H p (.dK [])) (.inr ⟨_, upd_same⟩)
  refine pairs_reading l ⟨_, r, s1, ?_⟩
  unfold eDisp at h
  cases e : eKVs l r with
  | st => rw [e] at h; exact h
  | ex c fs r1 => rw [e] at h; exact XWant.before h a1
  | ok os r1 =>
    rw [e] at h
    intro vs H2 U2 s2 a2 p2 k2 n2
    simp only [Rs.bind] at h
    cases e1 : frzAll os r1 with
    | none => simp only [e1] at h; exact (show False from h).elim
    | some z =>
      obtain ⟨ds, r2⟩ := z
      simp only [e1] at h
      cases e2 : pairD ds with
      | none => simp only [e2] at h; exact (show False from h).elim
      | some kvs =>
        simp only [e2] at h
        by_cases hk : kvs.length ≤ 15
        · rw [if_pos hk] at h
          obtain ⟨U3, s3, a3, u3, k3⟩ := ops_drop s1 s2 a2 k2 n2
          obtain ⟨s4, a4, p4, x4⟩ := frzAll_ok s3 k3 e1
          obtain ⟨xs, e3, t⟩ := pairD_of x4 e2
          have up : U3 p := a3.sub p (.inr rfl)
          have hp2 : H2 p = some (.dK []) := a2.keep p _ upd_same fun z => (s1.dis p z (.inr rfl))
          refine ⟨_, e3, hp2, xs, rfl, by rw [KR.len t]; exact hk, ?_⟩
          obtain ⟨s5, a5, c5⟩ := s.poke2 s4 (a1.trans (a3.trans a4)) hp up ⟨mergeK [] xs, rfl⟩
          have m : Mono (fun _ => False) (Wn U3 σ r2) H2 (fun _ => False) (Wn U3 σ r2) (upd H2 p (.dK (mergeK [] xs))) :=
            ⟨s4.wlv, fun b o n h => by rw [upd_ne (fun z => n (by rw [z]; exact .inr up))]; exact h, fun b o n _ => n, fun _ _ z => z.elim, fun _ z => z.elim⟩
          refine h (.ref p) _ U3 s5 a5 (p2.trans p4) ⟨.od upd_same (KR.mono m (mergeD_of t)), fun q _ z => by cases z; exact up, rfl⟩ fun t' q z1 z2 z3 => ?_
          cases z3; exact hp
        · rw [if_neg hk] at h; exact h.elim
end
end GB

/-! text * int, sorted, str -/
namespace GB
open PySem PySem.Spec PyProof.Rows L2
theorem rep_len {α : Type} (l : List α) : ∀ n, (List.replicate n l).flatten.length = n * l.length
  | 0 => by simp
  | n + 1 => by rw [List.replicate_succ, List.flatten_cons, List.length_append, rep_len l n, Nat.add_mul]; omega
theorem foldl_arr (l : List Nat) : ∀ (k : Nat) (acc : List Nat), (List.replicate k l.toArray).foldl (· ++ ·) acc.toArray = (acc ++ (List.replicate k l).flatten).toArray
  | 0, acc => by simp
  | k + 1, acc => by
    rw [List.replicate_succ, List.foldl_cons, List.replicate_succ, List.flatten_cons, ← List.append_assoc]
    have : acc.toArray ++ l.toArray = (acc ++ l).toArray := by simp
    rw [this]
    exact foldl_arr l k (acc ++ l)
section
variable {X : Cx} {C : Ct} {K : PySem.W.Frag} {U W : Addr → Prop} {H : Hp} {a b e : Expr} {fa fb fe : Rho → Rs Opd} {pos p : Pos}
def rMulS : R2 := fun x y H Q => ∃ (l : List Nat) (k : Int), x = .str ⟨l.toArray⟩ ∧ y = .int k ∧ -(2 ^ 62) ≤ k ∧ k < 2 ^ 62 ∧ l.length * k.toNat ≤ 16777216 ∧ Q (.str ⟨(List.replicate k.toNat l).flatten.toArray⟩) H
theorem op_mulS : OpR X (binaryOp .Mult) rMulS := by
  intro pins s σ H x y v u Q I rx ry h
  obtain ⟨l, k, rfl, rfl, h1, h2, h3, q⟩ := h
  obtain ⟨t, rfl⟩ := rx
  obtain ⟨t', rfl⟩ := ry
  have hln : (⟨l.toArray⟩ : Str).length = l.length := str_len l
  refine PySem.P.mul_str ?_ ?_ ?_ ?_
  · rw [decide_eq_false (by omega), decide_eq_false (by omega)]; rfl
  · intro z1 z2 z3
    rw [hln] at z3
    have hk : 0 < k := by omega
    have hk2 : (k.toNat : Int) = k := by omega
    have z4 : ((l.length * k.toNat : Nat) : Int) ≤ 16777216 := by omega
    rw [Int.natCast_mul, hk2] at z4
    have z5 : ((2 : Int) ^ 63 - 1) / k < l.length := z3
    have z6 : ((2 : Int) ^ 63 - 1) < l.length * k := by
      rw [Int.ediv_lt_iff_lt_mul hk] at z5
      exact z5
    omega
  · intro z1 z2
    rw [hln]
    unfold Builtin.Str.tooLong
    exact decide_eq_false (by rw [sizeLine_eq]; omega)
  · by_cases z : k < 1
    · rw [if_pos z]
      have e : k.toNat = 0 := by omega
      rw [e] at q
      exact ⟨Nat.zero_le _, .str _, H, I.tok _, ⟨_, rfl⟩, q⟩
    · rw [if_neg z]
      by_cases z2 : (k == 1 || (⟨l.toArray⟩ : Str).length == 0) = true
      · rw [if_pos z2]
        have e : (List.replicate k.toNat l).flatten = l := by
          rw [Bool.or_eq_true] at z2
          rcases z2 with z2 | z2
          · have : k = 1 := eq_of_beq z2
            subst this; simp
          · have z3 : l.length = 0 := by rw [← hln]; exact eq_of_beq z2
            have : l = [] := List.length_eq_zero_iff.mp z3
            subst this; simp
        rw [e] at q
        exact ⟨.str _, H, I, ⟨_, rfl⟩, q⟩
      · rw [if_neg z2]
        have e : (List.replicate k.toNat (⟨l.toArray⟩ : Str).cps).foldl (· ++ ·) #[] = (List.replicate k.toNat l).flatten.toArray := by
          have := foldl_arr l k.toNat []
          simpa using this
        rw [e]
        refine ⟨?_, .str _, H, I.tok _, ⟨_, rfl⟩, q⟩
        rw [str_len, sizeLine_eq, rep_len, Nat.mul_comm]
        exact h3
def fMulS : S → S → Option S
  | .fz (.str l), .fz (.int k) => if -(2 ^ 62) ≤ k ∧ k < 2 ^ 62 ∧ l.length * k.toNat ≤ 16777216 then some (.fz (.str (List.replicate k.toNat l).flatten)) else none
  | _, _ => none
theorem pn_mulS : PN C (fun vs H Q => ∃ x y, vs = [x, y] ∧ rMulS x y H Q) (p2 fMulS) := by
  refine pn2 fun U W H x y a b s Q lv xa xb h q => ?_
  cases a with
  | fz a =>
    cases a with
    | str l =>
      cases b with
      | fz b =>
        cases b with
        | int k =>
          rw [sr_str xa, sr_int xb]
          have h : (if -(2 ^ 62) ≤ k ∧ k < 2 ^ 62 ∧ l.length * k.toNat ≤ 16777216 then some (S.fz (.str (List.replicate k.toNat l).flatten)) else none) = some s := h
          by_cases z : -(2 ^ 62) ≤ k ∧ k < 2 ^ 62 ∧ l.length * k.toNat ≤ 16777216
          · rw [if_pos z] at h; cases h
            exact ⟨l, k, rfl, rfl, z.1, z.2.1, z.2.2, q _ _ (.same (.str _))⟩
          · rw [if_neg z] at h; cases h
        | _ => cases h
      | _ => cases h
    | _ => cases b <;> first | cases h | (rename_i d; cases d <;> cases h)
  | _ => cases b <;> first | cases h | (rename_i d; cases d <;> cases h)
def qMul : Pr := orP (p2 fMul) (p2 fMulS)
theorem x_mulA (ha : GE X C a fa) (hb : GE X C b fb) : GE X C (.BinOp a .Mult b pos) (e2 qMul fa fb) :=
  ge_op (PN.or2 pn_mul pn_mulS) (pe_op (op_mulU.or op_mulS) ha hb)
@[simp] theorem s_qMulI {i j : Int} : qMul [.fz (.int i), .fz (.int j)] = if (-(2 ^ 64) < i ∧ i < 2 ^ 64) ∨ (-(2 ^ 64) < j ∧ j < 2 ^ 64) then some (.fz (.int (i * j))) else none := by
  unfold qMul orP
  show (match fMul (.fz (.int i)) (.fz (.int j)) with | none => _ | z => z) = _
  rw [s_mulI]
  by_cases z : (-(2 ^ 64) < i ∧ i < 2 ^ 64) ∨ (-(2 ^ 64) < j ∧ j < 2 ^ 64)
  · rw [if_pos z]
  · rw [if_neg z]; rfl
@[simp] theorem s_qMulS {l : List Nat} {k : Int} : qMul [.fz (.str l), .fz (.int k)] = if -(2 ^ 62) ≤ k ∧ k < 2 ^ 62 ∧ l.length * k.toNat ≤ 16777216 then some (.fz (.str (List.replicate k.toNat l).flatten)) else none := rfl
@[simp] theorem s_qMulO {l : List D} {k : Int} : qMul [.ol l, .fz (.int k)] = if -(2 ^ 63) ≤ k ∧ k < 2 ^ 63 ∧ l.length * k.toNat ≤ 16777216 then some (.ol (List.replicate k.toNat l).flatten) else none := by
  unfold qMul orP
  show (match (if -(2 ^ 63) ≤ k ∧ k < 2 ^ 63 ∧ l.length * k.toNat ≤ 16777216 then some (S.ol (List.replicate k.toNat l).flatten) else none) with | none => p2 fMulS [.ol l, .fz (.int k)] | z => z) = _
  by_cases z : -(2 ^ 63) ≤ k ∧ k < 2 ^ 63 ∧ l.length * k.toNat ≤ 16777216
  · rw [if_pos z]
  · rw [if_neg z]; rfl
end
end GB

/-! sorted, min, max, sum of lists; range with a step back; str of an int -/
namespace GB
open PySem PySem.Spec PyProof.Rows L2
def numsOfD : List D → Option (List Int)
  | [] => some []
  | .int i :: ds => (numsOfD ds).map (i :: ·)
  | _ :: _ => none
theorem numsOfD_map (ns : List Int) : numsOfD (ns.map D.int) = some ns := by
  induction ns with
  | nil => rfl
  | cons n ns ih => rw [List.map_cons, numsOfD, ih]; rfl
def sortI (ns : List Int) : List Int := ns.mergeSort fun a b => decide (a ≤ b)
def sortT (ws : List (List Nat)) : List (List Nat) := ws.mergeSort fun a b => decide (a ≤ b)
theorem le_tr (a b c : List Nat) : decide (a ≤ b) = true → decide (b ≤ c) = true → decide (a ≤ c) = true := fun h1 h2 => decide_eq_true (List.le_trans (of_decide_eq_true h1) (of_decide_eq_true h2))
theorem le_tt (a b : List Nat) : (decide (a ≤ b) || decide (b ≤ a)) = true := by
  rcases List.le_total a b with h | h <;> simp [h]
theorem sortT_perm (ws : List (List Nat)) : (sortT ws).Perm ws := List.mergeSort_perm _ _
theorem sortT_pw (ws : List (List Nat)) : (sortT ws).Pairwise (· ≤ ·) := (List.pairwise_mergeSort le_tr le_tt ws).imp fun h => of_decide_eq_true h
theorem sortI_perm (ws : List Int) : (sortI ws).Perm ws := List.mergeSort_perm _ _
theorem leI_tr (a b c : Int) (h1 : decide (a ≤ b) = true) (h2 : decide (b ≤ c) = true) : decide (a ≤ c) = true := decide_eq_true (Int.le_trans (of_decide_eq_true h1) (of_decide_eq_true h2))
theorem leI_tt (a b : Int) : (decide (a ≤ b) || decide (b ≤ a)) = true := by
  rcases Int.le_total a b with h | h <;> simp [h]
theorem sortI_pw (ws : List Int) : (sortI ws).Pairwise (· ≤ ·) := (List.pairwise_mergeSort leI_tr leI_tt ws).imp fun h => of_decide_eq_true h
theorem sortT_of {ys ws : List (List Nat)} (h : ys.Perm ws) (hp : ys.Pairwise (· ≤ ·)) : ys = sortT ws :=
  List.Perm.eq_of_pairwise (fun _ _ _ _ h1 h2 => List.le_antisymm h1 h2) hp (sortT_pw ws) (h.trans (sortT_perm ws).symm)
theorem sortI_of {ys ws : List Int} (h : ys.Perm ws) (hp : ys.Pairwise (· ≤ ·)) : ys = sortI ws :=
  List.Perm.eq_of_pairwise (fun _ _ _ _ h1 h2 => Int.le_antisymm h1 h2) hp (sortI_pw ws) (h.trans (sortI_perm ws).symm)
theorem rising_pw : ∀ (p : Str) (l : List Str), risingS p l = true → (p :: l).Pairwise fun a b => a.cps.toList ≤ b.cps.toList
  | p, [], _ => by simp
  | p, x :: l, h => by
    have h : (!ltCps x.cps.toList p.cps.toList && risingS x l) = true := h
    rw [Bool.and_eq_true, ltCps_eq] at h
    have le : p.cps.toList ≤ x.cps.toList := by
      have := h.1
      simpa using this
    have ih := rising_pw x l h.2
    refine List.pairwise_cons.mpr ⟨fun y hy => ?_, ih⟩
    rcases List.mem_cons.mp hy with rfl | hy
    · exact le
    · exact List.le_trans le ((List.pairwise_cons.mp ih).1 y hy)
theorem sortedS_pw {l : List Str} (h : sortedS l = true) : l.Pairwise fun a b => a.cps.toList ≤ b.cps.toList := by
  cases l with
  | nil => exact .nil
  | cons x l => exact rising_pw x l h
section
variable {X : Cx} {C : Ct} {K : PySem.W.Frag} {U W : Addr → Prop} {H : Hp} {v : V} {e : Expr} {fe : Rho → Rs Opd} {fs : Rho → Rs (List Opd)} {pos p : Pos} {tg : Expr}
theorem numsOfD_of : ∀ {xs : List V} {ds : List D} {ns : List Int}, Rps K W H xs ds → numsOfD ds = some ns → xs = ns.map V.int
  | _, _, _, .nil, h => by cases h; rfl
  | _, d :: ds, ns, .cons x t, h => by
    cases x with
    | int i =>
      have h : (numsOfD ds).map (i :: ·) = some ns := h
      cases e : numsOfD ds with
      | none => rw [e] at h; cases h
      | some n2 => rw [e] at h; cases h; rw [numsOfD_of t e]; rfl
    | _ => cases h
theorem rps_ints : ∀ {ns : List Int}, Rps K W H (ns.map V.int) (ns.map D.int)
  | [] => .nil
  | _ :: _ => .cons (.int _) rps_ints
theorem rps_strs : ∀ {ws : List (List Nat)}, Rps K W H ((ws.map fun w => (⟨w.toArray⟩ : Str)).map V.str) (ws.map D.str)
  | [] => .nil
  | _ :: _ => .cons (.str _) rps_strs
/-- sorted of texts, any number of them -/
def rSrtT (K : PySem.W.Frag) : List V → Hp → VK → Prop := fun vs H Q => ∃ (a : Addr) (xs : List Str), vs = [V.ref a] ∧ SqL K H a (xs.map V.str) ∧
  ∀ (ys : List Str) (p : Addr), ys.Perm xs → sortedS ys = true → H p = none → Q (.ref p) (upd H p (.lst (ys.map V.str)))
theorem cr_srtT : CallR X (.builtin "sorted") (rSrtT X.K) := by
  intro pins s σ H vs us Q I r h
  obtain ⟨a, xs, rfl, hs, q⟩ := h
  obtain ⟨its, rv, hl, hz⟩ := I.list hs
  have hlen0 := rv.length
  cases Vals.ref1 r
  refine PyProof.Rows.sorted_strsAny hl.isList rv.strs (hlen0 ▸ hz) fun out ys h1 h2 h3 => ?_
  obtain ⟨ep, he'⟩ := PyProof.Rows.sortedAll_at s.heap its out
  have hlen : (ys.map V.str).length ≤ sizeLine := by
    rw [List.length_map] at hz ⊢
    rw [h2.length_eq]
    exact hz
  refine ⟨.ref _, upd H (s.heap.objs.size + 1) (.lst (ys.map V.str)), ?_, rfl, q ys _ h2 h3 (I.hok.fresh (Nat.le_succ _))⟩
  exact I.laid (t' := s.toks) (fun _ _ => PyProof.Rows.sortedAll_old) (Nat.le_succ _) ⟨hlen, out.toList, ep, vals_of_strs h1, he'⟩
def fSrt (s : S) : Option S := match asLs s with
  | some ds => (match numsOfD ds, strsOf ds with
    | some ns, _ => some (.ol ((sortI ns).map D.int))
    | none, some ws => some (.ol ((sortT ws).map D.str))
    | none, none => none)
  | none => none
theorem pn_srt : PN C (fun vs H Q => rSortedI C.K vs H Q ∨ rSrtT C.K vs H Q) (p1 fSrt) := by
  intro U W H vs ss s Q lv hs hp q
  match ss, hs, hp with
  | [a], .cons xa .nil, hp =>
    have hp : fSrt a = some s := hp
    unfold fSrt at hp
    cases e : asLs a with
    | none => rw [e] at hp; cases hp
    | some ds =>
      rw [e] at hp
      dsimp only at hp
      obtain ⟨l, xs, rfl, h2, t⟩ := asLs_of xa e
      cases e2 : numsOfD ds with
      | some ns =>
        rw [e2] at hp; cases hp
        rw [numsOfD_of t e2] at h2
        refine .inl ⟨l, ns, rfl, h2, fun ns' p hp hs hf => ?_⟩
        rw [sortI_of hp hs]
        exact q _ _ (Got.newL (C := C) lv hf rps_ints)
      | none =>
        rw [e2] at hp
        cases e3 : strsOf ds with
        | none => rw [e3] at hp; cases hp
        | some ws =>
          rw [e3] at hp; cases hp
          rw [strsOf_of t e3] at h2
          refine .inr ⟨l, _, rfl, h2, fun ys p hp hs hf => ?_⟩
          have e4 : ys.map (fun y => y.cps.toList) = sortT ws := by
            refine sortT_of ?_ (List.pairwise_map.mpr (sortedS_pw hs))
            have := hp.map fun y : Str => y.cps.toList
            rw [List.map_map] at this
            refine this.trans (List.Perm.of_eq ?_)
            conv => rhs; rw [← List.map_id ws]
            exact List.map_congr_left fun w _ => by simp
          have e5 : ys = (sortT ws).map fun w => (⟨w.toArray⟩ : Str) := by
            rw [← e4, List.map_map]
            conv => lhs; rw [← List.map_id ys]
            exact List.map_congr_left fun w _ => by simp
          rw [e5]
          exact q _ _ (Got.newL (C := C) lv hf rps_strs)
theorem cr_or {f : Value} {r1 r2 : List V → Hp → VK → Prop} (h1 : CallR X f r1) (h2 : CallR X f r2) : CallR X f fun vs H Q => r1 vs H Q ∨ r2 vs H Q := by
  intro pins s σ H vs us Q I r h
  rcases h with h | h
  · exact h1 pins s σ H vs us Q I r h
  · exact h2 pins s σ H vs us Q I r h
theorem x_sorted (hm : X.mg "sorted" = none) (ha : GE X C e fe) (hK : C.K = X.K := by rfl) (hg : Gl X "sorted" := by rfl) (hs : starEach [e] X.env = (false, eval e X.env) :: starEach [] X.env := by rfl) : GE X C (.Call (.Name "sorted" p) [e] [] pos) (e1 (p1 fSrt) fe) :=
  ge_call pn_srt (by rw [hK]; exact pe_callB (cr_or cr_sortedI cr_srtT) hg hm PyProof.Rows.boot_sorted (ga_cons ha ga_nil hs) (he := hs))
/-! ### min, max, sum -/
def leastT (w : List Nat) (ws : List (List Nat)) : List Nat := ws.foldl (fun a y => if y < a then y else a) w
theorem minD_strs (w : List Nat) (ws : List (List Nat)) : PySem.W.minD (.str ⟨w.toArray⟩) (ws.map fun w => PyData.str ⟨w.toArray⟩) = .str ⟨(leastT w ws).toArray⟩ := by
  unfold PySem.W.minD leastT
  induction ws generalizing w with
  | nil => rfl
  | cons y ws ih =>
    rw [List.map_cons, List.foldl_cons, List.foldl_cons, ← ih]
    congr 1
    rw [PySem.W.dataLt_str]
    by_cases h : y < w
    · simp [h]
    · simp [h]
def rMinT (K : PySem.W.Frag) : List V → Hp → VK → Prop := fun vs H Q => ∃ (a : Addr) (w : List Nat) (ws : List (List Nat)), vs = [V.ref a] ∧ SqL K H a (((w :: ws).map fun w => (⟨w.toArray⟩ : Str)).map V.str) ∧ Q (.str ⟨(leastT w ws).toArray⟩) H
theorem readsAll_strs {h : Heap} : ∀ {vs : List Value} {ws : List (List Nat)}, StrsAre vs (ws.map fun w => (⟨w.toArray⟩ : Str)) → ∃ as, ReadsAll h vs (ws.map fun w => PyData.str ⟨w.toArray⟩) as
  | _, [], h => by cases h; exact ⟨_, .nil⟩
  | _, w :: ws, h => by
    cases h with
    | cons n t h =>
      obtain ⟨as, r⟩ := readsAll_strs h
      exact ⟨_, .cons (.str _ t) r⟩
theorem cr_minT (hc : X.calm = true) (hu : X.A.units + 64 < cLine) : CallR X (.builtin "min") (rMinT X.K) := by
  intro pins s σ H vs us Q I r h
  obtain ⟨a, w, ws, rfl, hs, q⟩ := h
  obtain ⟨its, rv, hl, hz⟩ := I.list hs
  cases Vals.ref1 r
  obtain ⟨as, rd⟩ := readsAll_strs (h := s.heap) rv.strs
  rw [List.map_cons] at rd
  have d0 : ∀ l : List (List Nat), PyData.depthAll (l.map fun w => PyData.str ⟨w.toArray⟩) = 0 := by
    intro l
    induction l with
    | nil => rfl
    | cons x l ih => rw [List.map_cons, PyData.depthAll, ih]; rfl
  have dd := d0 (w :: ws)
  rw [List.map_cons] at dd
  refine PySem.W.min_list_data (I.ok.hd hc) hl.isList (by simpa using rd) ⟨?_, ?_⟩ (by rw [dd]; omega) fun i v h' tk bs hv hr hk => ?_
  · have key : ∀ x ∈ PyData.str ⟨w.toArray⟩ :: ws.map (fun w => PyData.str ⟨w.toArray⟩), ∃ c, x = .str c := by
      intro x hx
      rcases List.mem_cons.mp hx with rfl | hx
      · exact ⟨_, rfl⟩
      · obtain ⟨y, _, rfl⟩ := List.mem_map.mp hx
        exact ⟨_, rfl⟩
    intro x hx y hy
    obtain ⟨_, rfl⟩ := key x hx
    obtain ⟨_, rfl⟩ := key y hy
    rfl
  · intro x hx
    rcases List.mem_cons.mp hx with rfl | hx
    · exact fun z => nomatch z
    · obtain ⟨y, _, rfl⟩ := List.mem_map.mp hx
      exact fun z => nomatch z
  · rw [minD_strs] at hr
    cases hr with
    | str _ t => exact ⟨.str _, H, I.kept (t' := tk) hk, ⟨t, rfl⟩, q⟩
def leastI (n : Int) (ns : List Int) : Int := ns.foldl (fun a y => if y < a then y else a) n
def mostI (n : Int) (ns : List Int) : Int := ns.foldl (fun a y => if a < y then y else a) n
theorem leastI_le (ns : List Int) : ∀ n, leastI n ns ≤ n ∧ (∀ y ∈ ns, leastI n ns ≤ y) ∧ (leastI n ns = n ∨ leastI n ns ∈ ns) := by
  induction ns with
  | nil => intro n; exact ⟨Int.le_refl _, fun y h => (nomatch h), .inl rfl⟩
  | cons k ns ih =>
    intro n
    have e : leastI n (k :: ns) = leastI (if k < n then k else n) ns := rfl
    rw [e]
    obtain ⟨h1, h2, h3⟩ := ih (if k < n then k else n)
    have c1 : (if k < n then k else n) ≤ n := by split <;> omega
    have c2 : (if k < n then k else n) ≤ k := by split <;> omega
    refine ⟨Int.le_trans h1 c1, fun y hy => ?_, ?_⟩
    · rcases List.mem_cons.mp hy with rfl | hy
      · exact Int.le_trans h1 c2
      · exact h2 y hy
    · rcases h3 with h3 | h3
      · rw [h3]; split
        · exact .inr (List.mem_cons_self ..)
        · exact .inl rfl
      · exact .inr (List.mem_cons_of_mem _ h3)
theorem mostI_ge (ns : List Int) : ∀ n, n ≤ mostI n ns ∧ (∀ y ∈ ns, y ≤ mostI n ns) ∧ (mostI n ns = n ∨ mostI n ns ∈ ns) := by
  induction ns with
  | nil => intro n; exact ⟨Int.le_refl _, fun y h => (nomatch h), .inl rfl⟩
  | cons k ns ih =>
    intro n
    have e : mostI n (k :: ns) = mostI (if n < k then k else n) ns := rfl
    rw [e]
    obtain ⟨h1, h2, h3⟩ := ih (if n < k then k else n)
    have c1 : n ≤ (if n < k then k else n) := by split <;> omega
    have c2 : k ≤ (if n < k then k else n) := by split <;> omega
    refine ⟨Int.le_trans c1 h1, fun y hy => ?_, ?_⟩
    · rcases List.mem_cons.mp hy with rfl | hy
      · exact Int.le_trans c2 h1
      · exact h2 y hy
    · rcases h3 with h3 | h3
      · rw [h3]; split
        · exact .inr (List.mem_cons_self ..)
        · exact .inl rfl
      · exact .inr (List.mem_cons_of_mem _ h3)
def fMin1 (s : S) : Option S := match asLs s with
  | some ds => (match numsOfD ds, strsOf ds with
    | some (n :: ns), _ => some (.fz (.int (leastI n ns)))
    | none, some (w :: ws) => some (.fz (.str (leastT w ws)))
    | _, _ => none)
  | none => none
def fMax1 (s : S) : Option S := match asLs s with
  | some ds => (match numsOfD ds with
    | some (n :: ns) => some (.fz (.int (mostI n ns)))
    | _ => none)
  | none => none
def fSum1 (s : S) : Option S := match asLs s with
  | some ds => (numsOfD ds).map fun ns => .fz (.int ns.sum)
  | none => none
theorem pn_min1 : PN C (fun vs H Q => rMin C.K vs H Q ∨ rMinT C.K vs H Q) (p1 fMin1) := by
  intro U W H vs ss s Q lv hs hp q
  match ss, hs, hp with
  | [a], .cons xa .nil, hp =>
    have hp : fMin1 a = some s := hp
    unfold fMin1 at hp
    cases e : asLs a with
    | none => rw [e] at hp; cases hp
    | some ds =>
      rw [e] at hp
      dsimp only at hp
      obtain ⟨l, xs, rfl, h2, t⟩ := asLs_of xa e
      cases e2 : numsOfD ds with
      | some ns =>
        rw [e2] at hp
        cases ns with
        | nil => cases hp
        | cons n ns =>
          cases hp
          rw [numsOfD_of t e2] at h2
          refine .inl ⟨l, n :: ns, rfl, h2, by simp, fun m hm hl => ?_⟩
          obtain ⟨g1, g2, g3⟩ := leastI_le ns n
          have e3 : m = leastI n ns := by
            refine Int.le_antisymm ?_ ?_
            · rcases g3 with g3 | g3
              · rw [g3]; exact hl n (List.mem_cons_self ..)
              · exact hl _ (List.mem_cons_of_mem _ g3)
            · rcases List.mem_cons.mp hm with rfl | hm
              · exact g1
              · exact g2 m hm
          rw [e3]
          exact q _ _ (.same (.int _))
      | none =>
        rw [e2] at hp
        cases e3 : strsOf ds with
        | none => rw [e3] at hp; cases hp
        | some ws =>
          rw [e3] at hp
          cases ws with
          | nil => cases hp
          | cons w ws =>
            cases hp
            rw [strsOf_of t e3] at h2
            exact .inr ⟨l, w, ws, rfl, h2, q _ _ (.same (.str _))⟩
theorem pn_max1 : PN C (rMax C.K) (p1 fMax1) := by
  intro U W H vs ss s Q lv hs hp q
  match ss, hs, hp with
  | [a], .cons xa .nil, hp =>
    have hp : fMax1 a = some s := hp
    unfold fMax1 at hp
    cases e : asLs a with
    | none => rw [e] at hp; cases hp
    | some ds =>
      rw [e] at hp
      dsimp only at hp
      obtain ⟨l, xs, rfl, h2, t⟩ := asLs_of xa e
      cases e2 : numsOfD ds with
      | none => rw [e2] at hp; cases hp
      | some ns =>
        rw [e2] at hp
        cases ns with
        | nil => cases hp
        | cons n ns =>
          cases hp
          rw [numsOfD_of t e2] at h2
          refine ⟨l, n :: ns, rfl, h2, by simp, fun m hm hl => ?_⟩
          obtain ⟨g1, g2, g3⟩ := mostI_ge ns n
          have e3 : m = mostI n ns := by
            refine Int.le_antisymm ?_ ?_
            · rcases List.mem_cons.mp hm with rfl | hm
              · exact g1
              · exact g2 m hm
            · rcases g3 with g3 | g3
              · rw [g3]; exact hl n (List.mem_cons_self ..)
              · exact hl _ (List.mem_cons_of_mem _ g3)
          rw [e3]
          exact q _ _ (.same (.int _))
theorem pn_sum1 : PN C (rSum C.K) (p1 fSum1) := by
  intro U W H vs ss s Q lv hs hp q
  match ss, hs, hp with
  | [a], .cons xa .nil, hp =>
    have hp : fSum1 a = some s := hp
    unfold fSum1 at hp
    cases e : asLs a with
    | none => rw [e] at hp; cases hp
    | some ds =>
      rw [e] at hp
      dsimp only at hp
      obtain ⟨l, xs, rfl, h2, t⟩ := asLs_of xa e
      cases e2 : numsOfD ds with
      | none => rw [e2] at hp; cases hp
      | some ns =>
        rw [e2] at hp; cases hp
        rw [numsOfD_of t e2] at h2
        exact ⟨l, ns, rfl, h2, q _ _ (.same (.int _))⟩
theorem x_min1 {k : Nat} (hr : Room k X.A) (hc : X.calm = true) (hm : X.mg "min" = none) (ha : GE X C e fe) (hK : C.K = X.K := by rfl) (hg : Gl X "min" := by rfl) (hs : starEach [e] X.env = (false, eval e X.env) :: starEach [] X.env := by rfl) : GE X C (.Call (.Name "min" p) [e] [] pos) (e1 (p1 fMin1) fe) :=
  ge_call pn_min1 (by rw [hK]; exact pe_callB (cr_or (cr_min hc) (cr_minT hc (hu64 hr))) hg hm PyProof.Rows.boot_min (ga_cons ha ga_nil hs) (he := hs))
theorem x_max1 (hc : X.calm = true) (hm : X.mg "max" = none) (ha : GE X C e fe) (hK : C.K = X.K := by rfl) (hg : Gl X "max" := by rfl) (hs : starEach [e] X.env = (false, eval e X.env) :: starEach [] X.env := by rfl) : GE X C (.Call (.Name "max" p) [e] [] pos) (e1 (p1 fMax1) fe) :=
  ge_call pn_max1 (by rw [hK]; exact pe_callB (cr_max hc) hg hm PyProof.Rows.boot_max (ga_cons ha ga_nil hs) (he := hs))
theorem x_sum1 (hc : X.calm = true) (hm : X.mg "sum" = none) (ha : GE X C e fe) (hK : C.K = X.K := by rfl) (hg : Gl X "sum" := by rfl) (hs : starEach [e] X.env = (false, eval e X.env) :: starEach [] X.env := by rfl) : GE X C (.Call (.Name "sum" p) [e] [] pos) (e1 (p1 fSum1) fe) :=
  ge_call pn_sum1 (by rw [hK]; exact pe_callB (cr_sum hc) hg hm PyProof.Rows.boot_sum (ga_cons ha ga_nil hs) (he := hs))
/-! ### range back -/
def downFrom (lo : Int) (n : Nat) : List D := (List.range n).map fun k => .int (lo - (k : Nat))
def mkR3 : List S → Option (List D)
  | [.fz (.int i), .fz (.int j), .fz (.int k)] => if small62 i && small62 j && decide (k = -1) then some (downFrom i (i - j).toNat) else none
  | _ => none
theorem git_rangeC {lo : Int} {n : Nat} {vs : List V} {ss : List S} : GItem C (Itc lo (-1) n) (downFrom lo n) vs ss := by
  refine ⟨_, _, by simpa [downFrom] using walk_rangeC (lo := lo) (c := -1) (n := n), fun U W H z => True.intro, fun i H x H' d U W hd z lv y => ?_⟩
  obtain ⟨rfl, rfl⟩ := y
  unfold downFrom at hd
  rw [List.getElem?_map] at hd
  by_cases hi : i < n
  · rw [List.getElem?_range hi] at hd
    cases hd
    refine ⟨fun _ _ h => h, ?_⟩
    show Rp C.K W H' (V.int (lo + -(i : Int))) (D.int (lo - (i : Int)))
    rw [show lo + -(i : Int) = lo - (i : Int) from by omega]
    exact .int _
  · rw [List.getElem?_eq_none (by simpa using hi)] at hd
    cases hd
theorem gi_range3 {a b c : Expr} (hg : Gl X "range") (hm : X.mg "range" = none) (ha : GA X C [a, b, c] fs) (hs : starEach [a, b, c] X.env = (false, eval a X.env) :: starEach [b, c] X.env := by rfl) (hpl : (backTo pos (starEach [b, c] X.env)).any (·.1) = false := by rfl) : GI X C tg (.Call (.Name "range" p) [a, b, c] [] pos) fs mkR3 := by
  refine ⟨_, ?_, pi_range3 hg hm ha hs hpl⟩
  intro vs H ss ds U W R hs hn hm q
  match ss, hs, hm with
  | [.fz (.int i), .fz (.int j), .fz (.int k)], .cons x (.cons y (.cons z .nil)), hm =>
    have hm : (if small62 i && small62 j && decide (k = -1) then some (downFrom i (i - j).toNat) else none) = some ds := hm
    by_cases z0 : (small62 i && small62 j && decide (k = -1)) = true
    · rw [if_pos z0] at hm; cases hm
      rw [Bool.and_eq_true, Bool.and_eq_true] at z0
      have z1 := of_decide_eq_true z0.1.1
      have z2 := of_decide_eq_true z0.1.2
      have z3 := of_decide_eq_true z0.2
      subst z3
      rw [sr_int x, sr_int y, sr_int z]
      exact ⟨i, j, -1, _, rfl, RgC.neg z1.1 z1.2 z2.1 z2.2, q _ git_rangeC⟩
    · rw [if_neg z0] at hm; cases hm
end
end GB

/-! zip of two texts, of two lists -/
namespace GB
open PySem PySem.Spec PyProof.Rows L2
/-- the signs of two texts, by turns, in new pairs -/
def Itzs (x y : Str) : It :=
  ⟨fun i _ => i < x.cps.size ∧ i < y.cps.size,
    fun i H v H' => ∃ T c d, v = .ref T ∧ H T = none ∧ H' = upd H T (.tup [.str ⟨#[c]⟩, .str ⟨#[d]⟩]) ∧ x.cps[i]? = some c ∧ y.cps[i]? = some d,
    fun i _ => i = x.cps.size ∧ i ≤ y.cps.size ∨ i ≤ x.cps.size ∧ i = y.cps.size⟩
def ZsAt (x y : Str) (t u : Tok) (z TI TO i1 i2 : Addr) (i : Nat) (h : Heap) : Prop :=
  IsZip h z TI TO .none ∧ IsTupOf2 h TI (.ref i1) (.ref i2) ∧ (∃ a b, IsTupOf2 h TO a b) ∧ h.IsStrIter i1 (strIterType x) x t i ∧ h.IsStrIter i2 (strIterType y) y u i
theorem turn_zs {P : Program} {w : World} {K : PySem.W.Frag} {elts : List Expr} {kk : Nat} {tpos : Pos} {x y : Str} {t u : Tok} {z TI TO i1 i2 : Addr} (D : ZipSep2 z TI TO i1 i2 [i1] [i2]) :
    Turn P w K (.Tuple elts kk tpos) (Itzs x y) [z, TI, TO, i1, i2] z (ZsAt x y t u z TI TO i1 i2) where
  mem := List.mem_cons_self ..
  obj := fun i h st c hc => by
    obtain ⟨k1, k2, ⟨a, b, k3⟩, ⟨o1, k4, _, q1⟩, ⟨o2, k5, _, q2⟩⟩ := st
    rcases (show c = z ∨ c = TI ∨ c = TO ∨ c = i1 ∨ c = i2 from by simpa using hc) with rfl | rfl | rfl | rfl | rfl
    · exact ⟨_, k1, fun v e => nomatch e⟩
    · exact ⟨_, k2, fun v e => nomatch e⟩
    · exact ⟨_, k3, fun v e => nomatch e⟩
    · exact ⟨_, k4, fun v e => by rw [q1] at e; cases e⟩
    · exact ⟨_, k5, fun v e => by rw [q2] at e; cases e⟩
  keep := fun i h h' st k => by
    obtain ⟨k1, k2, ⟨a, b, k3⟩, k4, k5⟩ := st
    obtain ⟨o1, e1', r1⟩ := k4
    obtain ⟨o2, e2', r2⟩ := k5
    exact ⟨k z (by simp) _ k1, k TI (by simp) _ k2, ⟨a, b, k TO (by simp) _ k3⟩, ⟨o1, k i1 (by simp) _ e1', r1⟩, ⟨o2, k i2 (by simp) _ e2', r2⟩⟩
  item := by
    rintro X rfl rfl rfl hc i pins s σ H E I hf ⟨k1, k2, ⟨a, b, k3⟩, k4, k5⟩ ⟨g1, g2⟩
    have hz : z < s.heap.objs.size := Heap.lt_size k1
    refine wpAny_pyNext_zipD2_item D (Draws.text (A := X.A.in1) (I.ok.hd hc) i1 x t) (Draws.text (A := X.A.in1) (I.ok.hd hc) i2 y u) k1 k2 k3 k4 k5 g1 g2 fun v1 v2 hh tk y1 y2 m1 m2 m3 m4 m5 _ m6 => ?_
    obtain ⟨c, u1, hc1, rfl⟩ := y1
    obtain ⟨d, u2, hd1, rfl⟩ := y2
    refine ⟨_, rfl, wpAny_letOwnedTupleGo_zip (s := { s with heap := hh, toks := tk }) m1 fun h2 n1 sb => ?_⟩
    have n5 : h2.get? s.heap.objs.size = some { cls := .type "tuple", data := .seq #[.str ⟨#[c]⟩ u1, .str ⟨#[d]⟩ u2] } := (sb.2 _ (Nat.ne_of_gt hz)).trans m5
    have new : ObjOk X.prog X.w (upd H s.heap.objs.size (.tup [.str ⟨#[c]⟩, .str ⟨#[d]⟩])) h2 s.heap.objs.size (.tup [.str ⟨#[c]⟩, .str ⟨#[d]⟩]) :=
      ⟨by show 2 ≤ sizeLine; decide, [.str ⟨#[c]⟩ u1, .str ⟨#[d]⟩ u2], .cons ⟨_, rfl⟩ (.cons ⟨_, rfl⟩ .nil), ⟨_, n5, rfl, _, rfl⟩⟩
    have I1 : Inv X pins σ (upd H s.heap.objs.size (.tup [.str ⟨#[c]⟩, .str ⟨#[d]⟩])) { s with heap := h2, toks := tk } := by
      refine I.turnedNew (ch := [z, TI, TO, i1, i2]) (fun b o hb e => ?_) hf (Nat.le_refl _) new
      exact (sb.2 b fun w => hb (by simp [w])).trans (m6 b o (fun w => hb (by simp [w])) (fun w => hb (by simp [w])) (fun w => hb (by simp [w])) (fun w => hb (by simp [w])) e)
    refine ⟨.ref s.heap.objs.size, _, I1, rfl, ⟨_, c, d, rfl, I.hok.fresh (Nat.le_refl _), rfl, hc1, hd1⟩, ⟨n1, ?_, ⟨.str ⟨#[c]⟩ u1, .str ⟨#[d]⟩ u2, ?_⟩, ?_, ?_⟩, fun b hb => ?_⟩
    · exact (sb.2 _ D.TIz).trans (m6 _ _ D.TIz D.TITO D.TIi1 D.TIi2 k2)
    · exact (sb.2 _ D.TOz).trans m2
    · obtain ⟨o1, e1', r1⟩ := m3
      exact ⟨o1, (sb.2 _ D.zi1.symm).trans e1', r1⟩
    · obtain ⟨o2, e2', r2⟩ := m4
      exact ⟨o2, (sb.2 _ D.zi2.symm).trans e2', r2⟩
    · have lt : b < s.heap.objs.size := by
        rcases (show b = z ∨ b = TI ∨ b = TO ∨ b = i1 ∨ b = i2 from by simpa using hb) with rfl | rfl | rfl | rfl | rfl
        · exact hz
        · exact Heap.lt_size k2
        · exact Heap.lt_size k3
        · obtain ⟨_, e, _⟩ := k4; exact Heap.lt_size e
        · obtain ⟨_, e, _⟩ := k5; exact Heap.lt_size e
      rw [upd_ne (Nat.ne_of_lt lt)]
      exact (hf b hb).1
  done := by
    rintro X rfl rfl rfl hc i pins s σ H E I hf ⟨k1, k2, ⟨a, b, k3⟩, k4, k5⟩ hg
    have h3 : i ≤ x.cps.size ∧ i ≤ y.cps.size ∧ (i = x.cps.size ∨ i = y.cps.size) := by
      rcases hg with ⟨h1, h2⟩ | ⟨h1, h2⟩ <;> omega
    refine wpAny_pyNext_zipD2_end D (Draws.text (A := X.A.in1) (I.ok.hd hc) i1 x t) (Draws.text (A := X.A.in1) (I.ok.hd hc) i2 y u) k1 k2 k3 k4 k5 h3.1 h3.2.1 h3.2.2 fun hh tk m6 => ⟨rfl, ?_⟩
    refine I.turnedL (ch := [z, TI, TO, i1, i2]) (fun b o hb e => ?_) hf
    exact m6 b o (fun w => hb (by simp [w])) (fun w => hb (by simp [w])) (fun w => hb (by simp [w])) (fun w => hb (by simp [w])) e
  self := fun A i s Q E st h => wpAny_pyIter_zip st.1 h
section
variable {X : Cx} {C : Ct} {e e2 : Expr} {fa : Rho → Rs (List Opd)} {pos p tpos : Pos} {elts : List Expr} {kk : Nat}
/-- zip(e, e2): of two texts, two lists, two tuples -/
def iZipU (K : PySem.W.Frag) (vs : List V) (H : Hp) (R : It → Hp → Prop) : Prop :=
  (∃ x y, vs = [.str x, .str y] ∧ R (Itzs x y) H) ∨ ∃ a b xs ys, vs = [.ref a, .ref b] ∧ SqL K H a xs ∧ SqL K H b ys ∧ R (Itz K a b) H
theorem pi_zipU {ta : TA} (hg : Gl X "zip") (hm : X.mg "zip" = none) (ha : PA X [e, e2] ta)
    (hs : starEach [e, e2] X.env = (false, eval e X.env) :: starEach [e2] X.env := by rfl) (hpl : (backTo pos (starEach [e2] X.env)).any (·.1) = false := by rfl) :
    PI X (.Tuple elts kk tpos) (.Call (.Name "zip" p) [e, e2] [] pos) (fun σ H R => ta σ H fun vs H1 => iZipU X.K vs H1 R) := by
  constructor
  intro pins s σ H R I h
  refine Call_ (ld_blt I hg hm PyProof.Rows.boot_zip (PyProof.Rows.callWith_type1 (thn (ha.run pos pins s σ H _ I h) ?_) hs hpl))
  rintro us s1 ⟨vs, H1, I1, rv, q⟩
  have fr : ∀ k, FpOk X pins H1 (s1.heap.objs.size + k) := fun k => I1.fpOk (Nat.le_add_right _ _) (I1.hok.fresh (Nat.le_add_right _ _))
  have all5 : ∀ c, c ∈ [s1.heap.objs.size + 4, s1.heap.objs.size + 2, s1.heap.objs.size + 3, s1.heap.objs.size, s1.heap.objs.size + 1] → FpOk X pins H1 c := by
    intro c hc
    simp only [List.mem_cons, List.not_mem_nil, or_false] at hc
    rcases hc with rfl | rfl | rfl | rfl | rfl
    · exact fr 4
    · exact fr 2
    · exact fr 3
    · exact fr 0
    · exact fr 1
  rcases q with ⟨x, y, rfl, q⟩ | ⟨a, b, xs, ys, rfl, h1, h2, q⟩
  · cases rv with
    | cons r1 rv =>
    cases rv with
    | cons r2 rv =>
    cases rv
    obtain ⟨t, rfl⟩ := r1
    obtain ⟨u, rfl⟩ := r2
    refine zip_begins2 (begins_text x t) (begins_text y u) trivial trivial fun hh m1 m2 m3 m4 m5 _ m6 => wpAny_pyIter_zip m1 ?_
    have I2 : Inv X pins σ H1 { s1 with heap := hh } := I1.kept (t' := s1.toks) m6
    have D : ZipSep2 (s1.heap.objs.size + 4) (s1.heap.objs.size + 2) (s1.heap.objs.size + 3) s1.heap.objs.size (s1.heap.objs.size + 1) [s1.heap.objs.size] [s1.heap.objs.size + 1] := zip_sep2 (fp1 := []) (fp2 := []) (fun _ z => nomatch z) (fun _ z => nomatch z)
    refine ⟨_, _, _, _, H1, rfl, I2, turn_zs (x := x) (y := y) (t := t) (u := u) D, ?_, all5, q⟩
    exact ⟨m1, m2, ⟨_, _, m3⟩, ⟨_, m4, rfl, rfl⟩, ⟨_, m5, rfl, rfl⟩⟩
  · cases rv with
    | cons r1 rv =>
    cases rv with
    | cons r2 rv =>
    cases rv
    cases r1
    cases r2
    obtain ⟨l1, _, w1, _⟩ := I1.list h1
    obtain ⟨l2, _, w2, _⟩ := I1.list h2
    refine call_zip_2 w1.isList w2.isList fun hh m1 m2 m3 m4 m5 _ m6 => wpAny_pyIter_zip m1 ?_
    have I2 : Inv X pins σ H1 { s1 with heap := hh } := I1.kept (t' := s1.toks) m6
    exact ⟨_, _, _, _, H1, rfl, I2, turn_zip (PySem.W.ktu_apart s1.heap.objs.size a b w1.lt w2.lt), ⟨m1, m2, ⟨_, _, m3⟩, m4, m5⟩, all5, q⟩
def mkZipU : List S → Option (List D)
  | [.fz (.str a), .fz (.str b)] => some ((a.zip b).map fun z => .tup [.str [z.1], .str [z.2]])
  | l => mkZip l
theorem git_zs {a b : List Nat} {vs : List V} {ss : List S} : GItem C (Itzs ⟨a.toArray⟩ ⟨b.toArray⟩) ((a.zip b).map fun z => .tup [.str [z.1], .str [z.2]]) vs ss := by
  refine ⟨fun _ => True, fun i H v H' => ∃ T c d, v = .ref T ∧ H T = none ∧ H' = upd H T (.tup [.str ⟨#[c]⟩, .str ⟨#[d]⟩]) ∧ a[i]? = some c ∧ b[i]? = some d, ⟨fun i H hi _ => ?_, fun H _ => ?_, fun i H x H' hi _ y => ?_⟩, fun U W H z => True.intro, fun i H x H' d U W hd z lv y => ?_⟩
  · rw [List.length_map, List.length_zip] at hi
    exact ⟨by simp; omega, by simp; omega⟩
  · rw [List.length_map, List.length_zip]
    show _ ∧ _ ∨ _ ∧ _
    simp
    omega
  · obtain ⟨T, c, d, e1', e2', e3', e4', e5'⟩ := y
    exact ⟨T, c, d, e1', e2', e3', by simpa using e4', by simpa using e5'⟩
  · obtain ⟨T, c, d', rfl, hT, rfl, h1, h2⟩ := y
    have hz : (a.zip b)[i]? = some (c, d') := List.getElem?_zip_eq_some.mpr ⟨h1, h2⟩
    rw [List.getElem?_map, hz] at hd
    cases hd
    exact ⟨upd_keep hT, .tup (.inl (.inl upd_same)) (.cons (.str [c]) (.cons (.str [d']) .nil))⟩
theorem walkZ {K : PySem.W.Frag} {a b : Addr} {n m : Nat} : Walk (Itz K a b) (min n m) (fun H => ∃ xs ys, SqL K H a xs ∧ SqL K H b ys ∧ xs.length = n ∧ ys.length = m) (fun i H v H' => ∃ T x y, v = .ref T ∧ H T = none ∧ H' = upd H T (.tup [x, y]) ∧ (∀ xs, SqL K H a xs → xs[i]? = some x) ∧ ∀ ys, SqL K H b ys → ys[i]? = some y) :=
  ⟨fun i _ hi ⟨xs, ys, q1, q2, z1, z2⟩ => ⟨xs, ys, _, _, q1, q2, List.getElem?_eq_getElem (by omega), List.getElem?_eq_getElem (by omega)⟩, fun _ ⟨xs, ys, q1, q2, z1, z2⟩ => ⟨xs, ys, q1, q2, by omega⟩, fun _ _ _ _ _ _ y => y⟩
theorem gi_zip (hg : Gl X "zip") (hm : X.mg "zip" = none) (ha : GA X C [e, e2] fa) (hK : C.K = X.K := by rfl)
    (hs : starEach [e, e2] X.env = (false, eval e X.env) :: starEach [e2] X.env := by rfl) (hpl : (backTo pos (starEach [e2] X.env)).any (·.1) = false := by rfl) :
    GI X C (.Tuple elts kk tpos) (.Call (.Name "zip" p) [e, e2] [] pos) fa mkZipU := by
  refine ⟨_, ?_, pi_zipU hg hm ha hs hpl⟩
  intro vs H ss ds U W R hs hn hm q
  have two : ∃ s t, ss = [s, t] := by
    unfold mkZipU at hm
    split at hm
    · exact ⟨_, _, rfl⟩
    · unfold mkZip at hm
      split at hm
      · exact ⟨_, _, rfl⟩
      · cases hm
  obtain ⟨s, t, rfl⟩ := two
  match hs with
  | .cons (a := v) x (.cons (a := v') y .nil) =>
    by_cases hz : ∃ a b, s = .fz (.str a) ∧ t = .fz (.str b)
    · obtain ⟨a, b, rfl, rfl⟩ := hz
      cases hm
      rw [sr_str x, sr_str y]
      exact .inl ⟨_, _, rfl, q _ git_zs⟩
    · have hm : mkZip [s, t] = some ds := by
        rw [← hm]
        unfold mkZipU
        split
        · rename_i h
          cases h
          exact absurd ⟨_, _, rfl, rfl⟩ hz
        · rfl
      unfold mkZip at hm
      dsimp only at hm
      cases e1' : asLs s with
      | none => rw [e1'] at hm; cases hm
      | some as =>
        rw [e1'] at hm
        cases e2' : asLs t with
        | none => rw [e2'] at hm; cases hm
        | some bs =>
          rw [e2'] at hm; cases hm
          obtain ⟨l1, xs, rfl, h1, r1⟩ := asLs_of x e1'
          obtain ⟨l2, ys, rfl, h2, r2⟩ := asLs_of y e2'
          refine .inr ⟨l1, l2, xs, ys, rfl, hK ▸ h1, hK ▸ h2, q _ ⟨_, _, by rw [List.length_map, List.length_zip]; exact walkZ (K := X.K), fun U W H z => ?_, fun i H x H' d U W hd z lv y => ?_⟩⟩
          · cases z with
            | cons z1 z =>
              cases z with
              | cons z2 z =>
                obtain ⟨_, xs, q1, g1, g2⟩ := asLs_of z1 e1'
                obtain ⟨_, ys, q2, g3, g4⟩ := asLs_of z2 e2'
                cases q1
                cases q2
                exact ⟨xs, ys, hK ▸ g1, hK ▸ g3, g2.len, g4.len⟩
          · cases z with
            | cons z1 z =>
              cases z with
              | cons z2 z =>
                obtain ⟨_, xs, q1, g1, g2⟩ := asLs_of z1 e1'
                obtain ⟨_, ys, q2, g3, g4⟩ := asLs_of z2 e2'
                cases q1
                cases q2
                obtain ⟨T, x0, y0, rfl, hT, rfl, f1, f2⟩ := y
                rw [List.getElem?_map] at hd
                cases e3' : (as.zip bs)[i]? with
                | none => rw [e3'] at hd; cases hd
                | some ab =>
                  rw [e3'] at hd; cases hd
                  obtain ⟨k1, k2⟩ := List.getElem?_zip_eq_some.mp e3'
                  obtain ⟨v1, w1, w2⟩ := rps_at g2 k1
                  obtain ⟨v2, w3, w4⟩ := rps_at g4 k2
                  have j1 := f1 xs (hK ▸ g1)
                  have j2 := f2 ys (hK ▸ g3)
                  rw [w1] at j1; cases j1
                  rw [w3] at j2; cases j2
                  exact ⟨upd_keep hT, .tup (.inl (.inl upd_same)) (.cons (w2.mono (monoKeep lv (upd_keep hT))) (.cons (w4.mono (monoKeep lv (upd_keep hT))) .nil))⟩
end
end GB

/-! words, their backs and reduction; feeds; slices -/
namespace GB
open PySem PySem.Spec PyProof.Rows L2
/-! MF -/
@[simp] theorem s_ixBS {kvs : List (Key × D)} {l : List Nat} : qIx [.bd kvs, .fz (.str l)] = (getD kvs (.inr ⟨l.toArray⟩)).map .fz := rfl
@[simp] theorem s_ixOS {kvs : List (Key × D)} {l : List Nat} : qIx [.od kvs, .fz (.str l)] = (getD kvs (.inr ⟨l.toArray⟩)).map .fz := rfl
@[simp] theorem s_putBS {kvs : List (Key × D)} {v : D} {l : List Nat} : mPut (.bd kvs) [v, .str l] = if decide (kvs.length < 16777216) then some (.bd (putD kvs (.inr ⟨l.toArray⟩) v), .non) else none := rfl
/-- the feed -/
def fd (cells : List Int) (a b c : Int) : List (Key × D) := [(.inr ⟨#[99, 101, 108, 108, 115]⟩, .lst (cells.map D.int)), (.inr ⟨#[97, 116]⟩, .int a), (.inr ⟨#[108, 101, 102, 116]⟩, .int b), (.inr ⟨#[116, 117, 114, 110]⟩, .int c)]
section
variable {cells : List Int} {a b c x : Int}
@[simp] theorem fd_len : (fd cells a b c).length = 4 := rfl
@[simp] theorem fd_c : getD (fd cells a b c) (.inr ⟨#[99, 101, 108, 108, 115]⟩) = some (.lst (cells.map D.int)) := rfl
@[simp] theorem fd_a : getD (fd cells a b c) (.inr ⟨#[97, 116]⟩) = some (.int a) := rfl
@[simp] theorem fd_l : getD (fd cells a b c) (.inr ⟨#[108, 101, 102, 116]⟩) = some (.int b) := rfl
@[simp] theorem fd_t : getD (fd cells a b c) (.inr ⟨#[116, 117, 114, 110]⟩) = some (.int c) := rfl
@[simp] theorem fd_pa : putD (fd cells a b c) (.inr ⟨#[97, 116]⟩) (.int x) = fd cells x b c := rfl
@[simp] theorem fd_pl : putD (fd cells a b c) (.inr ⟨#[108, 101, 102, 116]⟩) (.int x) = fd cells a x c := rfl
@[simp] theorem fd_pt : putD (fd cells a b c) (.inr ⟨#[116, 117, 114, 110]⟩) (.int x) = fd cells a b x := rfl
end
theorem atI_mod {α : Type} {l : List α} (h : 0 < l.length) (a : Int) : ∃ x, atI l (a % (l.length : Int)) = some x ∧ x ∈ l := by
  have h1 : 0 ≤ a % (l.length : Int) := Int.emod_nonneg _ (by omega)
  have h2 : a % (l.length : Int) < l.length := Int.emod_lt_of_pos _ (by omega)
  obtain ⟨k, hk⟩ := Int.eq_ofNat_of_zero_le h1
  rw [hk, atI_n]
  have : k < l.length := by omega
  exact ⟨l[k], List.getElem?_eq_getElem this, List.getElem_mem this⟩
/-! MH -/
/-- a sign turned about -/
def bk (c : Nat) : Nat := if 97 ≤ c ∧ c ≤ 102 then c - 32 else c + 32
def isL (c : Nat) : Bool := decide ((97 ≤ c ∧ c ≤ 102) ∨ (65 ≤ c ∧ c ≤ 70))
theorem isL_iff {c : Nat} : isL c = true ↔ (97 ≤ c ∧ c ≤ 102) ∨ (65 ≤ c ∧ c ≤ 70) := decide_eq_true_iff
theorem bk_isL {c : Nat} (h : isL c = true) : isL (bk c) = true := by
  rw [isL_iff] at h ⊢
  unfold bk
  split <;> omega
theorem bk_bk {c : Nat} (h : isL c = true) : bk (bk c) = c := by
  rw [isL_iff] at h
  unfold bk
  split <;> split <;> omega
theorem bk_ne {c : Nat} (h : isL c = true) : bk c ≠ c := by
  rw [isL_iff] at h
  unfold bk
  split <;> omega
theorem bk_inj {c d : Nat} (h : isL c = true) (h' : isL d = true) (e : bk c = bk d) : c = d := by
  rw [← bk_bk h, e, bk_bk h']
/-- letters -/
def W (w : List Nat) : Prop := ∀ c ∈ w, isL c = true
theorem W.app {u v : List Nat} (h : W u) (h' : W v) : W (u ++ v) := fun c hc => (List.mem_append.mp hc).elim (h c) (h' c)
theorem W.l {u v : List Nat} (h : W (u ++ v)) : W u := fun c hc => h c (List.mem_append_left _ hc)
theorem W.r {u v : List Nat} (h : W (u ++ v)) : W v := fun c hc => h c (List.mem_append_right _ hc)
theorem W.nil : W [] := fun c hc => (nomatch hc)
theorem W.cons {c : Nat} {u : List Nat} (h : isL c = true) (h' : W u) : W (c :: u) := fun d hd => (List.mem_cons.mp hd).elim (fun e => e ▸ h) (h' d)
theorem W.head {c : Nat} {u : List Nat} (h : W (c :: u)) : isL c = true := h c (List.mem_cons_self ..)
theorem W.tail {c : Nat} {u : List Nat} (h : W (c :: u)) : W u := fun d hd => h d (List.mem_cons_of_mem _ hd)
theorem W.rev {u : List Nat} (h : W u) : W u.reverse := fun c hc => h c (List.mem_reverse.mp hc)
theorem W.take {u : List Nat} (h : W u) (n : Nat) : W (u.take n) := fun c hc => h c (List.mem_of_mem_take hc)
theorem W.drop {u : List Nat} (h : W u) (n : Nat) : W (u.drop n) := fun c hc => h c (List.mem_of_mem_drop hc)
theorem W.all {u : List Nat} (h : W u) : u.all isL = true := List.all_eq_true.mpr h
/-- the backs -/
def bkw (w : List Nat) : List Nat := (w.map bk).reverse
theorem W.bkw {w : List Nat} (h : W w) : W (bkw w) := fun c hc => by
  obtain ⟨d, hd, rfl⟩ := List.mem_map.mp (List.mem_reverse.mp hc)
  exact bk_isL (h d hd)
theorem bkw_bkw {w : List Nat} (h : W w) : bkw (bkw w) = w := by
  unfold GB.bkw
  rw [List.map_reverse, List.reverse_reverse, List.map_map]
  conv => rhs; rw [← List.map_id w]
  exact List.map_congr_left fun c hc => bk_bk (h c hc)
theorem bkw_app (u v : List Nat) : bkw (u ++ v) = bkw v ++ bkw u := by
  unfold bkw; rw [List.map_append, List.reverse_append]
theorem bkw_len (w : List Nat) : (bkw w).length = w.length := by unfold bkw; simp
/-- one sign more upon a stack -/
def step (s : List Nat) (c : Nat) : List Nat := match s with
  | x :: s' => if x = bk c then s' else c :: x :: s'
  | [] => [c]
def run (s w : List Nat) : List Nat := w.foldl step s
def red (w : List Nat) : List Nat := (run [] w).reverse
theorem run_app (s u v : List Nat) : run s (u ++ v) = run (run s u) v := List.foldl_append
/-- a stack without a sign upon its back -/
def Ok : List Nat → Prop
  | x :: y :: s => y ≠ bk x ∧ Ok (y :: s)
  | _ => True
theorem Ok.tail : ∀ {x : Nat} {s : List Nat}, Ok (x :: s) → Ok s
  | _, [], _ => trivial
  | _, _ :: _, h => h.2
theorem step_ok {s : List Nat} {c : Nat} (hs : Ok s) : Ok (step s c) := by
  cases s with
  | nil => trivial
  | cons x s =>
    unfold step
    dsimp only
    split
    · exact hs.tail
    · exact ⟨by assumption, hs⟩
theorem step_w {s : List Nat} {c : Nat} (hs : W s) (hc : isL c = true) : W (step s c) := by
  cases s with
  | nil => exact .cons hc .nil
  | cons x s =>
    unfold step
    dsimp only
    split
    · exact hs.tail
    · exact .cons hc hs
theorem step_back {s : List Nat} {c : Nat} (hs : Ok s) (hw : W s) (hc : isL c = true) : step (step s c) (bk c) = s := by
  cases s with
  | nil =>
    show (if c = bk (bk c) then [] else [bk c, c]) = []
    rw [bk_bk hc, if_pos rfl]
  | cons x s =>
    unfold step
    dsimp only
    by_cases e : x = bk c
    · rw [if_pos e]
      cases s with
      | nil => rw [e]
      | cons y s =>
        dsimp only
        have : y ≠ bk (bk c) := by
          have := hs.1
          rw [e] at this
          exact this
        rw [if_neg this, e]
    · rw [if_neg e]
      dsimp only
      rw [if_pos (bk_bk hc).symm]
theorem run_ok : ∀ {w s : List Nat}, Ok s → Ok (run s w)
  | [], _, h => h
  | c :: w, s, h => run_ok (w := w) (step_ok h)
theorem run_w : ∀ {w s : List Nat}, W s → W w → W (run s w)
  | [], _, h, _ => h
  | c :: w, s, h, hw => run_w (w := w) (step_w h hw.head) hw.tail
theorem run_back : ∀ {w s : List Nat}, Ok s → W s → W w → run (run s w) (bkw w) = s
  | [], _, _, _, _ => rfl
  | c :: w, s, hs, hw, h => by
    have e : bkw (c :: w) = bkw w ++ [bk c] := by unfold bkw; simp
    show run (run (step s c) w) (bkw (c :: w)) = s
    rw [e, run_app, run_back (step_ok hs) (step_w hw h.head) h.tail]
    exact step_back hs hw h.head
/-- a reduced word stays -/
theorem run_rev : ∀ {s t : List Nat}, Ok (s ++ t) → run t s.reverse = s ++ t
  | [], _, _ => rfl
  | x :: s, t, h => by
    rw [List.reverse_cons, run_app, run_rev h.tail]
    show step (s ++ t) x = x :: (s ++ t)
    cases e : s ++ t with
    | nil => rfl
    | cons y r =>
      have h : Ok (x :: (s ++ t)) := h
      rw [e] at h
      show (if y = bk x then r else x :: y :: r) = _
      rw [if_neg h.1]
/-- upon any stack, a word does what its reduced form does -/
theorem run_red {s : List Nat} (hs : Ok s) (hw : W s) : ∀ {w : List Nat}, W w → run s (red w) = run s w := by
  have key : ∀ (w t : List Nat), Ok t → W t → W w → run (run s t.reverse) w = run s (run t w).reverse := by
    intro w
    induction w with
    | nil => intro t _ _ _; rfl
    | cons c w ih =>
      intro t ht wt hw'
      have e : run (run s t.reverse) (c :: w) = run (step (run s t.reverse) c) w := rfl
      rw [e]
      have e2 : step (run s t.reverse) c = run s (step t c).reverse := by
        cases t with
        | nil => rfl
        | cons x t =>
          unfold step
          dsimp only
          by_cases h : x = bk c
          · rw [if_pos h]
            rw [List.reverse_cons, run_app]
            have hx : c = bk x := by rw [h, bk_bk hw'.head]
            have := step_back (s := run s t.reverse) (c := x) (run_ok hs) (run_w hw wt.tail.rev) wt.head
            rw [← hx] at this
            exact this
          · rw [if_neg h]
            rw [List.reverse_cons (a := c), run_app]
            rfl
      rw [e2]
      exact ih (step t c) (step_ok ht) (step_w wt hw'.head) hw'.tail
  intro w h
  exact (key w [] trivial .nil h).symm
theorem red_w {w : List Nat} (h : W w) : W (red w) := (run_w .nil h).rev
theorem ok_nil : Ok [] := by unfold Ok; trivial
theorem red_l {u v : List Nat} (hu : W u) (hv : W v) : red (red u ++ v) = red (u ++ v) := by
  show (run [] (red u ++ v)).reverse = (run [] (u ++ v)).reverse
  rw [run_app, run_app, run_red ok_nil .nil hu]
theorem red_r {u v : List Nat} (hu : W u) (hv : W v) : red (u ++ red v) = red (u ++ v) := by
  show (run [] (u ++ red v)).reverse = (run [] (u ++ v)).reverse
  rw [run_app, run_app, run_red (run_ok ok_nil) (run_w .nil hu) hv]
theorem red_back {w : List Nat} (h : W w) : red (w ++ bkw w) = [] := by
  show (run [] (w ++ bkw w)).reverse = []
  rw [run_app, run_back ok_nil .nil h]
  rfl
theorem step_len (s : List Nat) (c : Nat) : (step s c).length ≤ s.length + 1 := by
  cases s with
  | nil => exact Nat.le_refl _
  | cons x s =>
    unfold step
    dsimp only
    split
    · simp; omega
    · simp
theorem run_len : ∀ (w s : List Nat), (run s w).length ≤ s.length + w.length
  | [], s => Nat.le_refl _
  | c :: w, s => by
    have h1 := run_len w (step s c)
    have h2 := step_len s c
    show (run (step s c) w).length ≤ _
    rw [List.length_cons]; omega
theorem red_len (w : List Nat) : (red w).length ≤ w.length := by
  unfold red; rw [List.length_reverse]; have := run_len w []; simpa using this
/-! MI -/
@[simp] theorem atI_m1 {α : Type} {l : List α} : atI l (-1) = l.getLast? := by
  cases l with
  | nil => rfl
  | cons a l =>
    have e : ixN (a :: l).length (-1) = some l.length := by
      unfold ixN
      rw [if_neg (by omega), if_pos (by rw [List.length_cons]; omega), List.length_cons]
      congr 1
      omega
    unfold atI
    rw [e, List.getLast?_eq_getElem?]
    rfl
@[simp] theorem s_fNeg {i : Int} : fNeg (.fz (.int i)) = some (.fz (.int (-i))) := rfl
@[simp] theorem s_fAbs {i : Int} : fAbs (.fz (.int i)) = some (.fz (.int (if i < 0 then -i else i))) := rfl
@[simp] theorem s_fApp {ds : List D} {d : D} : fApp ds [d] = if decide (ds.length < 16777216) then some (ds ++ [d], .non) else none := rfl
@[simp] theorem s_fPop0 {ds : List D} : fPop0 ds [] = ds.getLast?.map fun d => (ds.dropLast, d) := rfl
def sgD (c : Nat) : D := .str [c]
@[simp] theorem join_sg {cs : List Nat} (h : cs.length ≤ 16777216) : fJoin (.fz (.str [])) (.ol (cs.map sgD)) = some (.fz (.str cs)) := by
  have e4 : strsOf (cs.map sgD) = some (cs.map fun c => [c]) := strsOf_map (fun c => [c]) cs
  have z : ((cs.map fun c => [c]).map List.length).sum = cs.length := sum_one id cs
  have fl : (cs.map fun c => [c]).flatten = cs := (flat_one id cs).trans (List.map_id cs)
  rw [s_fJoin, e4]
  dsimp only
  rw [z, joinN_nil, fl, if_pos (big_of (by simpa using h))]
/-! MJ -/
theorem if_mulS {l : List Nat} {k : Int} {α : Type} {x : α} (h1 : 0 ≤ k) (h2 : k ≤ 1000000) (hl : l.length * k.toNat ≤ 16777216) : (if -(2 ^ 62) ≤ k ∧ k < 2 ^ 62 ∧ l.length * k.toNat ≤ 16777216 then some x else none) = some x := if_pos ⟨by omega, by omega, hl⟩
theorem mulS_k {l : List Nat} {k : Int} (h1 : 0 ≤ k) (h2 : k ≤ 1000000) (hl : l.length * k.toNat ≤ 16777216) : qMul [.fz (.str l), .fz (.int k)] = some (.fz (.str (List.replicate k.toNat l).flatten)) := by
  rw [s_qMulS]
  exact if_mulS h1 h2 hl
theorem mulS_n {l : List Nat} {k : Nat} (h2 : k ≤ 1000000) (hl : l.length * k ≤ 16777216) : qMul [.fz (.str l), .fz (.int (k : Nat))] = some (.fz (.str (List.replicate k l).flatten)) := by
  have := mulS_k (l := l) (k := (k : Nat)) (by omega) (by omega) (by rw [Int.toNat_natCast]; exact hl)
  rw [Int.toNat_natCast] at this
  exact this
/-! MK -/
/-- w[:k] -/
theorem sl_to {w : List Nat} (hb : w.length ≤ 16777216) (k : Nat) : fSl (.fz (.str w)) (.fz .non) (.fz (.int (k : Nat))) = some (.fz (.str (w.take k))) := by
  have e : GB.cutD w none (some (k : Int)) = w.take k := by
    unfold GB.cutD
    have e : HT.sIx w.length w.length (some (k : Int)) = min k w.length := HT.sIx_nat w.length w.length k
    rw [e]
    show List.take (min k w.length - 0) (w.drop 0) = _
    rw [List.drop_zero, Nat.sub_zero]
    by_cases h : k ≤ w.length
    · rw [Nat.min_eq_left h]
    · rw [Nat.min_eq_right (by omega), List.take_of_length_le (Nat.le_refl _), List.take_of_length_le (by omega)]
  show (if big w.length then some (S.fz (.str (GB.cutD w none (some (k : Int))))) else none) = _
  rw [if_pos (big_of hb), e]
/-- w[k:] -/
theorem sl_from {w : List Nat} (hb : w.length ≤ 16777216) (k : Nat) : fSl (.fz (.str w)) (.fz (.int (k : Nat))) (.fz .non) = some (.fz (.str (w.drop k))) := by
  have e : GB.cutD w (some (k : Int)) none = w.drop k := by
    unfold GB.cutD
    have e : HT.sIx w.length 0 (some (k : Int)) = min k w.length := HT.sIx_nat w.length 0 k
    rw [e]
    show List.take (w.length - min k w.length) (w.drop (min k w.length)) = _
    rw [List.take_of_length_le (by rw [List.length_drop]; omega)]
    by_cases h : k ≤ w.length
    · rw [Nat.min_eq_left h]
    · rw [Nat.min_eq_right (by omega), List.drop_eq_nil_of_le (Nat.le_refl _), List.drop_eq_nil_of_le (by omega)]
  show (if big w.length then some (S.fz (.str (GB.cutD w (some (k : Int)) none))) else none) = _
  rw [if_pos (big_of hb), e]
/-! ML -/
theorem lc_fz {fs : Rho → Rs (List Opd)} {mk : List S → Option (List D)} {fg : D → Rho → Option Rho} {ft : Rho → Rs Bool} {fe : Rho → Rs Opd} {vs : List Nat} {r r1 r3 : Rho} {d : D} {ds acc : List D} (h : fs r = .ok [.val (.fz d)] r1) (hk : mk [.fz d] = some ds) (hs : softs r1 vs = true) (hc : cmpL fg ft fe vs ds (wipeR r1 vs) [] = .ok acc r3) :
    eLc fs mk fg ft fe vs r = .ok (.val (.ol acc)) (restR r1 r3 vs) := by
  unfold eLc
  rw [h]
  show (match mk [.fz d] with
    | some ds => if softs r1 vs then (match cmpL fg ft fe vs ds (wipeR r1 vs) [] with | .ok acc r3 => Rs.ok (Opd.val (S.ol acc)) (unlR [] (restR r1 r3 vs)) | _ => .st) else .st
    | none => .st) = _
  rw [hk]
  dsimp only
  rw [if_pos hs, hc]
  rfl
/-! MO -/
theorem reprOk_str {w : List Nat} (hw : ∀ c ∈ w, c < 16 ^ 8) (hl : w.length ≤ 8000) : reprOk (.str w) = true :=
  reprOk_of (List.all_eq_true.mpr fun c hc => decide_eq_true (hw c hc)) (by rw [depth_str]; exact Nat.zero_le _) (by rw [weight_str]; exact hl)
theorem W.lt {w : List Nat} (h : W w) : ∀ c ∈ w, c < 16 ^ 8 := fun c hc => by have := isL_iff.mp (h c hc); omega
/-! rep -/
/-- so many times -/
def rep (w : List Nat) (k : Nat) : List Nat := (List.replicate k w).flatten
theorem rep_w {w : List Nat} (h : W w) : ∀ k, W (rep w k)
  | 0 => .nil
  | k + 1 => by unfold rep; rw [List.replicate_succ, List.flatten_cons]; exact h.app (rep_w h k)
theorem bkw_rep (w : List Nat) : ∀ k, bkw (rep w k) = rep (bkw w) k
  | 0 => rfl
  | k + 1 => by
    have e : ∀ u : List Nat, rep u (k + 1) = u ++ rep u k := fun u => by unfold rep; rw [List.replicate_succ, List.flatten_cons]
    have e2 : ∀ (u : List Nat), rep u (k + 1) = rep u k ++ u := fun u => by unfold rep; rw [List.replicate_succ', List.flatten_append]; simp
    rw [e, bkw_app, bkw_rep w k, ← e2]
theorem rep_len2 (w : List Nat) (k : Nat) : (rep w k).length = k * w.length := rep_len w k
/-- a feed over some cells -/
def Feed (k : List (Key × D)) : Prop := ∃ cells a b c, 0 < cells.length ∧ k = fd cells a b c
theorem cut63 (ns : List Int) : GB.cutD (ns.map D.int) none (some 63) = (ns.take 63).map D.int := by
  unfold GB.cutD
  rw [List.length_map]
  have e : HT.sIx ns.length ns.length (some 63) = min 63 ns.length := HT.sIx_nat ns.length ns.length 63
  rw [e]
  show List.take (min 63 ns.length - 0) ((ns.map D.int).drop 0) = _
  rw [List.drop_zero, Nat.sub_zero, ← List.map_take]
  congr 1
  by_cases h : 63 ≤ ns.length
  · rw [Nat.min_eq_left h]
  · rw [Nat.min_eq_right (by omega), List.take_of_length_le (Nat.le_refl _), List.take_of_length_le (by omega)]
def sgn (m : Nat) : List Nat := [97, 98, 99, 100, 101, 102].take m ++ [65, 66, 67, 68, 69, 70].take m
theorem sgn_w (m : Nat) : W (sgn m) := by
  have h1 : W [97, 98, 99, 100, 101, 102] := fun c hc => isL_iff.mpr (by simp at hc; omega)
  have h2 : W [65, 66, 67, 68, 69, 70] := fun c hc => isL_iff.mpr (by simp at hc; omega)
  exact (h1.take m).app (h2.take m)
theorem sgn_len {m : Nat} (h : m ≤ 6) : (sgn m).length = 2 * m := by unfold sgn; simp; omega
end GB

/-! more simp rules: sorted, min of texts; turns; slices between two places -/
namespace GB
open PySem PySem.Spec PyProof.Rows L2
theorem strsOf_ws (ws : List (List Nat)) : strsOf (ws.map D.str) = some ws := by
  induction ws with
  | nil => rfl
  | cons w ws ih => rw [List.map_cons, strsOf, ih]; rfl
theorem numsOfD_ws (w : List Nat) (ws : List (List Nat)) : numsOfD ((w :: ws).map D.str) = none := rfl
theorem srtT {ws : List (List Nat)} : fSrt (.ol (ws.map D.str)) = some (.ol ((sortT ws).map D.str)) := by
  cases ws with
  | nil => simp [fSrt, asLs, asL, numsOfD, sortI, sortT]
  | cons w ws =>
    show (match numsOfD ((w :: ws).map D.str), strsOf ((w :: ws).map D.str) with
      | some ns, _ => some (S.ol ((sortI ns).map D.int))
      | none, some ws => some (.ol ((sortT ws).map D.str))
      | none, none => none) = _
    rw [numsOfD_ws, strsOf_ws]
theorem min1T {w : List Nat} {ws : List (List Nat)} : fMin1 (.ol ((w :: ws).map D.str)) = some (.fz (.str (leastT w ws))) := by
  show (match numsOfD ((w :: ws).map D.str), strsOf ((w :: ws).map D.str) with
    | some (n :: ns), _ => some (S.fz (.int (leastI n ns)))
    | none, some (w :: ws) => some (.fz (.str (leastT w ws)))
    | _, _ => none) = _
  rw [numsOfD_ws, strsOf_ws]
theorem leastT_spec (ws : List (List Nat)) : ∀ w, leastT w ws ∈ w :: ws ∧ ∀ y ∈ w :: ws, leastT w ws ≤ y := by
  induction ws with
  | nil =>
    intro w
    refine ⟨List.mem_cons_self .., fun y hy => ?_⟩
    rcases List.mem_cons.mp hy with rfl | hy
    · exact List.le_refl _
    · cases hy
  | cons x ws ih =>
    intro w
    have e : leastT w (x :: ws) = leastT (if x < w then x else w) ws := rfl
    rw [e]
    obtain ⟨h1, h2⟩ := ih (if x < w then x else w)
    have h3 := h2 _ (List.mem_cons_self ..)
    refine ⟨?_, fun y hy => ?_⟩
    · rcases List.mem_cons.mp h1 with h1 | h1
      · rw [h1]; split
        · exact List.mem_cons_of_mem _ (List.mem_cons_self ..)
        · exact List.mem_cons_self ..
      · exact List.mem_cons_of_mem _ (List.mem_cons_of_mem _ h1)
    · by_cases c : x < w
      · rw [if_pos c] at h3 h2 ⊢
        rcases List.mem_cons.mp hy with rfl | hy
        · exact List.le_trans h3 (List.le_of_lt c)
        · rcases List.mem_cons.mp hy with rfl | hy
          · exact h3
          · exact h2 y (List.mem_cons_of_mem _ hy)
      · rw [if_neg c] at h3 h2 ⊢
        rcases List.mem_cons.mp hy with rfl | hy
        · exact h3
        · rcases List.mem_cons.mp hy with rfl | hy
          · exact List.le_trans h3 (List.not_lt.mp c)
          · exact h2 y (List.mem_cons_of_mem _ hy)
theorem sortT_len (ws : List (List Nat)) : (sortT ws).length = ws.length := (sortT_perm ws).length_eq
theorem sortT_head (w : List Nat) (ws : List (List Nat)) : (sortT (w :: ws))[0]? = some (leastT w ws) := by
  have hp := sortT_perm (w :: ws)
  have hw := sortT_pw (w :: ws)
  cases e : sortT (w :: ws) with
  | nil => rw [e] at hp; exact absurd hp.length_eq (by simp)
  | cons x l =>
    rw [e] at hp hw
    obtain ⟨h1, h2⟩ := leastT_spec ws w
    have a1 : leastT w ws ≤ x := h2 x (hp.mem_iff.mp (List.mem_cons_self ..))
    have a2 : x ≤ leastT w ws := by
      rcases List.mem_cons.mp (hp.mem_iff.mpr h1) with z | z
      · exact z ▸ List.le_refl _
      · exact (List.pairwise_cons.mp hw).1 _ z
    rw [List.le_antisymm a2 a1]
    rfl
/-- w[i:j] -/
theorem sl_nn {w : List Nat} (hb : w.length ≤ 16777216) (i j : Nat) : fSl (.fz (.str w)) (.fz (.int (i : Nat))) (.fz (.int (j : Nat))) = some (.fz (.str ((w.take j).drop i))) := by
  have e : GB.cutD w (some (i : Int)) (some (j : Int)) = (w.take j).drop i := by
    unfold GB.cutD
    have e1' : HT.sIx w.length w.length (some (j : Int)) = min j w.length := HT.sIx_nat w.length w.length j
    have e2' : HT.sIx w.length 0 (some (i : Int)) = min i w.length := HT.sIx_nat w.length 0 i
    rw [e1', e2']
    refine List.ext_getElem? fun n => ?_
    rw [List.getElem?_take, List.getElem?_drop, List.getElem?_drop, List.getElem?_take]
    by_cases h1 : n < min j w.length - min i w.length
    · rw [if_pos h1, if_pos (by omega)]
      congr 1
      omega
    · rw [if_neg h1]
      split
      · exact (List.getElem?_eq_none (by omega)).symm
      · rfl
  show (if big w.length then some (S.fz (.str (GB.cutD w (some (i : Int)) (some (j : Int))))) else none) = _
  rw [if_pos (big_of hb), e]
theorem mkR1_i {i : Int} (h1 : -16777216 ≤ i) (h2 : i ≤ 16777216) : mkR1 [.fz (.int i)] = some (upFrom 0 i.toNat) := by
  show (if small62 i then some (upFrom 0 i.toNat) else none) = _
  have z : small62 i = true := decide_eq_true ⟨by omega, by omega⟩
  rw [if_pos z]
theorem mkR2_i {i j : Int} (h1 : -16777216 ≤ i) (h2 : i ≤ 16777216) (h3 : -16777216 ≤ j) (h4 : j ≤ 16777216) : mkR2 [.fz (.int i), .fz (.int j)] = some (upFrom i (j - i).toNat) := by
  show (if small62 i && small62 j then some (upFrom i (j - i).toNat) else none) = _
  rw [if_pos]
  rw [Bool.and_eq_true]
  exact ⟨decide_eq_true ⟨by omega, by omega⟩, decide_eq_true ⟨by omega, by omega⟩⟩
theorem mkR3_i {i j : Int} (h1 : -16777216 ≤ i) (h2 : i ≤ 16777216) (h3 : -16777216 ≤ j) (h4 : j ≤ 16777216) : mkR3 [.fz (.int i), .fz (.int j), .fz (.int (-1))] = some (downFrom i (i - j).toNat) := by
  show (if small62 i && small62 j && decide ((-1 : Int) = -1) then some (downFrom i (i - j).toNat) else none) = _
  rw [if_pos]
  rw [Bool.and_eq_true, Bool.and_eq_true]
  exact ⟨⟨decide_eq_true ⟨by omega, by omega⟩, decide_eq_true ⟨by omega, by omega⟩⟩, rfl⟩
/-- begun elsewhere -/
def rot (w : List Nat) (k : Nat) : List Nat := w.drop k ++ w.take k
theorem rot_0 (w : List Nat) : rot w 0 = w := by simp [rot]
theorem rot_len (w : List Nat) (k : Nat) : (rot w k).length = w.length := by simp [rot]; omega
theorem rot_w {w : List Nat} (h : W w) (k : Nat) : W (rot w k) := (h.drop k).app (h.take k)
theorem rot_succ {w : List Nat} {k : Nat} (h : k < w.length) : (rot w k).drop 1 ++ (rot w k).take 1 = rot w (k + 1) := by
  unfold rot
  have e : w.drop k = w[k] :: w.drop (k + 1) := List.drop_eq_getElem_cons h
  rw [e]
  show (w.drop (k + 1) ++ w.take k) ++ [w[k]] = _
  rw [List.append_assoc, List.take_succ_eq_append_getElem h]
/-- all turns -/
def turnsL (w : List Nat) : List (List Nat) := (List.range (max 1 w.length)).map (rot w)
theorem turnsL_len (w : List Nat) : (turnsL w).length = max 1 w.length := by simp [turnsL]
theorem turnsL_mem {w u : List Nat} (h : u ∈ turnsL w) : ∃ k, u = rot w k := by
  obtain ⟨k, _, rfl⟩ := List.mem_map.mp h
  exact ⟨k, rfl⟩
theorem turnsL_cons (w : List Nat) : ∃ ws, turnsL w = w :: ws := by
  unfold turnsL
  obtain ⟨n, hn⟩ : ∃ n, max 1 w.length = n + 1 := ⟨max 1 w.length - 1, by omega⟩
  rw [hn, List.range_succ_eq_map, List.map_cons, rot_0]
  exact ⟨_, rfl⟩
/-- the least turn -/
def leastTurn (w : List Nat) : List Nat := match turnsL w with
  | x :: xs => leastT x xs
  | [] => []
theorem turns_bnd {w : List Nat} (h : W w) {B : Nat} (hl : w.length ≤ B) : ∀ u ∈ turnsL w, u.length ≤ B ∧ ∀ c ∈ u, c < 16 ^ 8 := fun u hu => by
  obtain ⟨k, rfl⟩ := turnsL_mem hu
  exact ⟨by rw [rot_len]; exact hl, (rot_w h k).lt⟩
theorem leastTurn_mem (w : List Nat) : leastTurn w ∈ turnsL w := by
  obtain ⟨ws, e⟩ := turnsL_cons w
  unfold leastTurn
  rw [e]
  exact (leastT_spec ws w).1
theorem min1_turns (w : List Nat) : fMin1 (.ol ((turnsL w).map D.str)) = some (.fz (.str (leastTurn w))) := by
  obtain ⟨ws, e⟩ := turnsL_cons w
  unfold leastTurn
  rw [e]
  exact min1T
theorem sort_turns (w : List Nat) : (sortT (turnsL w))[0]? = some (leastTurn w) := by
  obtain ⟨ws, e⟩ := turnsL_cons w
  unfold leastTurn
  rw [e]
  exact sortT_head w ws
theorem reprOk_tup2 {a b : List Nat} (ha : ∀ c ∈ a, c < 16 ^ 8) (hb : ∀ c ∈ b, c < 16 ^ 8) (hl : a.length + b.length ≤ 7000) : reprOk (.tup [.str a, .str b]) = true := by
  refine reprOk_of ?_ ?_ ?_
  · show leafAll _ = true
    rw [leafAll_iff]
    intro d hd
    rcases List.mem_cons.mp hd with rfl | hd
    · exact List.all_eq_true.mpr fun c hc => decide_eq_true (ha c hc)
    · rcases List.mem_cons.mp hd with rfl | hd
      · exact List.all_eq_true.mpr fun c hc => decide_eq_true (hb c hc)
      · cases hd
  · rw [D.py, PyData.depth]
    have := depthAll_le (B := 0) [.str a, .str b] fun d hd => by
      rcases List.mem_cons.mp hd with rfl | hd
      · rw [depth_str]; exact Nat.le_refl _
      · rcases List.mem_cons.mp hd with rfl | hd
        · rw [depth_str]; exact Nat.le_refl _
        · cases hd
    omega
  · rw [D.py, PyData.weight]
    have := weightAll_le (B := 7000) [.str a, .str b] fun d hd => by
      rcases List.mem_cons.mp hd with rfl | hd
      · rw [weight_str]; omega
      · rcases List.mem_cons.mp hd with rfl | hd
        · rw [weight_str]; omega
        · cases hd
    rw [show pyAll [D.str a, D.str b] = [D.py (.str a), D.py (.str b)] from by simp [pyAll]] at *
    simp only [PyData.weightAll, weight_str]
    omega
/-! the core -/
/-- the letters at place k from both ends undo each other -/
def endsUndo (s : List Nat) (k : Nat) : Bool := decide (2 * k + 1 < s.length) && (match s[k]?, s[s.length - 1 - k]? with | some x, some y => decide (x = bk y) | _, _ => false)
def coreK (s : List Nat) : Nat → Nat → Nat
  | 0, k => k
  | n + 1, k => if endsUndo s k then coreK s n (k + 1) else k
def coreN (s : List Nat) : Nat := coreK s s.length 0
/-- without k letters at both ends -/
def midK (s : List Nat) (k : Nat) : List Nat := (s.take (s.length - k)).drop k
theorem midK_len (s : List Nat) (k : Nat) : (midK s k).length = s.length - 2 * k := by unfold midK; simp; omega
theorem midK_at {s : List Nat} {k i : Nat} (h : i + 2 * k < s.length) : (midK s k)[i]? = s[k + i]? := by
  unfold midK
  rw [List.getElem?_drop, List.getElem?_take, if_pos (by omega)]
theorem midK_succ (s : List Nat) (k : Nat) : ((midK s k).take ((midK s k).length - 1)).drop 1 = midK s (k + 1) := by
  rw [midK_len]
  unfold midK
  refine List.ext_getElem? fun n => ?_
  simp only [List.getElem?_drop, List.getElem?_take]
  by_cases h : 1 + n < s.length - 2 * k - 1
  · rw [if_pos h, if_pos (by omega), if_pos (by omega)]
    congr 1
    omega
  · rw [if_neg h, if_neg (by omega)]
theorem midK_w {s : List Nat} (h : W s) (k : Nat) : W (midK s k) := (h.take _).drop _
theorem endsUndo_lt {s : List Nat} {k : Nat} (h : endsUndo s k = true) : 2 * k + 1 < s.length := by
  unfold endsUndo at h
  rw [Bool.and_eq_true] at h
  exact of_decide_eq_true h.1
end GB

/-! signs counted, slots that may be stored to, walks that hand back, roots -/
namespace GB
open PySem PySem.Spec PyProof.Rows L2
/-- a slot that may be stored to: empty, a tree or an own list -/
def so (x : Option S) : Prop := x = none ∨ (∃ d, x = some (.fz d)) ∨ ∃ l, x = some (.ol l)
theorem so_n : so none := .inl rfl
theorem so_f {d : D} : so (some (.fz d)) := .inr (.inl ⟨_, rfl⟩)
theorem so_o {l : List D} : so (some (.ol l)) := .inr (.inr ⟨_, rfl⟩)
theorem cnt_count (c : Nat) (l : List Nat) : cnt c l = (l.count c : Nat) := by
  induction l with
  | nil => rfl
  | cons n l ih =>
    rw [cnt_cons, ih, List.count_cons]
    by_cases h : n = c <;> simp [h]
    omega
theorem count1 (w : List Nat) (c : Nat) : fCount (.fz (.str w)) (.fz (.str [c])) = some (.fz (.int (w.count c : Nat))) := by
  have e := count_cnt ⟨w.toArray⟩ c
  rw [show (⟨w.toArray⟩ : Str).cps.toList = w from by simp, cnt_count] at e
  have e2' : Txt.count ⟨w.toArray⟩ ⟨#[c]⟩ = (cntIx [c] w : Nat) := by
    unfold Txt.count cntIx
    rw [str_len]
  show some (S.fz (.int (cntIx [c] w : Nat))) = _
  rw [← e2', e]
theorem forL_ret {fg : D → Rho → Option Rho} {f : Rho → Fl} (P : Nat → Rho → Prop) {v : S} {r9 : Rho → Prop} : ∀ {ds : List D} {r : Rho} (k n : Nat), P k r → n < ds.length → (∀ i d r, i < n → ds[i]? = some d → P (k + i) r → ∃ r1, fg d r = some r1 ∧ ∃ r2, (f r1 = .nx r2 ∨ f r1 = .ct r2) ∧ P (k + i + 1) r2) →
    (∀ d r, ds[n]? = some d → P (k + n) r → ∃ r1, fg d r = some r1 ∧ ∃ r2, f r1 = .rt v r2 ∧ r9 r2) → ∃ r2, forL fg f ds r = .rt v r2 ∧ r9 r2
  | [], r, k, n, _, hn, _, _ => absurd hn (Nat.not_lt_zero _)
  | d :: ds, r, k, 0, h0, hn, _, hl => by
    obtain ⟨r1, g1, r2, g2, g3⟩ := hl d r rfl h0
    exact ⟨r2, by rw [forL, g1]; dsimp only; rw [g2], g3⟩
  | d :: ds, r, k, n + 1, h0, hn, hs, hl => by
    obtain ⟨r1, g1, r2, g2, g3⟩ := hs 0 d r (Nat.succ_pos _) rfl h0
    obtain ⟨r', e, q⟩ := forL_ret P (ds := ds) (r := r2) (v := v) (r9 := r9) (k + 1) n g3 (by simpa using hn) (fun i d' r' hi hd hp => by
      have := hs (i + 1) d' r' (by omega) (by simpa using hd) (by rw [Nat.add_right_comm] at hp; exact hp)
      rw [Nat.add_right_comm k 1 i]
      exact this) (fun d' r' hd hp => hl d' r' (by simpa using hd) (by rw [Nat.add_right_comm] at hp; exact hp))
    refine ⟨r', ?_, q⟩
    rw [forL, g1]
    dsimp only
    rcases g2 with g2 | g2 <;> rw [g2] <;> exact e
/-- a comprehension over a slot that holds a tree -/
theorem lc_lfz {fs : Rho → Rs (List Opd)} {mk : List S → Option (List D)} {fg : D → Rho → Option Rho} {ft : Rho → Rs Bool} {fe : Rho → Rs Opd} {vs : List Nat} {r r1 r3 : Rho} {i : Nat} {d : D} {ds acc : List D} (h : fs r = .ok [.loc i] r1) (hi : r1[i]? = some (some (.fz d))) (hk : mk [.fz d] = some ds) (hs : softs r1 vs = true) (hc : cmpL fg ft fe vs ds (wipeR r1 vs) [] = .ok acc r3) :
    eLc fs mk fg ft fe vs r = .ok (.val (.ol acc)) (restR r1 r3 vs) := by
  unfold eLc
  rw [h]
  have e : lockAll [.loc i] r1 = some ([.fz d], r1, []) := by simp [hi]
  show (match lockAll [.loc i] r1 with
    | some (ss, r2, u) => (match mk ss with
      | some ds => if softs r2 vs then (match cmpL fg ft fe vs ds (wipeR r2 vs) [] with | .ok acc r3 => Rs.ok (Opd.val (S.ol acc)) (unlR u (restR r2 r3 vs)) | _ => .st) else .st
      | none => .st)
    | none => .st) = _
  rw [e]
  show (match mk [.fz d] with
    | some ds => if softs r1 vs then (match cmpL fg ft fe vs ds (wipeR r1 vs) [] with | .ok acc r3 => Rs.ok (Opd.val (S.ol acc)) (unlR [] (restR r1 r3 vs)) | _ => .st) else .st
    | none => .st) = _
  rw [hk]
  dsimp only
  rw [if_pos hs, hc]
  rfl
/-! roots -/
theorem rep_succ (w : List Nat) (k : Nat) : rep w (k + 1) = w ++ rep w k := by unfold rep; rw [List.replicate_succ, List.flatten_cons]
theorem rep_0 (w : List Nat) : rep w 0 = [] := rfl
theorem rep_1 (w : List Nat) : rep w 1 = w := by rw [rep_succ, rep_0, List.append_nil]
/-- w is so many times its first s letters -/
def per (w : List Nat) (s : Nat) : Bool := decide (rep (w.take s) (w.length / s) = w)
theorem per_mul {w : List Nat} {s : Nat} (h : per w s = true) (h1 : 1 ≤ s) (h2 : s ≤ w.length) : w.length / s * s = w.length := by
  have := congrArg List.length (of_decide_eq_true h)
  rw [rep_len2, List.length_take, Nat.min_eq_left h2] at this
  exact this
theorem per_len {w : List Nat} (h : w ≠ []) : per w w.length = true := by
  have : 0 < w.length := List.length_pos_iff.mpr h
  refine decide_eq_true ?_
  rw [List.take_length, Nat.div_self this, rep_1]
def sizesL (w : List Nat) : List Nat := ((List.range w.length).map (· + 1)).filter (per w)
theorem sizesL_mem {w : List Nat} {s : Nat} : s ∈ sizesL w ↔ (1 ≤ s ∧ s ≤ w.length) ∧ per w s = true := by
  unfold sizesL
  rw [List.mem_filter, List.mem_map]
  constructor
  · rintro ⟨⟨k, hk, rfl⟩, h⟩
    exact ⟨by have := List.mem_range.mp hk; omega, h⟩
  · rintro ⟨h1, h⟩
    exact ⟨⟨s - 1, List.mem_range.mpr (by omega), by omega⟩, h⟩
theorem sizesL_cons {w : List Nat} (h : w ≠ []) : ∃ s l, sizesL w = s :: l ∧ (1 ≤ s ∧ s ≤ w.length) ∧ per w s = true ∧ ∀ t, 1 ≤ t → t ≤ w.length → per w t = true → s ≤ t := by
  have hl : w.length ∈ sizesL w := sizesL_mem.mpr ⟨⟨List.length_pos_iff.mpr h, Nat.le_refl _⟩, per_len h⟩
  have hp : (sizesL w).Pairwise (· < ·) := by
    unfold sizesL
    refine List.Pairwise.filter _ (List.pairwise_map.mpr ?_)
    exact List.pairwise_lt_range.imp fun h => by omega
  cases e : sizesL w with
  | nil => rw [e] at hl; cases hl
  | cons s l =>
    rw [e] at hp
    have hs := sizesL_mem.mp (show s ∈ sizesL w from by rw [e]; exact List.mem_cons_self ..)
    refine ⟨s, l, rfl, hs.1, hs.2, fun t h1 h2 h3 => ?_⟩
    have := sizesL_mem.mpr ⟨⟨h1, h2⟩, h3⟩
    rw [e] at this
    rcases List.mem_cons.mp this with rfl | this
    · exact Nat.le_refl _
    · exact Nat.le_of_lt ((List.pairwise_cons.mp hp).1 t this)
def rootS (w : List Nat) : Nat := (sizesL w).headD 0
/-- many times, as the law looks for it -/
def manyIs (w : List Nat) (m : Nat) : Bool := decide (w.length / m * m = w.length) && decide (w = rep (w.take (w.length / m)) m)
theorem root_many {w : List Nat} (h : w ≠ []) : 1 ≤ rootS w ∧ rootS w ≤ w.length ∧ manyIs w (w.length / rootS w) = true ∧ w.length / (w.length / rootS w) = rootS w ∧ 1 ≤ w.length / rootS w ∧ ∀ m, 1 ≤ m → m ≤ w.length → manyIs w m = true → m ≤ w.length / rootS w := by
  obtain ⟨s, l, e, h1, h2, h3⟩ := sizesL_cons h
  have er : rootS w = s := by unfold rootS; rw [e]; rfl
  rw [er]
  have hm := per_mul h2 h1.1 h1.2
  have pos : 1 ≤ w.length / s := (Nat.one_le_div_iff (by omega)).mpr h1.2
  have back : w.length / (w.length / s) = s := by
    refine Nat.div_eq_of_eq_mul_left pos ?_
    rw [Nat.mul_comm]; exact hm.symm
  refine ⟨h1.1, h1.2, ?_, back, pos, fun m m1 m2 m3 => ?_⟩
  · unfold manyIs
    rw [back, Nat.mul_comm, hm, decide_eq_true rfl, decide_eq_true (of_decide_eq_true h2).symm]; rfl
  · unfold manyIs at m3
    rw [Bool.and_eq_true] at m3
    have q1 := of_decide_eq_true m3.1
    have q2 := of_decide_eq_true m3.2
    have s1 : 1 ≤ w.length / m := (Nat.one_le_div_iff (by omega)).mpr m2
    have s2 : w.length / (w.length / m) = m := Nat.div_eq_of_eq_mul_left s1 (by rw [Nat.mul_comm]; exact q1.symm)
    have le := h3 (w.length / m) s1 (Nat.div_le_self _ _) (decide_eq_true (by rw [s2]; exact q2.symm))
    rw [← s2]
    exact Nat.div_le_div_left le (by omega)
theorem lockAll_fz (r : Rho) : ∀ l : List D, lockAll (l.map fun d => Opd.val (.fz d)) r = some (l.map S.fz, r, [])
  | [] => rfl
  | d :: l => by
    rw [List.map_cons, List.map_cons, lockAll]
    show (match lockAll (l.map fun d => Opd.val (.fz d)) r with | some (ss, r2, u2) => some (S.fz d :: ss, r2, [] ++ u2) | none => none) = _
    rw [lockAll_fz r l]
    rfl
section
variable {fs : Rho → Rs (List Opd)} {mk : List S → Option (List D)} {fg : D → Rho → Option Rho} {f : Rho → Fl} {ft : Rho → Rs Bool} {fe : Rho → Rs Opd} {vs : List Nat} {r r1 r3 : Rho}
/-- over what values give -/
theorem for_vals (l : List D) {ds : List D} (h : fs r = .ok (l.map fun d => Opd.val (.fz d)) r1) (hk : mk (l.map S.fz) = some ds) : fFor fs mk fg f r = forL fg f ds r1 := by
  unfold fFor
  rw [h]
  have e := lockAll_fz r1 l
  generalize l.map (fun d => Opd.val (.fz d)) = os at *
  generalize l.map S.fz = ss at *
  show (match lockAll os r1 with | some (ss, r2, u) => (match mk ss with | some ds => mapFl (unlR u) (forL fg f ds r2) | none => .st) | none => .st) = _
  rw [e]
  show (match mk ss with | some ds => mapFl (unlR []) (forL fg f ds r1) | none => .st) = _
  rw [hk]
  exact mapFl_id _
theorem lc_vals (l : List D) {ds acc : List D} (h : fs r = .ok (l.map fun d => Opd.val (.fz d)) r1) (hk : mk (l.map S.fz) = some ds) (hs : softs r1 vs = true) (hc : cmpL fg ft fe vs ds (wipeR r1 vs) [] = .ok acc r3) :
    eLc fs mk fg ft fe vs r = .ok (.val (.ol acc)) (restR r1 r3 vs) := by
  unfold eLc
  rw [h]
  have e := lockAll_fz r1 l
  generalize l.map (fun d => Opd.val (.fz d)) = os at *
  generalize l.map S.fz = ss at *
  show (match lockAll os r1 with
    | some (ss, r2, u) => (match mk ss with
      | some ds => if softs r2 vs then (match cmpL fg ft fe vs ds (wipeR r2 vs) [] with | .ok acc r3 => Rs.ok (Opd.val (S.ol acc)) (unlR u (restR r2 r3 vs)) | _ => .st) else .st
      | none => .st)
    | none => .st) = _
  rw [e]
  show (match mk ss with
    | some ds => if softs r1 vs then (match cmpL fg ft fe vs ds (wipeR r1 vs) [] with | .ok acc r3 => Rs.ok (Opd.val (S.ol acc)) (unlR [] (restR r1 r3 vs)) | _ => .st) else .st
    | none => .st) = _
  rw [hk]
  dsimp only
  rw [if_pos hs, hc]
  rfl
end
theorem mulI_s {a b : Int} (h1 : -1000000000 ≤ a) (h2 : a ≤ 1000000000) : qMul [.fz (.int a), .fz (.int b)] = some (.fz (.int (a * b))) := by
  rw [s_qMulI]
  exact if_pos (.inl ⟨by omega, by omega⟩)
theorem div_n {a b : Nat} (h1 : 1 ≤ b) (h2 : b ≤ 1000000000) : fDivI (a : Int) (b : Int) = some (.fz (.int ((a / b : Nat) : Nat))) := by
  unfold fDivI
  rw [if_pos ⟨by omega, by omega⟩, Int.natCast_ediv]
theorem upFrom_map {lo : Nat} {n : Nat} : upFrom (lo : Int) n = (List.range n).map fun k => D.int ((lo + k : Nat) : Int) := by
  unfold upFrom
  exact List.map_congr_left fun k _ => by rw [Int.natCast_add]
theorem downFrom_len {lo : Int} {n : Nat} : (downFrom lo n).length = n := by simp [downFrom]
theorem downFrom_get {lo : Int} {n i : Nat} {d : D} (h : (downFrom lo n)[i]? = some d) : i < n ∧ d = .int (lo - (i : Nat)) := by
  unfold downFrom at h
  rw [List.getElem?_map] at h
  by_cases hi : i < n
  · rw [List.getElem?_range hi] at h; cases h; exact ⟨hi, rfl⟩
  · rw [List.getElem?_eq_none (by simpa using hi)] at h; cases h
end GB

/-! what repr shows: flat rows -/
namespace GB
open PySem PySem.Spec PyProof.Rows L2
/-- a small leaf -/
def lf (d : D) : Prop := (∃ i, d = .int i ∧ i.natAbs < 2 ^ 64) ∨ (∃ w : List Nat, d = .str w ∧ w.length ≤ 200 ∧ ∀ c ∈ w, c < 16 ^ 8) ∨ d = .non ∨ ∃ b, d = .bl b
theorem lf_i {i : Int} (h1 : -1000000000 ≤ i) (h2 : i ≤ 1000000000) : lf (.int i) := .inl ⟨i, rfl, by omega⟩
theorem lf_s {w : List Nat} (h : w.length ≤ 200) (h2 : W w) : lf (.str w) := .inr (.inl ⟨w, rfl, h, h2.lt⟩)
theorem lf_b {b : Bool} : lf (.bl b) := .inr (.inr (.inr ⟨b, rfl⟩))
theorem lf_n : lf .non := .inr (.inr (.inl rfl))
theorem lf_spec {d : D} (h : lf d) : d.leaf = true ∧ d.py.depth = 0 ∧ d.py.weight ≤ 200 := by
  rcases h with ⟨i, rfl, h⟩ | ⟨w, rfl, h1, h2⟩ | rfl | ⟨b, rfl⟩
  · refine ⟨decide_eq_true (Nat.lt_of_lt_of_le (log_of h (by omega)) (by omega)), by rw [D.py, PyData.depth], ?_⟩
    rw [D.py, PyData.weight]
    split
    · exact Nat.zero_le _
    · have := log_of h (by omega); omega
  · exact ⟨List.all_eq_true.mpr fun c hc => decide_eq_true (h2 c hc), depth_str _, by rw [weight_str]; exact h1⟩
  · exact ⟨rfl, by rw [D.py, PyData.depth], by rw [D.py, PyData.weight]; omega⟩
  · exact ⟨rfl, by rw [D.py, PyData.depth], by rw [D.py, PyData.weight]; omega⟩
theorem reprOk_lf {d : D} (h : lf d) : reprOk d = true := by
  obtain ⟨h1, h2, h3⟩ := lf_spec h
  exact reprOk_of h1 (by omega) (by omega)
theorem reprOk_tup {ds : List D} (h : ∀ d ∈ ds, lf d) (hl : ds.length ≤ 39) : reprOk (.tup ds) = true := by
  refine reprOk_of ?_ ?_ ?_
  · show leafAll _ = true
    rw [leafAll_iff]
    exact fun d hd => (lf_spec (h d hd)).1
  · rw [D.py, PyData.depth]
    have := depthAll_le (B := 0) ds fun d hd => Nat.le_of_eq (lf_spec (h d hd)).2.1
    omega
  · rw [D.py, PyData.weight]
    have := weightAll_le (B := 200) ds fun d hd => (lf_spec (h d hd)).2.2
    have : ds.length * 201 ≤ 39 * 201 := Nat.mul_le_mul hl (Nat.le_refl _)
    omega
theorem reprOk_lst {ds : List D} (h : ∀ d ∈ ds, lf d) (hl : ds.length ≤ 39) : reprOk (.lst ds) = true := by
  refine reprOk_of ?_ ?_ ?_
  · show leafAll _ = true
    rw [leafAll_iff]
    exact fun d hd => (lf_spec (h d hd)).1
  · rw [D.py, PyData.depth]
    have := depthAll_le (B := 0) ds fun d hd => Nat.le_of_eq (lf_spec (h d hd)).2.1
    omega
  · rw [D.py, PyData.weight]
    have := weightAll_le (B := 200) ds fun d hd => (lf_spec (h d hd)).2.2
    have : ds.length * 201 ≤ 39 * 201 := Nat.mul_le_mul hl (Nat.le_refl _)
    omega
end GB

/-! rows of texts and numbers compared; isinstance, all, any as simp rules; signs -/
namespace GB
open PySem PySem.Spec PyProof.Rows L2
/-- a leaf that may be compared -/
def eqL (d : D) : Prop := (∃ i, d = .int i) ∨ (∃ w : List Nat, d = .str w ∧ ∀ c ∈ w, c < 1114112) ∨ d = .non ∨ ∃ b, d = .bl b
theorem eqL_i {i : Int} : eqL (.int i) := .inl ⟨i, rfl⟩
theorem eqL_w {w : List Nat} (h : W w) : eqL (.str w) := .inr (.inl ⟨w, rfl, fun c hc => by have := isL_iff.mp (h c hc); omega⟩)
theorem eqL_s {w : List Nat} (h : ∀ c ∈ w, c < 1114112) : eqL (.str w) := .inr (.inl ⟨w, rfl, h⟩)
theorem eqL_spec {d : D} (h : eqL d) : d.py.canLay0 = true ∧ d.py.depth = 0 ∧ d.py.hasDict = false := by
  rcases h with ⟨i, rfl⟩ | ⟨w, rfl, h⟩ | rfl | ⟨b, rfl⟩
  · exact ⟨by rw [D.py, PyData.canLay0], by rw [D.py, PyData.depth], by rw [D.py, PyData.hasDict]⟩
  · refine ⟨?_, depth_str _, by rw [D.py, PyData.hasDict]⟩
    rw [D.py, PyData.canLay0]
    show (⟨w.toArray⟩ : Str).cps.all (· < 0x110000) = true
    simpa using h
  · exact ⟨by rw [D.py, PyData.canLay0], by rw [D.py, PyData.depth], by rw [D.py, PyData.hasDict]⟩
  · exact ⟨by rw [D.py, PyData.canLay0], by rw [D.py, PyData.depth], by rw [D.py, PyData.hasDict]⟩
theorem eqL_all : ∀ {ds : List D}, (∀ d ∈ ds, eqL d) → PyData.canLayAll0 (pyAll ds) = true ∧ PyData.depthAll (pyAll ds) = 0 ∧ PyData.hasDictAll (pyAll ds) = false
  | [], _ => ⟨rfl, rfl, rfl⟩
  | d :: ds, h => by
    obtain ⟨h1, h2, h3⟩ := eqL_spec (h d (List.mem_cons_self ..))
    obtain ⟨g1, g2, g3⟩ := eqL_all fun d hd => h d (List.mem_cons_of_mem _ hd)
    exact ⟨by rw [pyAll, PyData.canLayAll0, h1, g1]; rfl, by rw [pyAll, PyData.depthAll, h2, g2]; rfl, by rw [pyAll, PyData.hasDictAll, h3, g3]; rfl⟩
theorem fit_lst {ds : List D} (h : ∀ d ∈ ds, eqL d) : (D.lst ds).fit = true := by
  obtain ⟨h1, h2, h3⟩ := eqL_all h
  have e1' : (D.lst ds).py.canLay0 = true := by rw [D.py, PyData.canLay0]; exact h1
  have e2' : (D.lst ds).py.depth ≤ 64 := by rw [D.py, PyData.depth, h2]; decide
  have e3' : (D.lst ds).py.hasDict = false := by rw [D.py, PyData.hasDict]; exact h3
  show (((D.lst ds).py.canLay0 && decide ((D.lst ds).py.depth ≤ 64)) && !(D.lst ds).py.hasDict) = true
  rw [e1', e3', decide_eq_true e2']; rfl
theorem fit_tup {ds : List D} (h : ∀ d ∈ ds, eqL d) : (D.tup ds).fit = true := by
  obtain ⟨h1, h2, h3⟩ := eqL_all h
  have e1' : (D.tup ds).py.canLay0 = true := by rw [D.py, PyData.canLay0]; exact h1
  have e2' : (D.tup ds).py.depth ≤ 64 := by rw [D.py, PyData.depth, h2]; decide
  have e3' : (D.tup ds).py.hasDict = false := by rw [D.py, PyData.hasDict]; exact h3
  show (((D.tup ds).py.canLay0 && decide ((D.tup ds).py.depth ≤ 64)) && !(D.tup ds).py.hasDict) = true
  rw [e1', e3', decide_eq_true e2']; rfl
theorem fit_nil : (D.lst []).fit = true := fit_lst fun _ h => nomatch h
theorem pyAll_map {α : Type} (f : α → D) : ∀ l : List α, pyAll (l.map f) = l.map fun a => (f a).py
  | [] => rfl
  | a :: l => by rw [List.map_cons, pyAll, pyAll_map f l]; rfl
theorem eqv_strs : ∀ as bs : List (List Nat), PyData.eqvAll (pyAll (as.map D.str)) (pyAll (bs.map D.str)) = decide (as = bs)
  | [], [] => rfl
  | [], _ :: _ => rfl
  | _ :: _, [] => rfl
  | a :: as, b :: bs => by
    rw [List.map_cons, List.map_cons, pyAll, pyAll, PyData.eqvAll, eqv_strs as bs, D.py, D.py, PyData.eqv]
    have e : ((⟨a.toArray⟩ : Str) == ⟨b.toArray⟩) = decide (a = b) := by
      rw [Bool.eq_iff_iff, beq_iff_eq, decide_eq_true_iff]
      simp
    rw [e, Bool.eq_iff_iff, Bool.and_eq_true, decide_eq_true_iff, decide_eq_true_iff, decide_eq_true_iff, List.cons.injEq]
/-- xs == [], over leaves -/
theorem eq_nil {ds : List D} (h : ∀ d ∈ ds, eqL d) : fEq (.ol ds) (.ol []) = some (.fz (.bl ds.isEmpty)) := by
  show (if (D.lst ds).fit && (D.lst []).fit then some ((D.lst ds).same (.lst [])) else none).map (fun k => S.fz (.bl k)) = _
  rw [fit_lst h, fit_nil]
  show some (S.fz (.bl (PyData.eqv (D.lst ds).py (D.lst []).py))) = _
  rw [D.py, D.py, PyData.eqv]
  cases ds <;> rfl
theorem ne_nil {ds : List D} (h : ∀ d ∈ ds, eqL d) : fNe (.ol ds) (.ol []) = some (.fz (.bl (!ds.isEmpty))) := by
  show (if (D.lst ds).fit && (D.lst []).fit then some ((D.lst ds).same (.lst [])) else none).map (fun k => S.fz (.bl (!k))) = _
  rw [fit_lst h, fit_nil]
  show some (S.fz (.bl (!PyData.eqv (D.lst ds).py (D.lst []).py))) = _
  rw [D.py, D.py, PyData.eqv]
  cases ds <;> rfl
theorem eq_nil0 : fEq (.ol []) (.ol []) = some (.fz (.bl true)) := eq_nil fun _ h => nomatch h
theorem ne_nil0 : fNe (.ol []) (.ol []) = some (.fz (.bl false)) := ne_nil fun _ h => nomatch h
theorem ne_tups {as bs : List (List Nat)} (ha : ∀ w ∈ as, W w) (hb : ∀ w ∈ bs, W w) : fNe (.fz (.tup (as.map D.str))) (.fz (.tup (bs.map D.str))) = some (.fz (.bl (!decide (as = bs)))) := by
  have f : ∀ {l : List (List Nat)}, (∀ w ∈ l, W w) → ∀ d ∈ l.map D.str, eqL d := fun h d hd => by
    obtain ⟨w, hw, rfl⟩ := List.mem_map.mp hd
    exact eqL_w (h w hw)
  show (if (D.tup (as.map D.str)).fit && (D.tup (bs.map D.str)).fit then some ((D.tup (as.map D.str)).same (.tup (bs.map D.str))) else none).map (fun k => S.fz (.bl (!k))) = _
  rw [fit_tup (f ha), fit_tup (f hb)]
  show some (S.fz (.bl (!PyData.eqv (D.tup (as.map D.str)).py (D.tup (bs.map D.str)).py))) = _
  rw [D.py, D.py, PyData.eqv, eqv_strs]
/-! isinstance -/
@[simp] theorem s_fIsA {T : BT} {d : D} : fIsA T (.fz d) = some (.fz (.bl (isA (.fz d) T))) := rfl
@[simp] theorem s_fIsA1 {T : BT} {d : List D} : fIsA T (.ol d) = some (.fz (.bl (isA (.ol d) T))) := rfl
@[simp] theorem s_fIsA2 {T : BT} {d : List D} : fIsA T (.br d) = some (.fz (.bl (isA (.br d) T))) := rfl
@[simp] theorem s_fIsA3 {T : BT} {d : List D} : fIsA T (.lk d) = some (.fz (.bl (isA (.lk d) T))) := rfl
@[simp] theorem isA_str {w : List Nat} : isA (.fz (.str w)) .str = true := rfl
@[simp] theorem isA_stuple {w : List Nat} : isA (.fz (.str w)) .tuple = false := rfl
@[simp] theorem isA_sint {w : List Nat} : isA (.fz (.str w)) .int = false := rfl
@[simp] theorem isA_tup {ds : List D} : isA (.fz (.tup ds)) .tuple = true := rfl
@[simp] theorem isA_tstr {ds : List D} : isA (.fz (.tup ds)) .str = false := rfl
@[simp] theorem isA_int {i : Int} : isA (.fz (.int i)) .int = true := rfl
@[simp] theorem isA_ibool {i : Int} : isA (.fz (.int i)) .bool = false := rfl
def isStrD : D → Bool
  | .str _ => true
  | _ => false
def isTupD : D → Bool
  | .tup _ => true
  | _ => false
theorem isA_strD (d : D) : isA (.fz d) .str = isStrD d := by cases d <;> rfl
theorem isA_tupD (d : D) : isA (.fz d) .tuple = isTupD d := by cases d <;> rfl
theorem all_bls {bs : List Bool} : fAll (.ol (bs.map D.bl)) = some (.fz (.bl (bs.all id))) := by
  have e : blsOf (bs.map D.bl) = some bs := by
    induction bs with
    | nil => rfl
    | cons b bs ih => rw [List.map_cons, blsOf, ih]; rfl
  show (blsOf (bs.map D.bl)).map (fun bs => S.fz (.bl (bs.all id))) = _
  rw [e]; rfl
theorem any_bls {bs : List Bool} : fAny (.ol (bs.map D.bl)) = some (.fz (.bl (bs.any id))) := by
  have e : blsOf (bs.map D.bl) = some bs := by
    induction bs with
    | nil => rfl
    | cons b bs ih => rw [List.map_cons, blsOf, ih]; rfl
  show (blsOf (bs.map D.bl)).map (fun bs => S.fz (.bl (bs.any id))) = _
  rw [e]; rfl
/-- the number of a letter -/
def num (c : Nat) : Nat := if 97 ≤ c then c - 97 else c - 65
theorem sgn_mem {m c : Nat} (hm : m ≤ 6) : c ∈ sgn m ↔ isL c = true ∧ num c < m := by
  have key : ∀ m, m ≤ 6 → ∀ c, c < 128 → (c ∈ sgn m ↔ isL c = true ∧ num c < m) := by decide
  by_cases h : c < 128
  · exact key m hm c h
  · constructor
    · intro z
      have := isL_iff.mp (sgn_w m c z)
      omega
    · intro z
      have := isL_iff.mp z.1
      omega
/-- a word of so many letters -/
def inW (m c : Nat) : Bool := decide (c ∈ sgn m)
theorem inW_eq {m c : Nat} (hm : m ≤ 6) : inW m c = (isL c && decide (num c < m)) := by
  unfold inW
  rw [Bool.eq_iff_iff, decide_eq_true_iff, sgn_mem hm, Bool.and_eq_true, decide_eq_true_iff]
def wordD (m : Nat) : D → Bool
  | .str w => w.all (inW m)
  | _ => false
def letterD : D → Bool
  | .str [c] => isL c
  | _ => false
theorem letterD_eq (d : D) : letterD d = (wordD 6 d && match d with | .str w => decide (w.length = 1) | _ => false) := by
  cases d with
  | str w =>
    match w with
    | [] => rfl
    | [c] =>
      show isL c = (([c].all (inW 6)) && decide ([c].length = 1))
      rw [Bool.eq_iff_iff]
      simp only [List.all_cons, List.all_nil, Bool.and_true, List.length_singleton, decide_true]
      rw [inW_eq (by omega), Bool.and_eq_true, decide_eq_true_iff]
      constructor
      · intro h
        refine ⟨h, ?_⟩
        have := isL_iff.mp h
        unfold num
        split <;> omega
      · exact fun h => h.1
    | a :: b :: w =>
      show false = _
      simp
  | _ => rfl
/-- no letter just ahead of its back -/
def tidy : List Nat → Bool
  | x :: y :: w => decide (x ≠ bk y) && tidy (y :: w)
  | _ => true
theorem tidy_zip : ∀ w : List Nat, tidy w = ((w.zip (w.drop 1)).map fun z => decide (z.1 ≠ bk z.2)).all id
  | [] => rfl
  | [x] => rfl
  | x :: y :: w => by
    have ih := tidy_zip (y :: w)
    show (decide (x ≠ bk y) && tidy (y :: w)) = _
    rw [ih]
    rfl
theorem tidy_ok {w : List Nat} (h : W w) : tidy w = true ↔ Ok w := by
  induction w with
  | nil => exact ⟨fun _ => ok_nil, fun _ => rfl⟩
  | cons x w ih =>
    cases w with
    | nil => exact ⟨fun _ => trivial, fun _ => rfl⟩
    | cons y w =>
      have ih := ih h.tail
      show (decide (x ≠ bk y) && tidy (y :: w)) = true ↔ y ≠ bk x ∧ Ok (y :: w)
      rw [Bool.and_eq_true, decide_eq_true_iff, ih]
      have hx := h.head
      have hy := h.tail.head
      constructor
      · exact fun z => ⟨fun e => z.1 (by rw [e, bk_bk hx]), z.2⟩
      · exact fun z => ⟨fun e => z.1 (by rw [e, bk_bk hy]), z.2⟩
theorem ok_app : ∀ (s t : List Nat), Ok (s ++ t) → Ok s
  | [], _, _ => ok_nil
  | [x], _, _ => trivial
  | x :: y :: s, t, h => ⟨h.1, ok_app (y :: s) t h.2⟩
theorem ok_snoc : ∀ (s : List Nat) (x y : Nat), Ok (s ++ [x]) → (y ≠ bk x) → Ok (s ++ [x, y])
  | [], x, y, _, h => ⟨h, trivial⟩
  | [a], x, y, g, h => ⟨g.1, h, trivial⟩
  | a :: b :: s, x, y, g, h => ⟨g.1, ok_snoc (b :: s) x y g.2 h⟩
theorem ok_rev {w : List Nat} (h : W w) : Ok w → Ok w.reverse := by
  induction w with
  | nil => exact fun h => h
  | cons x w ih =>
    intro o
    cases w with
    | nil => exact trivial
    | cons y w =>
      have i := ih h.tail o.tail
      rw [List.reverse_cons] at i ⊢
      rw [List.reverse_cons, List.append_assoc]
      refine ok_snoc _ _ _ i fun e => o.1 ?_
      rw [e, bk_bk h.tail.head]
/-- reduced just where nothing falls out -/
theorem red_self {w : List Nat} (h : W w) : red w = w ↔ tidy w = true := by
  rw [tidy_ok h]
  constructor
  · intro e
    have o : Ok (run [] w) := run_ok ok_nil
    have q : W (run [] w) := run_w .nil h
    have := ok_rev q o
    show Ok w
    rw [← e]
    exact this
  · intro o
    have := run_rev (s := w.reverse) (t := []) (by rw [List.append_nil]; exact ok_rev h o)
    unfold red
    rw [List.reverse_reverse, List.append_nil] at this
    rw [this, List.reverse_reverse]
theorem red_red {w : List Nat} (h : W w) : red (red w) = red w := by
  have := red_l (u := w) (v := []) h .nil
  rw [List.append_nil, List.append_nil] at this
  exact this
end GB

/-! list of a text, of a dict; is True -/
namespace GB
open PySem PySem.Spec PyProof.Rows L2
section
variable {X : Cx} {C : Ct} {K : PySem.W.Frag} {U W : Addr → Prop} {H : Hp} {v : V} {a b e : Expr} {fa fb fe : Rho → Rs Opd} {pos p : Pos}
def rListS : List V → Hp → VK → Prop := fun xs H Q => ∃ w : List Nat, xs = [.str ⟨w.toArray⟩] ∧ w.length ≤ sizeLine ∧ ∀ p, H p = none → Q (.ref p) (upd H p (.lst (w.map fun c => V.str ⟨#[c]⟩)))
theorem vals_signs {w : List Nat} {acc : Array Value} (h : ItemsOf (SignAt ⟨w.toArray⟩) acc w.length) : Vals (w.map fun c => V.str ⟨#[c]⟩) acc.toList := by
  obtain ⟨hs, hi⟩ := h
  have key : ∀ (w : List Nat) (us : List Value), us.length = w.length → (∀ (i : Nat) (v : Value), us[i]? = some v → ∃ (c : Nat) (u : Tok), w[i]? = some c ∧ v = Value.str ⟨#[c]⟩ u) → Vals (w.map fun c => V.str ⟨#[c]⟩) us := by
    intro w
    induction w with
    | nil => intro us hl _; cases us with | nil => exact .nil | cons _ _ => simp at hl
    | cons c w ih =>
      intro us hl hi
      cases us with
      | nil => simp at hl
      | cons u us =>
        obtain ⟨c', t, e1', e2'⟩ := hi 0 u rfl
        cases e1'
        exact .cons ⟨t, e2'⟩ (ih us (by simpa using hl) fun i v hv => by
          obtain ⟨c', t, e1', e2'⟩ := hi (i + 1) v (by simpa using hv)
          exact ⟨c', t, by simpa using e1', e2'⟩)
  refine key w acc.toList (by simpa using hs) fun i v hv => ?_
  have hv' : acc[i]? = some v := by rw [← Array.getElem?_toList]; exact hv
  obtain ⟨c, u, e1', e2'⟩ := hi i v hv'
  exact ⟨c, u, by simpa using e1', e2'⟩
theorem call_listS (hc : X.calm = true) : CallR X (.type "list") rListS := by
  intro pins s σ H xs us Q I r h
  obtain ⟨w, rfl, hl, q⟩ := h
  obtain ⟨u, rfl, t, rfl⟩ := vals1 r
  refine call_list_str (I.ok.hd hc) ⟨w.toArray⟩ t (fun h' tk acc n hk hS hacc => ?_) (by simpa using hl)
  have hv := vals_signs (w := w) (by simpa using hacc)
  refine ⟨.ref s.heap.objs.size, upd H s.heap.objs.size (.lst (w.map fun c => V.str ⟨#[c]⟩)), ?_, rfl, q _ (I.hok.fresh (Nat.le_refl _))⟩
  exact I.laid (t' := tk) hk (Nat.le_refl _) ⟨by rw [List.length_map]; exact hl, acc.toList, n, hv, by rw [hS]⟩
def keyT : Key → D
  | .inl i => .int i
  | .inr s => .str s.cps.toList
theorem rp_key (k : Key) : Rp K W H (kV k) (keyT k) := by
  cases k with
  | inl i => exact .int i
  | inr s =>
    have e : s = ⟨s.cps.toList.toArray⟩ := toStr s
    rw [e]
    have := Rp.str (K := K) (W := W) (H := H) s.cps.toList
    simpa [kV, keyT] using this
theorem rps_keys : ∀ ks : List Key, Rps K W H (ks.map kV) (ks.map keyT)
  | [] => .nil
  | k :: ks => .cons (rp_key k) (rps_keys ks)
def asKs : S → Option (List Key)
  | .fz (.dic ks _) => some ks
  | .od k => some (k.map Prod.fst) | .bd k => some (k.map Prod.fst) | .kd k => some (k.map Prod.fst)
  | _ => none
theorem asKs_of {s : S} (x : SR K U W H v s) {ks : List Key} (h : asKs s = some ks) : ∃ p kvs, v = .ref p ∧ H p = some (.dK kvs) ∧ kvs.map Prod.fst = ks := by
  cases x with
  | fz x => cases x with
    | dic e n q t => cases h; exact ⟨_, _, rfl, e, q⟩
    | _ => cases h
  | od e x => cases h; exact ⟨_, _, rfl, e, (kr_rps x).1⟩
  | bd e x => cases h; exact ⟨_, _, rfl, e, (kr_rps x).1⟩
  | kd e u x => cases h; exact ⟨_, _, rfl, e, (kr_rps x).1⟩
  | _ => cases h
def fListU : S → Option S := fun s => match s with
  | .fz (.str w) => if big w.length then some (.ol (w.map fun c => .str [c])) else none
  | s => match asKs s with
    | some ks => some (.ol (ks.map keyT))
    | none => fList s
def rListU (K : PySem.W.Frag) : List V → Hp → VK → Prop := fun xs H Q => rListS xs H Q ∨ (∃ (a : Addr) (kvs : List (Key × V)), xs = [.ref a] ∧ Rd H a (.dK kvs) ∧ ∀ p, H p = none → Q (.ref p) (upd H p (.lst (kvs.map fun kv => kV kv.1)))) ∨
  ∃ p ys, xs = [.ref p] ∧ (SqL K H p ys ∨ SqT K H p ys) ∧ ∀ l, H l = none → Q (.ref l) (upd H l (.lst ys))
theorem call_listU (hc : X.calm = true) : CallR X (.type "list") (rListU X.K) := cr_or (call_listS hc) (cr_or (call_listD hc) call_list_of)
theorem rps_signs : ∀ w : List Nat, Rps K W H (w.map fun c => V.str ⟨#[c]⟩) (w.map fun c => D.str [c])
  | [] => .nil
  | c :: w => .cons (.str [c]) (rps_signs w)
theorem pn_listU : PN C (rListU C.K) (p1 fListU) := by
  intro U W H vs ss s Q lv hs hp q
  match ss, hs with
  | [], .nil => cases hp
  | _ :: _ :: _, .cons _ (.cons _ _) => cases hp
  | [t], .cons (a := x) xa .nil =>
    have hp : fListU t = some s := hp
    have old : fList t = some s → rListU C.K [x] H Q := fun h => .inr (.inr (pn_list U W H [x] [t] s Q lv (.cons xa .nil) h q))
    have keys : ∀ ks, asKs t = some ks → s = .ol (ks.map keyT) → rListU C.K [x] H Q := fun ks h1 h2 => by
      subst h2
      obtain ⟨a, kvs, rfl, e, e2'⟩ := asKs_of xa h1
      refine .inr (.inl ⟨a, kvs, rfl, .inl e, fun l hl => ?_⟩)
      have e3' : (kvs.map fun kv => kV kv.1) = ks.map kV := by rw [← e2', List.map_map]; rfl
      rw [e3']
      exact q _ _ (Got.newL (C := C) lv hl (rps_keys ks))
    by_cases z : ∃ w, t = .fz (.str w)
    · obtain ⟨w, rfl⟩ := z
      have hp : (if big w.length then some (S.ol (w.map fun c => D.str [c])) else none) = some s := hp
      by_cases hb : big w.length = true
      · rw [if_pos hb] at hp; cases hp
        rw [sr_str xa]
        exact .inl ⟨w, rfl, big_le hb, fun l hl => q _ _ (Got.newL (C := C) lv hl (rps_signs w))⟩
      · rw [if_neg hb] at hp; cases hp
    · have hp : (match asKs t with | some ks => some (S.ol (ks.map keyT)) | none => fList t) = some s := by
        cases t with
        | fz d => cases d with
          | str w => exact absurd ⟨_, rfl⟩ z
          | _ => exact hp
        | _ => exact hp
      cases e : asKs t with
      | none => rw [e] at hp; exact old hp
      | some ks => rw [e] at hp; cases hp; exact keys ks e rfl
theorem x_listU (hc : X.calm = true) (hm : X.mg "list" = none) (ha : GE X C a fa) (hK : C.K = X.K := by rfl) (hg : Gl X "list" := by rfl) (hs : starEach [a] X.env = (false, eval a X.env) :: starEach [] X.env := by rfl) : GE X C (.Call (.Name "list" p) [a] [] pos) (e1 (p1 fListU) fa) :=
  ge_call pn_listU (by rw [hK]; exact pe_callTy (call_listU hc) hg hm PyProof.Rows.boot_list (ga_cons ha ga_nil hs) (he := hs))
/-! tuple of a text -/
def rTupS : List V → Hp → VK → Prop := fun xs H Q => ∃ w : List Nat, xs = [.str ⟨w.toArray⟩] ∧ w.length ≤ sizeLine ∧ ∀ p, H p = none → Q (.ref p) (upd H p (.tup (w.map fun c => V.str ⟨#[c]⟩)))
theorem call_tupS (hc : X.calm = true) : CallR X (.type "tuple") rTupS := by
  intro pins s σ H xs us Q I r h
  obtain ⟨w, rfl, hl, q⟩ := h
  obtain ⟨u, rfl, t, rfl⟩ := vals1 r
  refine call_tuple_str (I.ok.hd hc) ⟨w.toArray⟩ t (fun h' tk acc hk hacc => ?_) (by simpa using hl)
  have hv := vals_signs (w := w) (by simpa using hacc)
  have I1 : L2.Inv X pins σ H { s with heap := h', toks := tk } := I.kept hk
  refine ⟨.ref h'.objs.size, upd H h'.objs.size (.tup (w.map fun c => V.str ⟨#[c]⟩)), ?_, rfl, q _ (I1.hok.fresh (Nat.le_refl _))⟩
  exact I1.laid (t' := tk) (fun b u e => Heap.get?_push_of_some _ e) (Nat.le_refl _) ⟨by rw [List.length_map]; exact hl, acc.toList, hv, ⟨_, Heap.get?_push_size _ rfl, rfl, _, by simp; rfl⟩⟩
def fTupU : S → Option S := fun s => match s with
  | .fz (.str w) => if big w.length then some (.fz (.tup (w.map fun c => .str [c]))) else none
  | s => fTuple s
def rTupU (K : PySem.W.Frag) : List V → Hp → VK → Prop := fun xs H Q => rTupS xs H Q ∨ ∃ p ys, xs = [.ref p] ∧ ((SqL K H p ys ∧ ∀ l, H l = none → Q (.ref l) (upd H l (.tup ys))) ∨ (SqT K H p ys ∧ Q (.ref p) H))
theorem pn_tupU : PN C (rTupU C.K) (p1 fTupU) := by
  intro U W H vs ss s Q lv hs hp q
  match ss, hs with
  | [], .nil => cases hp
  | _ :: _ :: _, .cons _ (.cons _ _) => cases hp
  | [t], .cons (a := x) xa .nil =>
    have hp : fTupU t = some s := hp
    by_cases z : ∃ w, t = .fz (.str w)
    · obtain ⟨w, rfl⟩ := z
      have hp : (if big w.length then some (S.fz (.tup (w.map fun c => D.str [c]))) else none) = some s := hp
      by_cases hb : big w.length = true
      · rw [if_pos hb] at hp; cases hp
        rw [sr_str xa]
        exact .inl ⟨w, rfl, big_le hb, fun l hl => q _ _ (Got.newT (C := C) lv hl (rps_signs w))⟩
      · rw [if_neg hb] at hp; cases hp
    · have hp : fTuple t = some s := by
        cases t with
        | fz d => cases d with
          | str w => exact absurd ⟨_, rfl⟩ z
          | _ => exact hp
        | _ => exact hp
      exact .inr (pn_tuple U W H [x] [t] s Q lv (.cons xa .nil) hp q)
theorem x_tupU (hc : X.calm = true) (hm : X.mg "tuple" = none) (ha : GE X C a fa) (hK : C.K = X.K := by rfl) (hg : Gl X "tuple" := by rfl) (hs : starEach [a] X.env = (false, eval a X.env) :: starEach [] X.env := by rfl) : GE X C (.Call (.Name "tuple" p) [a] [] pos) (e1 (p1 fTupU) fa) :=
  ge_call pn_tupU (by rw [hK]; exact pe_callTy (cr_or (call_tupS hc) call_tuple_of) hg hm PyProof.Rows.boot_tuple (ga_cons ha ga_nil hs) (he := hs))
/-! is, is not, of None and of truths -/
def fIs (a b : S) : Option S := match a, b with
  | .fz (.bl x), .fz (.bl y) => some (.fz (.bl (decide (x = y))))
  | a, b => fIsN a b
def fIsNot (a b : S) : Option S := match a, b with
  | .fz (.bl x), .fz (.bl y) => some (.fz (.bl (!decide (x = y))))
  | a, b => fIsNotN a b
def rIsU : R2 := fun x y H Q => (y = .non ∧ Q (.bl (decide (x = .non))) H) ∨ ∃ a b, x = .bl a ∧ y = .bl b ∧ Q (.bl (decide (a = b))) H
def rIsNotU : R2 := fun x y H Q => (y = .non ∧ Q (.bl (!decide (x = .non))) H) ∨ ∃ a b, x = .bl a ∧ y = .bl b ∧ Q (.bl (!decide (a = b))) H
theorem pn_is : PN C (fun vs H Q => ∃ x y, vs = [x, y] ∧ rIsU x y H Q) (p2 fIs) := by
  refine pn2 (rr := rIsU) fun U W H x y a b s Q lv xa xb h q => ?_
  by_cases z : ∃ k l, a = .fz (.bl k) ∧ b = .fz (.bl l)
  · obtain ⟨k, l, rfl, rfl⟩ := z
    cases h
    exact .inr ⟨k, l, sr_bl xa, sr_bl xb, q _ _ (.same (.bl _))⟩
  · have h : fIsN a b = some s := by
      rw [← h]
      unfold fIs
      split
      · exact absurd ⟨_, _, rfl, rfl⟩ z
      · rfl
    obtain ⟨x', y', e, h1⟩ := pn_isN U W H [x, y] [a, b] s Q lv (.cons xa (.cons xb .nil)) h q
    cases e
    exact .inl h1
theorem pn_isNot : PN C (fun vs H Q => ∃ x y, vs = [x, y] ∧ rIsNotU x y H Q) (p2 fIsNot) := by
  refine pn2 (rr := rIsNotU) fun U W H x y a b s Q lv xa xb h q => ?_
  by_cases z : ∃ k l, a = .fz (.bl k) ∧ b = .fz (.bl l)
  · obtain ⟨k, l, rfl, rfl⟩ := z
    cases h
    exact .inr ⟨k, l, sr_bl xa, sr_bl xb, q _ _ (.same (.bl _))⟩
  · have h : fIsNotN a b = some s := by
      rw [← h]
      unfold fIsNot
      split
      · exact absurd ⟨_, _, rfl, rfl⟩ z
      · rfl
    obtain ⟨x', y', e, h1⟩ := pn_isNotN U W H [x, y] [a, b] s Q lv (.cons xa (.cons xb .nil)) h q
    cases e
    exact .inl h1
theorem op_isU : OpR X (compareOp .Is) rIsU := op_isN.or op_is_bl
theorem op_isNotU : OpR X (compareOp .IsNot) rIsNotU := op_notN.or op_isnot_bl
theorem x_is (ha : GE X C a fa) (hb : GE X C b fb) : GE X C (.Compare a [.Is] [b] pos) (e2 (p2 fIs) fa fb) := ge_op pn_is (pe_cmpR op_isU ha hb (nobehind _ (by decide) (by decide)))
theorem t_is (ha : GE X C a fa) (hb : GE X C b fb) : GT X C (.Compare a [.Is] [b] pos) (eBl (e2 (p2 fIs) fa fb)) := gt_cmp op_isU pn_is ha hb (nobehind _ (by decide) (by decide))
theorem x_isNot (ha : GE X C a fa) (hb : GE X C b fb) : GE X C (.Compare a [.IsNot] [b] pos) (e2 (p2 fIsNot) fa fb) := ge_op pn_isNot (pe_cmpR op_isNotU ha hb (nobehind _ (by decide) (by decide)))
theorem t_isNot (ha : GE X C a fa) (hb : GE X C b fb) : GT X C (.Compare a [.IsNot] [b] pos) (eBl (e2 (p2 fIsNot) fa fb)) := gt_cmp op_isNotU pn_isNot ha hb (nobehind _ (by decide) (by decide))
end
@[simp] theorem listU_o {ds : List D} : fListU (.ol ds) = fList (.ol ds) := rfl
@[simp] theorem listU_b {ds : List D} : fListU (.br ds) = fList (.br ds) := rfl
@[simp] theorem listU_k {ds : List D} : fListU (.lk ds) = fList (.lk ds) := rfl
@[simp] theorem listU_l {ds : List D} : fListU (.fz (.lst ds)) = fList (.fz (.lst ds)) := rfl
@[simp] theorem listU_t {ds : List D} : fListU (.fz (.tup ds)) = fList (.fz (.tup ds)) := rfl
@[simp] theorem listU_c {ds : List D} : fListU (.fz (.scr ds)) = fList (.fz (.scr ds)) := rfl
theorem listU_s {w : List Nat} (h : w.length ≤ 16777216) : fListU (.fz (.str w)) = some (.ol (w.map sgD)) := by
  show (if big w.length then some (S.ol (w.map sgD)) else none) = _
  rw [if_pos (big_of h)]
@[simp] theorem tupU_o {ds : List D} : fTupU (.ol ds) = fTuple (.ol ds) := rfl
@[simp] theorem tupU_b {ds : List D} : fTupU (.br ds) = fTuple (.br ds) := rfl
@[simp] theorem tupU_k {ds : List D} : fTupU (.lk ds) = fTuple (.lk ds) := rfl
@[simp] theorem tupU_l {ds : List D} : fTupU (.fz (.lst ds)) = fTuple (.fz (.lst ds)) := rfl
@[simp] theorem tupU_t {ds : List D} : fTupU (.fz (.tup ds)) = fTuple (.fz (.tup ds)) := rfl
theorem tupU_s {w : List Nat} (h : w.length ≤ 16777216) : fTupU (.fz (.str w)) = some (.fz (.tup (w.map sgD))) := by
  show (if big w.length then some (S.fz (.tup (w.map sgD))) else none) = _
  rw [if_pos (big_of h)]
@[simp] theorem is_bb {a b : Bool} : fIs (.fz (.bl a)) (.fz (.bl b)) = some (.fz (.bl (decide (a = b)))) := rfl
@[simp] theorem isNot_bb {a b : Bool} : fIsNot (.fz (.bl a)) (.fz (.bl b)) = some (.fz (.bl (!decide (a = b)))) := rfl
@[simp] theorem is_n {d : D} : fIs (.fz d) (.fz .non) = some (.fz (.bl d.isNon)) := by cases d <;> rfl
@[simp] theorem isNot_n {d : D} : fIsNot (.fz d) (.fz .non) = some (.fz (.bl (!d.isNon))) := by cases d <;> rfl
end GB

namespace GB
open PySem PySem.Spec PyProof.Rows L2
/-- a comprehension over anything that is not changed by the walk -/
theorem lc_all {fs : Rho → Rs (List Opd)} {mk : List S → Option (List D)} {fg : D → Rho → Option Rho} {ft : Rho → Rs Bool} {fe : Rho → Rs Opd} {vs : List Nat} {r r1 r3 : Rho} {os : List Opd} {ss : List S} {ds acc : List D} (h : fs r = .ok os r1) (la : lockAll os r1 = some (ss, r1, [])) (hk : mk ss = some ds) (hs : softs r1 vs = true) (hc : cmpL fg ft fe vs ds (wipeR r1 vs) [] = .ok acc r3) :
    eLc fs mk fg ft fe vs r = .ok (.val (.ol acc)) (restR r1 r3 vs) := by
  unfold eLc
  rw [h]
  show (match lockAll os r1 with
    | some (ss, r2, u) => (match mk ss with
      | some ds => if softs r2 vs then (match cmpL fg ft fe vs ds (wipeR r2 vs) [] with | .ok acc r3 => Rs.ok (Opd.val (S.ol acc)) (unlR u (restR r2 r3 vs)) | _ => .st) else .st
      | none => .st)
    | none => .st) = _
  rw [la]
  show (match mk ss with
    | some ds => if softs r1 vs then (match cmpL fg ft fe vs ds (wipeR r1 vs) [] with | .ok acc r3 => Rs.ok (Opd.val (S.ol acc)) (unlR [] (restR r1 r3 vs)) | _ => .st) else .st
    | none => .st) = _
  rw [hk]
  dsimp only
  rw [if_pos hs, hc]
  rfl
theorem for_all {fs : Rho → Rs (List Opd)} {mk : List S → Option (List D)} {fg : D → Rho → Option Rho} {f : Rho → Fl} {r r1 : Rho} {os : List Opd} {ss : List S} {ds : List D} (h : fs r = .ok os r1) (la : lockAll os r1 = some (ss, r1, [])) (hk : mk ss = some ds) : fFor fs mk fg f r = forL fg f ds r1 := by
  unfold fFor
  rw [h]
  show (match lockAll os r1 with | some (ss, r2, u) => (match mk ss with | some ds => mapFl (unlR u) (forL fg f ds r2) | none => .st) | none => .st) = _
  rw [la]
  show (match mk ss with | some ds => mapFl (unlR []) (forL fg f ds r1) | none => .st) = _
  rw [hk]
  exact mapFl_id _
section
variable {fa fb : Rho → Rs Opd} {r : Rho}
@[simp] theorem s_eAnd : eAnd fa fb r = (fa r).bind fun o r1 => match blOf o r1 with | some true => fb r1 | some false => .ok (.val (.fz (.bl false))) r1 | none => .st := rfl
@[simp] theorem s_eOr : eOr fa fb r = (fa r).bind fun o r1 => match blOf o r1 with | some true => .ok (.val (.fz (.bl true))) r1 | some false => fb r1 | none => .st := rfl
@[simp] theorem s_eNotV : eNot fa r = (fa r).bind fun o r1 => match blOf o r1 with | some b => .ok (.val (.fz (.bl (!b)))) r1 | none => .st := rfl
@[simp] theorem blOf_val {b : Bool} : blOf (.val (.fz (.bl b))) r = some b := rfl
@[simp] theorem blOf_loc {i : Nat} : blOf (.loc i) r = match (r[i]?).join with | some (.fz (.bl b)) => some b | _ => none := rfl
end
theorem inS_sg (c : Nat) (l : List Nat) : inS (.fz (.str [c])) (.ol (l.map sgD)) = some (decide (c ∈ l)) := by
  have h1 : (l.map sgD).all D.flat = true := List.all_eq_true.mpr fun d hd => by
    obtain ⟨x, _, rfl⟩ := List.mem_map.mp hd
    rfl
  have h2 : ((l.map sgD).any fun e => eqFlat e (.str [c])) = decide (c ∈ l) := by
    rw [List.any_map, Bool.eq_iff_iff, List.any_eq_true, decide_eq_true_iff]
    constructor
    · rintro ⟨x, hx, h⟩
      have : ([x] == [c]) = true := h
      have := eq_of_beq this
      cases this
      exact hx
    · intro h
      exact ⟨c, h, beq_self_eq_true [c]⟩
  show (if ((D.str [c]).flat && (l.map sgD).all D.flat) = true then some ((l.map sgD).any fun e => eqFlat e (.str [c])) else none) = _
  rw [h1, h2]
  rfl
theorem in_sg (c : Nat) (l : List Nat) : qIn [.fz (.str [c]), .ol (l.map sgD)] = some (.fz (.bl (decide (c ∈ l)))) := by
  unfold qIn
  simp [s_orP, fIn, inS_sg]
theorem notIn_sg (c : Nat) (l : List Nat) : qNotIn [.fz (.str [c]), .ol (l.map sgD)] = some (.fz (.bl (!decide (c ∈ l)))) := by
  unfold qNotIn
  simp [s_orP, fNotIn, inS_sg]
/-- what is left of a walk over signs that leaves out those of a kind -/
def outG (p : Nat → Bool) : D → List D
  | .str [c] => if p c then [] else [.str [c]]
  | _ => []
theorem flat_emp (p : Nat → Bool) (w : List Nat) : ((w.map sgD).flatMap (outG p)).isEmpty = w.all p := by
  induction w with
  | nil => rfl
  | cons c w ih =>
    rw [List.map_cons, List.flatMap_cons, List.all_cons]
    show ((if p c then [] else [D.str [c]]) ++ _).isEmpty = _
    cases h : p c with
    | true => simpa using ih
    | false => rfl
/-- a thing that may be asked about -/
def plainD (d : D) : Prop := ∀ w, d = .str w → w.length ≤ 1000 ∧ ∀ c ∈ w, c < 1114112
@[simp] theorem big_0 : big 0 = true := rfl
@[simp] theorem big_1 : big 1 = true := rfl
@[simp] theorem big_2 : big 2 = true := rfl
@[simp] theorem big_3 : big 3 = true := rfl
@[simp] theorem big_4 : big 4 = true := rfl
@[simp] theorem big_5 : big 5 = true := rfl
@[simp] theorem big_6 : big 6 = true := rfl
@[simp] theorem big_7 : big 7 = true := rfl
@[simp] theorem big_8 : big 8 = true := rfl
@[simp] theorem big_9 : big 9 = true := rfl
@[simp] theorem big_10 : big 10 = true := rfl
@[simp] theorem big_11 : big 11 = true := rfl
@[simp] theorem big_12 : big 12 = true := rfl
@[simp] theorem big_13 : big 13 = true := rfl
@[simp] theorem big_14 : big 14 = true := rfl
section
variable {n : Nat} {f : List D → Rho → Option Rho} {fg : D → Rho → Option Rho} {d : D} {ds : List D} {r : Rho}
@[simp] theorem s_gTp : gTp n f (.tup ds) r = if ds.length = n then f ds r else none := rfl
@[simp] theorem s_gsCons : gsCons fg f (d :: ds) r = match fg d r with | some r1 => f ds r1 | none => none := rfl
@[simp] theorem s_gsNil : gsNil [] r = some r := rfl
end
@[simp] theorem s_eDic0 {r : Rho} : eDic0 r = .ok (.val (.od [])) r := rfl
@[simp] theorem merge_one {k : Key} {v : D} : mergeD [(k, v)] = [(k, v)] := rfl
@[simp] theorem s_frzD {kvs : List (Key × D)} {r : Rho} : frz1 (.val (.od kvs)) r = some (.dic (kvs.map Prod.fst) (kvs.map Prod.snd), r) := rfl
theorem s_addO {a b : List D} : fAdd (.ol a) (.ol b) = if big (a.length + b.length) then some (.ol (a ++ b)) else none := rfl
end GB

/-! chains of two tests, rows of shallow things, tidy words by places, rings -/
namespace GB
open PySem PySem.Spec PyProof.Rows L2
@[simp] theorem s_eChain {p p' : Pr} {fa fb fc : Rho → Rs Opd} {r : Rho} : eChain p p' fa fb fc r = (fa r).bind fun o1 r1 => (fb r1).bind fun o2 r2 => (eP p [o1, o2] r2).bind fun o3 r3 => match o3 with
  | .val (.fz (.bl true)) => (fc r3).bind fun o4 r4 => eP p' [o2, o4] r4
  | .val (.fz (.bl false)) => .ok (.val (.fz (.bl false))) r3
  | _ => .st := rfl
/-- a thing that may be compared -/
def eqT (d : D) : Prop := d.py.canLay0 = true ∧ d.py.depth ≤ 9 ∧ d.py.hasDict = false
theorem eqL.T {d : D} (h : eqL d) : eqT d := by
  obtain ⟨h1, h2, h3⟩ := eqL_spec h
  exact ⟨h1, by omega, h3⟩
theorem eqT_tup {ds : List D} (h : ∀ d ∈ ds, eqL d) : eqT (.tup ds) := by
  obtain ⟨h1, h2, h3⟩ := eqL_all h
  exact ⟨by rw [D.py, PyData.canLay0]; exact h1, by rw [D.py, PyData.depth, h2]; decide, by rw [D.py, PyData.hasDict]; exact h3⟩
theorem eqT_lst {ds : List D} (h : ∀ d ∈ ds, eqL d) : eqT (.lst ds) := by
  obtain ⟨h1, h2, h3⟩ := eqL_all h
  exact ⟨by rw [D.py, PyData.canLay0]; exact h1, by rw [D.py, PyData.depth, h2]; decide, by rw [D.py, PyData.hasDict]; exact h3⟩
theorem eqT_all : ∀ {ds : List D}, (∀ d ∈ ds, eqT d) → PyData.canLayAll0 (pyAll ds) = true ∧ PyData.depthAll (pyAll ds) ≤ 9 ∧ PyData.hasDictAll (pyAll ds) = false
  | [], _ => ⟨rfl, Nat.zero_le _, rfl⟩
  | d :: ds, h => by
    obtain ⟨h1, h2, h3⟩ := h d (List.mem_cons_self ..)
    obtain ⟨g1, g2, g3⟩ := eqT_all fun d hd => h d (List.mem_cons_of_mem _ hd)
    exact ⟨by rw [pyAll, PyData.canLayAll0, h1, g1]; rfl, by rw [pyAll, PyData.depthAll]; exact Nat.max_le.mpr ⟨h2, g2⟩, by rw [pyAll, PyData.hasDictAll, h3, g3]; rfl⟩
theorem fitT_lst {ds : List D} (h : ∀ d ∈ ds, eqT d) : (D.lst ds).fit = true := by
  obtain ⟨h1, h2, h3⟩ := eqT_all h
  have e1' : (D.lst ds).py.canLay0 = true := by rw [D.py, PyData.canLay0]; exact h1
  have e2' : (D.lst ds).py.depth ≤ 64 := by rw [D.py, PyData.depth]; omega
  have e3' : (D.lst ds).py.hasDict = false := by rw [D.py, PyData.hasDict]; exact h3
  show (((D.lst ds).py.canLay0 && decide ((D.lst ds).py.depth ≤ 64)) && !(D.lst ds).py.hasDict) = true
  rw [e1', e3', decide_eq_true e2']; rfl
theorem eq_nilT {ds : List D} (h : ∀ d ∈ ds, eqT d) : fEq (.ol ds) (.ol []) = some (.fz (.bl ds.isEmpty)) := by
  show (if (D.lst ds).fit && (D.lst []).fit then some ((D.lst ds).same (.lst [])) else none).map (fun k => S.fz (.bl k)) = _
  rw [fitT_lst h, fit_nil]
  show some (S.fz (.bl (PyData.eqv (D.lst ds).py (D.lst []).py))) = _
  rw [D.py, D.py, PyData.eqv]
  cases ds <;> rfl
theorem tidy_ix : ∀ {u : List Nat}, W u → (tidy u = true ↔ ∀ k x y, u[k]? = some x → u[k + 1]? = some y → y ≠ bk x)
  | [], _ => by simp [tidy]
  | [x], _ => by
    constructor
    · intro _ k a b h1 h2
      have : k + 1 < 1 := lt_of_at h2
      omega
    · intro _; rfl
  | x :: y :: w, h => by
    have ih := tidy_ix (u := y :: w) h.tail
    show (decide (x ≠ bk y) && tidy (y :: w)) = true ↔ _
    rw [Bool.and_eq_true, decide_eq_true_iff, ih]
    have hx := h.head
    have hy := h.tail.head
    constructor
    · rintro ⟨h1, h2⟩ k a b ha hb
      cases k with
      | zero =>
        cases ha
        cases hb
        exact fun e => h1 (by rw [e, bk_bk hx])
      | succ k => exact h2 k a b (by simpa using ha) (by simpa using hb)
    · intro hh
      refine ⟨fun e => hh 0 x y rfl rfl (by rw [e, bk_bk hy]), fun k a b ha hb => hh (k + 1) a b (by simpa using ha) (by simpa using hb)⟩
theorem tidy_snoc : ∀ (w : List Nat) (y z : Nat), tidy (w ++ [y, z]) = (tidy (w ++ [y]) && decide (y ≠ bk z))
  | [], y, z => by simp [tidy]
  | [x], y, z => by simp [tidy, Bool.and_assoc]
  | a :: b :: w, y, z => by
    have ih := tidy_snoc (b :: w) y z
    show (decide (a ≠ bk b) && tidy ((b :: w) ++ [y, z])) = ((decide (a ≠ bk b) && tidy ((b :: w) ++ [y])) && decide (y ≠ bk z))
    rw [ih, Bool.and_assoc]
/-- reduced, also where end and begin meet -/
def ringB (w : List Nat) : Bool := tidy w && match w.head?, w.getLast? with | some x, some y => decide (x ≠ bk y) | _, _ => true
theorem ringB_again {w : List Nat} (h : W w) (h0 : w ≠ []) : tidy (w ++ w.take 1) = ringB w := by
  cases w with
  | nil => exact absurd rfl h0
  | cons x u =>
    have hne : (x :: u) ≠ [] := by simp
    have e : (x :: u).getLast? = some ((x :: u).getLast hne) := List.getLast?_eq_some_getLast hne
    have dl : (x :: u) = (x :: u).dropLast ++ [(x :: u).getLast hne] := (List.dropLast_concat_getLast hne).symm
    have hy := h _ (List.getLast_mem hne)
    have hx := h.head
    unfold ringB
    rw [e]
    show tidy ((x :: u) ++ [x]) = (tidy (x :: u) && decide (x ≠ bk ((x :: u).getLast hne)))
    generalize (x :: u).getLast hne = y at *
    generalize (x :: u).dropLast = v at *
    rw [dl, List.append_assoc]
    show tidy (v ++ [y, x]) = _
    rw [tidy_snoc]
    congr 1
    rw [Bool.eq_iff_iff, decide_eq_true_iff, decide_eq_true_iff]
    constructor
    · exact fun z e => z (by rw [e, bk_bk hy])
    · exact fun z e => z (by rw [e, bk_bk hx])
def ringD (d : D) : Bool := wordD 6 d && match d with | .str w => ringB w && decide (1 ≤ w.length ∧ w.length ≤ 120) | _ => false
def ringsD : D → Bool
  | .tup ds => decide (ds.length ≤ 6) && ds.all ringD
  | _ => false
theorem wordD_W {m : Nat} (hm : m ≤ 6) {w : List Nat} (h : wordD m (.str w) = true) : W w := by
  intro c hc
  have := List.all_eq_true.mp (show w.all (inW m) = true from h) c hc
  rw [inW_eq hm, Bool.and_eq_true] at this
  exact this.1
theorem W_wordD {w : List Nat} (h : W w) : wordD 6 (.str w) = true := by
  refine List.all_eq_true.mpr fun c hc => ?_
  have l := h c hc
  rw [inW_eq (by omega), l]
  have := isL_iff.mp l
  unfold num
  split <;> simp <;> omega
/-- a filter over things -/
def keepG (p : D → Bool) (d : D) : List D := if p d then [] else [d]
theorem keep_emp (p : D → Bool) : ∀ ds : List D, (ds.flatMap (keepG p)).isEmpty = ds.all p
  | [] => rfl
  | d :: ds => by
    rw [List.flatMap_cons, List.all_cons, ← keep_emp p ds]
    unfold keepG
    cases h : p d with
    | true => simp
    | false => simp
theorem keep_mem {p : D → Bool} {ds : List D} {d : D} (h : d ∈ ds.flatMap (keepG p)) : d ∈ ds := by
  obtain ⟨e, he, hd⟩ := List.mem_flatMap.mp h
  unfold keepG at hd
  split at hd
  · cases hd
  · rw [List.mem_singleton] at hd
    subst hd
    exact he
end GB

/-! maps of letters: words put in for letters -/
namespace GB
open PySem PySem.Spec PyProof.Rows L2
theorem red_nil : red [] = [] := rfl
theorem red_mid {a v b : List Nat} (ha : W a) (hv : W v) (hb : W b) : red (a ++ red v ++ b) = red (a ++ v ++ b) := by
  rw [← red_l (ha.app (red_w hv)) hb, red_r ha hv, red_l (ha.app hv) hb]
theorem red_back' {w : List Nat} (h : W w) : red (bkw w ++ w) = [] := by
  have := red_back h.bkw
  rw [bkw_bkw h] at this
  exact this
/-- what undoes the same is the same -/
theorem red_uniq {a x y : List Nat} (ha : W a) (hx : W x) (hy : W y) (e1' : red (a ++ x) = []) (e2' : red (a ++ y) = []) : red x = red y := by
  have key : ∀ {z : List Nat}, W z → red (a ++ z) = [] → red z = red (bkw a) := fun {z} hz e => by
    have h1 : red (bkw a ++ red (a ++ z)) = red (bkw a ++ (a ++ z)) := red_r ha.bkw (ha.app hz)
    rw [e, List.append_nil, ← List.append_assoc, ← red_l (ha.bkw.app ha) hz, red_back' ha, List.nil_append] at h1
    exact h1.symm
  rw [key hx e1', key hy e2']
theorem red_bkw {v : List Nat} (h : W v) : red (bkw (red v)) = red (bkw v) := by
  refine red_uniq h (red_w h).bkw h.bkw ?_ (red_back h)
  rw [← red_l h (red_w h).bkw]
  exact red_back (red_w h)
/-- what a letter becomes -/
def bec (cs : List (List Nat)) (c : Nat) : List Nat := if 97 ≤ c then cs.getD (num c) [] else bkw (cs.getD (num c) [])
def sub (cs : List (List Nat)) (w : List Nat) : List Nat := w.flatMap (bec cs)
/-- words of letters -/
def Ws (cs : List (List Nat)) : Prop := ∀ w ∈ cs, W w
theorem Ws.at {cs : List (List Nat)} (h : Ws cs) (i : Nat) : W (cs.getD i []) := by
  rw [List.getD_eq_getElem?_getD]
  cases e : cs[i]? with
  | none => exact .nil
  | some w => exact h w (List.mem_of_getElem? e)
theorem bec_w {cs : List (List Nat)} (h : Ws cs) (c : Nat) : W (bec cs c) := by
  unfold bec
  split
  · exact h.at _
  · exact (h.at _).bkw
theorem sub_w {cs : List (List Nat)} (h : Ws cs) (w : List Nat) : W (sub cs w) := fun c hc => by
  obtain ⟨d, _, hd⟩ := List.mem_flatMap.mp hc
  exact bec_w h d c hd
theorem num_bk {c : Nat} (h : isL c = true) : num (bk c) = num c := by
  have h := isL_iff.mp h
  unfold num bk
  split <;> split <;> split <;> omega
theorem bec_bk {cs : List (List Nat)} (h : Ws cs) {c : Nat} (hc : isL c = true) : bec cs (bk c) = bkw (bec cs c) := by
  have nb := num_bk hc
  have h' := isL_iff.mp hc
  unfold bec
  rw [nb]
  by_cases z : 97 ≤ c
  · have : ¬ 97 ≤ bk c := by unfold bk; split <;> omega
    rw [if_pos z, if_neg this]
  · have : 97 ≤ bk c := by unfold bk; split <;> omega
    rw [if_neg z, if_pos this, bkw_bkw (h.at _)]
theorem sub_app (cs : List (List Nat)) (u v : List Nat) : sub cs (u ++ v) = sub cs u ++ sub cs v := List.flatMap_append
theorem sub_cons (cs : List (List Nat)) (c : Nat) (v : List Nat) : sub cs (c :: v) = bec cs c ++ sub cs v := List.flatMap_cons
theorem sub_nil (cs : List (List Nat)) : sub cs [] = [] := rfl
theorem sub_bkw {cs : List (List Nat)} (h : Ws cs) : ∀ {w : List Nat}, W w → sub cs (bkw w) = bkw (sub cs w)
  | [], _ => rfl
  | c :: w, hw => by
    have e : bkw (c :: w) = bkw w ++ [bk c] := by unfold bkw; simp
    rw [e, sub_app, sub_bkw h hw.tail, sub_cons cs c w, bkw_app, sub_cons, sub_nil, List.append_nil, bec_bk h hw.head]
/-- letters fall out ahead of the change, or behind it -/
theorem sub_red {cs : List (List Nat)} (h : Ws cs) {u : List Nat} (hu : W u) : red (sub cs (red u)) = red (sub cs u) := by
  have key : ∀ (w t : List Nat), Ok t → W t → W w → red (sub cs (t.reverse ++ w)) = red (sub cs (run t w).reverse) := by
    intro w
    induction w with
    | nil => intro t _ _ _; rw [List.append_nil]; rfl
    | cons c w ih =>
      intro t ht wt hw
      rw [show run t (c :: w) = run (step t c) w from rfl, ← ih (step t c) (step_ok ht) (step_w wt hw.head) hw.tail]
      cases t with
      | nil => rfl
      | cons x t =>
        unfold step
        dsimp only
        by_cases e : x = bk c
        · rw [if_pos e, e]
          have e2' : (bk c :: t).reverse ++ c :: w = t.reverse ++ ([bk c, c] ++ w) := by simp
          rw [e2', sub_app, sub_app cs [bk c, c], sub_app]
          have e3' : sub cs [bk c, c] = bkw (bec cs c) ++ bec cs c := by
            rw [sub_cons, sub_cons, sub_nil, List.append_nil, bec_bk h hw.head]
          rw [e3', ← List.append_assoc, ← red_mid (sub_w h _) ((bec_w h c).bkw.app (bec_w h c)) (sub_w h _), red_back' (bec_w h c), List.append_nil]
        · rw [if_neg e]
          simp
  have := key u [] ok_nil .nil hu
  rw [List.reverse_nil, List.nil_append] at this
  exact this.symm
/-- put in reduced, or not -/
theorem sub_congr {cs ds : List (List Nat)} (hc : Ws cs) (hd : Ws ds) (e : ∀ i, red (cs.getD i []) = red (ds.getD i [])) : ∀ w : List Nat, red (sub cs w) = red (sub ds w)
  | [] => rfl
  | c :: w => by
    have eb : red (bec cs c) = red (bec ds c) := by
      unfold bec
      split
      · exact e _
      · rw [← red_bkw (hc.at _), e, red_bkw (hd.at _)]
    rw [sub_cons, sub_cons, ← red_l (bec_w hc c) (sub_w hc w), ← red_r (red_w (bec_w hc c)) (sub_w hc w), sub_congr hc hd e w, red_r (red_w (bec_w hc c)) (sub_w hd w), eb, red_l (bec_w hd c) (sub_w hd w)]
/-- one map, then the other -/
def thenL (one other : List (List Nat)) : List (List Nat) := one.map fun w => red (sub other w)
theorem thenL_w {one other : List (List Nat)} (h : Ws other) : Ws (thenL one other) := fun w hw => by
  obtain ⟨u, _, rfl⟩ := List.mem_map.mp hw
  exact red_w (sub_w h u)
theorem getD_map (f : List Nat → List Nat) (hf : f [] = []) (l : List (List Nat)) (i : Nat) : (l.map f).getD i [] = f (l.getD i []) := by
  rw [List.getD_eq_getElem?_getD, List.getD_eq_getElem?_getD, List.getElem?_map]
  cases l[i]? <;> simp [hf]
theorem sub_sub {one other : List (List Nat)} (h1 : Ws one) (h2 : Ws other) : ∀ {w : List Nat}, W w → sub (one.map (sub other)) w = sub other (sub one w)
  | [], _ => rfl
  | c :: w, hw => by
    rw [sub_cons, sub_cons, sub_app, sub_sub h1 h2 hw.tail]
    congr 1
    unfold bec
    rw [getD_map _ rfl]
    split
    · rfl
    · exact (sub_bkw h2 (h1.at _)).symm
theorem then_word {one other : List (List Nat)} (h1 : Ws one) (h2 : Ws other) {w : List Nat} (hw : W w) : red (sub (thenL one other) w) = red (sub other (red (sub one w))) := by
  rw [sub_red h2 (sub_w h1 w), ← sub_sub h1 h2 hw]
  refine sub_congr (thenL_w h2) (fun u hu => ?_) (fun i => ?_) w
  · obtain ⟨v, _, rfl⟩ := List.mem_map.mp hu
    exact sub_w h2 v
  · unfold thenL
    rw [getD_map _ rfl, getD_map _ rfl, red_red (sub_w h2 _)]
theorem then_assoc {one other third : List (List Nat)} (h1 : Ws one) (h2 : Ws other) (h3 : Ws third) : thenL (thenL one other) third = thenL one (thenL other third) := by
  unfold thenL
  rw [List.map_map]
  exact List.map_congr_left fun w hw => (then_word (one := other) (other := third) h2 h3 (h1 w hw)).symm
/-- the letters themselves -/
def plainL (m : Nat) : List (List Nat) := ([97, 98, 99, 100, 101, 102].take m).map fun c => [c]
theorem plainL_w (m : Nat) : Ws (plainL m) := fun w hw => by
  obtain ⟨c, hc, rfl⟩ := List.mem_map.mp hw
  have hc := List.mem_of_mem_take hc
  exact .cons (isL_iff.mpr (by simp at hc; omega)) .nil
theorem plainL_at {m i : Nat} (hm : m ≤ 6) (hi : i < m) : (plainL m).getD i [] = [97 + i] := by
  have key : ∀ m, m ≤ 6 → ∀ i, i < m → (plainL m).getD i [] = [97 + i] := by decide
  exact key m hm i hi
/-- a word of so many letters -/
def Wm (m : Nat) (w : List Nat) : Prop := W w ∧ ∀ c ∈ w, num c < m
theorem sub_plain {m : Nat} (hm : m ≤ 6) : ∀ {w : List Nat}, Wm m w → sub (plainL m) w = w
  | [], _ => rfl
  | c :: w, ⟨h1, h2⟩ => by
    rw [sub_cons, sub_plain hm ⟨h1.tail, fun d hd => h2 d (List.mem_cons_of_mem _ hd)⟩]
    have hc := isL_iff.mp h1.head
    have e : bec (plainL m) c = [c] := by
      unfold bec
      rw [plainL_at hm (h2 c (List.mem_cons_self ..))]
      unfold num
      split
      · congr 1
        omega
      · show [bk (97 + (c - 65))] = [c]
        unfold bk
        rw [if_pos (by omega)]
        congr 1
        omega
    rw [e]; rfl
theorem then_plain {m : Nat} (hm : m ≤ 6) {one : List (List Nat)} (h : ∀ w ∈ one, Wm m w ∧ red w = w) : thenL one (plainL m) = one := by
  unfold thenL
  conv => rhs; rw [← List.map_id one]
  exact List.map_congr_left fun w hw => by rw [sub_plain hm (h w hw).1, (h w hw).2]; rfl
theorem plain_then {m : Nat} (hm : m ≤ 6) {one : List (List Nat)} (hl : one.length = m) (h : ∀ w ∈ one, Wm m w ∧ red w = w) : thenL (plainL m) one = one := by
  have hw : Ws one := fun w hw => (h w hw).1.1
  refine List.ext_getElem? fun i => ?_
  unfold thenL
  rw [List.getElem?_map]
  by_cases hi : i < m
  · have e1' : (plainL m)[i]? = some [97 + i] := by
      have key : ∀ m, m ≤ 6 → ∀ i, i < m → (plainL m)[i]? = some [97 + i] := by decide
      exact key m hm i hi
    have e2' : one[i]? = some one[i] := List.getElem?_eq_getElem (by omega)
    rw [e1', e2', Option.map_some, sub_cons, sub_nil, List.append_nil]
    have e3' : bec one (97 + i) = one[i] := by
      unfold bec num
      rw [if_pos (by omega), if_pos (by omega), Nat.add_sub_cancel_left, List.getD_eq_getElem?_getD, e2']; rfl
    rw [e3', (h _ (List.getElem_mem (by omega))).2]
  · rw [List.getElem?_eq_none (l := one) (by omega), List.getElem?_eq_none (l := plainL m) (by unfold plainL; rw [List.length_map, List.length_take]; simp; omega)]
    rfl
theorem red_sub_mem : ∀ (w : List Nat) (s : List Nat) (c : Nat), c ∈ run s w → c ∈ s ∨ c ∈ w
  | [], s, c, h => .inl h
  | x :: w, s, c, h => by
    rcases red_sub_mem w (step s x) c h with h | h
    · have : c ∈ s ∨ c = x := by
        cases s with
        | nil => exact .inr (by simpa [step] using h)
        | cons y s =>
          unfold step at h
          dsimp only at h
          split at h
          · exact .inl (List.mem_cons_of_mem _ h)
          · rcases List.mem_cons.mp h with h | h
            · exact .inr h
            · exact .inl h
      rcases this with h | h
      · exact .inl h
      · exact .inr (h ▸ List.mem_cons_self ..)
    · exact .inr (List.mem_cons_of_mem _ h)
theorem red_Wm {m : Nat} {w : List Nat} (h : Wm m w) : Wm m (red w) := ⟨red_w h.1, fun c hc => by
  rcases red_sub_mem w [] c (List.mem_reverse.mp hc) with z | z
  · cases z
  · exact h.2 c z⟩
theorem sub_len {cs : List (List Nat)} {B : Nat} (h : ∀ w ∈ cs, w.length ≤ B) : ∀ w : List Nat, (sub cs w).length ≤ w.length * B
  | [] => Nat.zero_le _
  | c :: w => by
    have e : (bec cs c).length ≤ B := by
      have : (cs.getD (num c) []).length ≤ B := by
        rw [List.getD_eq_getElem?_getD]
        cases e : cs[num c]? with
        | none => exact Nat.zero_le _
        | some w => exact h w (List.mem_of_getElem? e)
      unfold bec
      split
      · exact this
      · rw [bkw_len]; exact this
    rw [sub_cons, List.length_append, List.length_cons, Nat.add_mul]
    have := sub_len h w
    omega
theorem sgn_Wm {m c : Nat} (hm : m ≤ 6) (h : c ∈ sgn m) : isL c = true ∧ num c < m := (sgn_mem hm).mp h
end GB

/-! a row unpacked from a list; words joined; more slices -/
namespace GB
open PySem PySem.Spec PyProof.Rows L2
section
variable {X : Cx} {C : Ct} {es : List Expr} {pos : Pos}
theorem pg_or {tg : Expr} {t1 t2 : TG} (h1 : PG X tg t1) (h2 : PG X tg t2) : PG X tg fun v σ H Q => t1 v σ H Q ∨ t2 v σ H Q :=
  ⟨fun pins s σ H v u Q I r h => h.elim (h1.run pins s σ H v u Q I r) (h2.run pins s σ H v u Q I r)⟩
/-- (a, b, ..) = a tuple, or a list -/
def gTpU (n : Nat) (f : List D → Rho → Option Rho) : D → Rho → Option Rho := fun d r => match d with
  | .tup ds => if ds.length = n then f ds r else none
  | .lst ds => if ds.length = n then f ds r else none
  | _ => none
theorem gg_tupU {k : Nat} {f : List D → Rho → Option Rho} {n : Nat} {t : List Nat} (hc : X.calm = true) (h : GGs X C es t f) (hK : C.K = X.K := by rfl)
    (hn : (assignEach es X.env).length = n := by rfl) (hst : (assignEach es X.env).findIdx? (·.1) = none := by rfl) : GG X C (.Tuple es k pos) t (gTpU n f) := by
  refine weakG (pg_or (pg_tup hc h hn hst) (pg_unl hc h hn hst)) fun v σ H Q h => ?_
  obtain ⟨U, r, d, s, x, h⟩ := h
  cases x with
  | @tup a xs ds q xs' =>
    unfold gTpU at h
    dsimp only at h
    by_cases hl : ds.length = n
    · rw [if_pos hl] at h
      exact .inl ⟨a, xs, rfl, hK ▸ q, xs'.len.trans hl, U, r, ds, s, xs', h⟩
    · rw [if_neg hl] at h
      exact h.elim
  | @lst a xs ds q n' xs' =>
    unfold gTpU at h
    dsimp only at h
    by_cases hl : ds.length = n
    · rw [if_pos hl] at h
      exact .inr ⟨a, xs, rfl, .inl (.inl q), xs'.len.trans hl, U, r, ds, s, xs', h⟩
    · rw [if_neg hl] at h
      exact h.elim
  | _ => exact h.elim
end
section
variable {n : Nat} {f : List D → Rho → Option Rho} {ds : List D} {r : Rho} {fg : D → Rho → Option Rho} {fe : Rho → Rs Opd}
@[simp] theorem s_gTpU : gTpU n f (.tup ds) r = if ds.length = n then f ds r else none := rfl
@[simp] theorem s_gTpUl : gTpU n f (.lst ds) r = if ds.length = n then f ds r else none := rfl
@[simp] theorem s_fAsg : fAsg fg fe r = ofR (fe r) fun o r1 => match frz1 o r1 with
  | some (d, r2) => (match fg d r2 with | some r3 => .nx r3 | none => .st)
  | none => .st := rfl
end
theorem join_ws {ws : List (List Nat)} (h : (ws.map List.length).sum ≤ 16777216) : fJoin (.fz (.str [])) (.ol (ws.map D.str)) = some (.fz (.str ws.flatten)) := by
  rw [s_fJoin, strsOf_ws]
  dsimp only
  rw [joinN_nil, if_pos (big_of (by simpa using h))]
theorem sum_flat (ws : List (List Nat)) : (ws.map List.length).sum = ws.flatten.length := by rw [List.length_flatten]
theorem cut_nnD {α : Type} (w : List α) (i j : Nat) : GB.cutD w (some (i : Int)) (some (j : Int)) = (w.take j).drop i := by
  unfold GB.cutD
  have e1' : HT.sIx w.length w.length (some (j : Int)) = min j w.length := HT.sIx_nat w.length w.length j
  have e2' : HT.sIx w.length 0 (some (i : Int)) = min i w.length := HT.sIx_nat w.length 0 i
  rw [e1', e2']
  refine List.ext_getElem? fun n => ?_
  rw [List.getElem?_take, List.getElem?_drop, List.getElem?_drop, List.getElem?_take]
  by_cases h1 : n < min j w.length - min i w.length
  · rw [if_pos h1, if_pos (by omega)]
    congr 1
    omega
  · rw [if_neg h1]
    split
    · exact (List.getElem?_eq_none (by omega)).symm
    · rfl
theorem sl_nnO (ds : List D) (i j : Nat) : fSl (.ol ds) (.fz (.int (i : Nat))) (.fz (.int (j : Nat))) = some (.ol ((ds.take j).drop i)) := by
  show some (S.ol (GB.cutD ds (some (i : Int)) (some (j : Int)))) = _
  rw [cut_nnD]
theorem find_one {c : Nat} (h : isL c = true) : fFind (.fz (.str [97, 98, 99, 100, 101, 102])) (.fz (.str [97 + num c])) = some (.fz (.int (num c : Nat))) := by
  have key : ∀ j, j < 6 → subIx [97 + j] [97, 98, 99, 100, 101, 102] = some j := by
    intro j hj
    rw [subIx_one]
    have : j = 0 ∨ j = 1 ∨ j = 2 ∨ j = 3 ∨ j = 4 ∨ j = 5 := by omega
    rcases this with rfl | rfl | rfl | rfl | rfl | rfl <;> rfl
  have hn : num c < 6 := by
    have h := isL_iff.mp h
    unfold num
    split <;> omega
  show some (S.fz (.int (match subIx [97 + num c] [97, 98, 99, 100, 101, 102] with | some n => (n : Int) | none => -1))) = _
  rw [key _ hn]
theorem low_one {c : Nat} (h : isL c = true) : fLower (.fz (.str [c])) = some (.fz (.str [97 + num c])) := by
  have h := isL_iff.mp h
  have z1 : c < 128 := by omega
  have z2 : lo1 c = 97 + num c := by
    unfold lo1 num
    split <;> split <;> omega
  simp [fLower, lowL, z1, z2]
theorem small_iff {c : Nat} (h : isL c = true) : c ∈ [97, 98, 99, 100, 101, 102] ↔ 97 ≤ c := by
  have h := isL_iff.mp h
  simp
  omega
end GB

/-! slices of own lists -/
namespace GB
open PySem PySem.Spec PyProof.Rows L2
theorem cut_toD {α : Type} (w : List α) (k : Nat) : GB.cutD w none (some (k : Int)) = w.take k := by
  unfold GB.cutD
  have e : HT.sIx w.length w.length (some (k : Int)) = min k w.length := HT.sIx_nat w.length w.length k
  rw [e]
  show List.take (min k w.length - 0) (w.drop 0) = _
  rw [List.drop_zero, Nat.sub_zero]
  by_cases h : k ≤ w.length
  · rw [Nat.min_eq_left h]
  · rw [Nat.min_eq_right (by omega), List.take_of_length_le (Nat.le_refl _), List.take_of_length_le (by omega)]
theorem cut_fromD {α : Type} (w : List α) (k : Nat) : GB.cutD w (some (k : Int)) none = w.drop k := by
  unfold GB.cutD
  have e : HT.sIx w.length 0 (some (k : Int)) = min k w.length := HT.sIx_nat w.length 0 k
  rw [e]
  show List.take (w.length - min k w.length) (w.drop (min k w.length)) = _
  rw [List.take_of_length_le (by rw [List.length_drop]; omega)]
  by_cases h : k ≤ w.length
  · rw [Nat.min_eq_left h]
  · rw [Nat.min_eq_right (by omega), List.drop_eq_nil_of_le (Nat.le_refl _), List.drop_eq_nil_of_le (by omega)]
theorem sl_toO (ds : List D) (k : Nat) : fSl (.ol ds) (.fz .non) (.fz (.int (k : Nat))) = some (.ol (ds.take k)) := by
  show some (S.ol (GB.cutD ds none (some (k : Int)))) = _
  rw [cut_toD]
theorem sl_fromO (ds : List D) (k : Nat) : fSl (.ol ds) (.fz (.int (k : Nat))) (.fz .non) = some (.ol (ds.drop k)) := by
  show some (S.ol (GB.cutD ds (some (k : Int)) none)) = _
  rw [cut_fromD]
@[simp] theorem tupO {ds : List D} : fTuple (.ol ds) = some (.fz (.tup ds)) := rfl
@[simp] theorem listO {ds : List D} : fList (.ol ds) = some (.ol ds) := rfl
end GB

/-! rows of rows shown; slices and sums of tuples; walks that hand back at the first bad thing -/
namespace GB
open PySem PySem.Spec PyProof.Rows L2
theorem sl_toT (ds : List D) (k : Nat) : fSl (.fz (.tup ds)) (.fz .non) (.fz (.int (k : Nat))) = some (.fz (.tup (ds.take k))) := by
  show some (S.fz (.tup (GB.cutD ds none (some (k : Int))))) = _
  rw [cut_toD]
theorem sl_fromT (ds : List D) (k : Nat) : fSl (.fz (.tup ds)) (.fz (.int (k : Nat))) (.fz .non) = some (.fz (.tup (ds.drop k))) := by
  show some (S.fz (.tup (GB.cutD ds (some (k : Int)) none))) = _
  rw [cut_fromD]
theorem addT {a b : List D} (h : a.length + b.length ≤ 16777216) : fAdd (.fz (.tup a)) (.fz (.tup b)) = some (.fz (.tup (a ++ b))) := by
  show (if a.isEmpty then some (S.fz (.tup b)) else if big (a.length + b.length) then some (.fz (.tup (a ++ b))) else none) = _
  cases a with
  | nil => rfl
  | cons x a => rw [if_neg (by simp), if_pos (big_of h)]
/-- shallow and short, as it is shown -/
def rok (d : D) : Prop := d.leaf = true ∧ d.py.depth ≤ 1 ∧ d.py.weight ≤ 250
theorem rok_lf {d : D} (h : lf d) : rok d := by
  obtain ⟨h1, h2, h3⟩ := lf_spec h
  exact ⟨h1, by omega, by omega⟩
theorem rok_tup1 {d : D} (h : lf d) : rok (.tup [d]) := by
  obtain ⟨h1, h2, h3⟩ := lf_spec h
  refine ⟨?_, ?_, ?_⟩
  · show leafAll _ = true
    rw [leafAll, h1]; rfl
  · rw [D.py, PyData.depth, pyAll, pyAll, PyData.depthAll, PyData.depthAll, h2]; decide
  · rw [D.py, PyData.weight, pyAll, pyAll, PyData.weightAll, PyData.weightAll]; omega
theorem rok_lst1 {d : D} (h : lf d) : rok (.lst [d]) := by
  obtain ⟨h1, h2, h3⟩ := lf_spec h
  refine ⟨?_, ?_, ?_⟩
  · show leafAll _ = true
    rw [leafAll, h1]; rfl
  · rw [D.py, PyData.depth, pyAll, pyAll, PyData.depthAll, PyData.depthAll, h2]; decide
  · rw [D.py, PyData.weight, pyAll, pyAll, PyData.weightAll, PyData.weightAll]; omega
theorem reprOk_rok {d : D} (h : rok d) : reprOk d = true := reprOk_of h.1 (by have := h.2.1; omega) (by have := h.2.2; omega)
theorem reprOk_rtup {ds : List D} (h : ∀ d ∈ ds, rok d) (hl : ds.length ≤ 30) : reprOk (.tup ds) = true := by
  refine reprOk_of ?_ ?_ ?_
  · show leafAll _ = true
    rw [leafAll_iff]
    exact fun d hd => (h d hd).1
  · rw [D.py, PyData.depth]
    have := depthAll_le (B := 1) ds fun d hd => (h d hd).2.1
    omega
  · rw [D.py, PyData.weight]
    have := weightAll_le (B := 250) ds fun d hd => (h d hd).2.2
    have : ds.length * 251 ≤ 30 * 251 := Nat.mul_le_mul hl (Nat.le_refl _)
    omega
theorem reprOk_rlst {ds : List D} (h : ∀ d ∈ ds, rok d) (hl : ds.length ≤ 30) : reprOk (.lst ds) = true := by
  refine reprOk_of ?_ ?_ ?_
  · show leafAll _ = true
    rw [leafAll_iff]
    exact fun d hd => (h d hd).1
  · rw [D.py, PyData.depth]
    have := depthAll_le (B := 1) ds fun d hd => (h d hd).2.1
    omega
  · rw [D.py, PyData.weight]
    have := weightAll_le (B := 250) ds fun d hd => (h d hd).2.2
    have : ds.length * 251 ≤ 30 * 251 := Nat.mul_le_mul hl (Nat.le_refl _)
    omega
/-- a walk that goes on while things are as asked, and hands back at the first that is not -/
theorem forL_all {fg : D → Rho → Option Rho} {f : Rho → Fl} {P : Rho → Prop} {p : D → Bool} {v : S} : ∀ {ds : List D}, (∀ d ∈ ds, ∀ r, P r → ∃ r1, fg d r = some r1 ∧ ∃ r2, P r2 ∧ f r1 = if p d then .nx r2 else .rt v r2) → ∀ r, P r → ∃ r2, P r2 ∧ forL fg f ds r = if ds.all p then .nx r2 else .rt v r2
  | [], _, r, h => ⟨r, h, rfl⟩
  | d :: ds, hs, r, h => by
    obtain ⟨r1, g1, r2, h2, g2⟩ := hs d (List.mem_cons_self ..) r h
    cases c : p d with
    | false =>
      rw [c] at g2
      refine ⟨r2, h2, ?_⟩
      rw [forL, g1, List.all_cons, c]
      dsimp only
      rw [g2]; rfl
    | true =>
      rw [c] at g2
      obtain ⟨r3, h3, g3⟩ := forL_all (fun d hd => hs d (List.mem_cons_of_mem _ hd)) r2 h2
      refine ⟨r3, h3, ?_⟩
      rw [forL, g1, List.all_cons, c, Bool.true_and, ← g3]
      dsimp only
      rw [g2]; rfl
theorem repr_bl (b : Bool) : fRepr (.fz (.bl b)) = some (.fz (.str (shownL (.bl b)))) := repr_tree rfl (reprOk_lf lf_b)
/-- what is a map of so many letters -/
def mapW (m : Nat) (e : D) : Bool := wordD m e && match e with | .str w => tidy w | _ => false
def mapOk (m : Nat) : D → Bool
  | .tup ds => decide (ds.length = m) && ds.all (mapW m)
  | _ => false
theorem wordD_W' {m : Nat} (hm : m ≤ 6) {w : List Nat} (h : wordD m (.str w) = true) : W w := wordD_W hm h
end GB

/-! own exceptions: made, raised -/
namespace GB
open PySem PySem.Spec PyProof.Rows L2
/-! ### the base's __init__ -/
/-- what is asked of the class whose __init__ is called -/
structure BaseC (K : PySem.W.Frag) (mg : Str → Option Value) (B : Str) : Prop where
  ex : ∃ R : Addr, mg B = some (.ref R) ∧ PySem.W.readsIn K R (.type "type") = true ∧ PySem.W.specialIn K (.ref R) "__getattribute__" = some (some (.builtin "type.__getattribute__")) ∧
    PySem.W.findCls K (.ref R) (.type "type") "__init__" = some (.val (.builtin "ValueError.__init__"))
section
variable {X : Cx} {e : Expr} {es : List Expr} {ta : TA} {p1 p2 pos : Pos} {B : Str}
theorem pe_ownInit {pl : Sem Bool} (b : BaseC X.K X.mg B) (ha : PA X (e :: es) ta) (hg : Gl X B := by rfl) (hdb : (B == ("__debug__" : Str)) = false := by decide)
    (hc : eval (.Call (.Attribute (.Name B p1) "__init__" p2) (e :: es) [] pos) X.env = (do
      let ov ← eval (.Name B p1) X.env
      standAt p2.atName
      let (f, first) ← holding [ov] (getMethod ov "__init__" pl)
      callWith pos f first (backTo pos (starEach (e :: es) X.env)) (backToKw pos (keywordEach [] X.env))) := by rfl)
    (he : starEach (e :: es) X.env = (false, eval e X.env) :: starEach es X.env := by rfl) (hpl : (backTo pos (starEach es X.env)).any (·.1) = false := by rfl) :
    PE X (.Call (.Attribute (.Name B p1) "__init__" p2) (e :: es) [] pos) (tVeI X.K ta) := by
  obtain ⟨R, hm, hr, hs, hf⟩ := b.ex
  refine ⟨fun pins s σ H Q I h => ?_⟩
  refine PySem.W.methodCall_KW (ld_glob I hg hm ?_ hdb) hc
  refine PySem.W.method_cls I.kIn hs (PySem.W.cls_value I.kIn hr hf (by decide +kernel) ?_)
  show wpAny _ _ (callWith pos (Value.builtin "ValueError.__init__") [] (backTo pos (starEach (e :: es) X.env)) []) _ _ _
  refine PyProof.Rows.callWith_method1 (thn (ha.run pos pins _ σ H _ (I.tok _) h) fun us s1 ⟨vs, H1, I1, r1, a, C, ws, ev, hl, T, ea, q⟩ => ?_) he hpl
  subst ev
  cases r1 with
  | @cons _ u0 _ ur ra rw' =>
    obtain rfl : u0 = Value.ref a := ra
    have hlen : ur.length ≤ sizeLine := by
      rw [← Paired.length rw', sizeLine_eq]
      omega
    exact oinit_ok T I1 ea hlen fun s' J => ⟨.non, H1, J, rfl, q⟩
end
/-! ### the fields stored -/
structure XDone (H H2 : Hp) (a C d : Addr) (fs : List (Str × V)) : Prop where
  keep : ∀ b o, b ≠ a → b ≠ d → H b = some o → H2 b = some o
  obj : H2 a = some (exo a C (some d))
  dic : H2 d = some (exd d fs)
def tAsgs (K : PySem.W.Frag) : List (Str × Nat) → TS
  | [] => tNext
  | (f, i) :: l => tSeq (tOst K f (tVar 0) (tVar i)) (tAsgs K l)
/-- the values that are stored -/
inductive Vals' (σ : St) : List (Str × Nat) → List (Str × V) → Prop
  | nil : Vals' σ [] []
  | cons {f : Str} {i : Nat} {v : V} {l : List (Str × Nat)} {m : List (Str × V)} : σ[i]? = some (some v) → Vals' σ l m → Vals' σ ((f, i) :: l) ((f, v) :: m)
theorem asgs_more {K : PySem.W.Frag} {a C d : Addr} {σ : St} {D : Ends} (T : OexC K C) (h0 : σ[0]? = some (some (V.ref a))) (hda : d ≠ a) :
    ∀ (l : List (Str × Nat)) (m fs : List (Str × V)) (H : Hp), Vals' σ l m → (∀ p ∈ l, PySem.W.findIn K (.ref C) p.1 = some none) → fs.length + l.length ≤ 900 → H a = some (exo a C (some d)) → H d = some (exd d fs) →
      (∀ H2, XDone H H2 a C d (m.reverse ++ fs) → D.nx σ H2) → tAsgs K l D σ H
  | _, _, fs, H, .nil, _, _, ea, ed, k => k H ⟨fun _ _ _ _ h => h, ea, ed⟩
  | (f, i) :: l, (_, v) :: m, fs, H, .cons hi t, hn, hl, ea, ed, k => by
    refine ⟨v, hi, .ref a, h0, a, C, rfl, T, hn (f, i) (List.mem_cons_self ..), .inr ⟨d, fs, ea, ed, by simp at hl; omega, ?_⟩⟩
    refine asgs_more T h0 hda l m ((f, v) :: fs) _ t (fun p hp => hn p (List.mem_cons_of_mem _ hp)) (by simp at hl ⊢; omega) (by rw [upd_ne (Ne.symm hda)]; exact ea) upd_same fun H2 x => k H2 ⟨fun b o n1 n2 h => x.keep b o n1 n2 (by rw [upd_ne n2]; exact h), x.obj, ?_⟩
    have := x.dic
    rw [this, List.reverse_cons, List.append_assoc]; rfl
theorem asgs_all {K : PySem.W.Frag} {a C : Addr} {σ : St} {D : Ends} (T : OexC K C) (h0 : σ[0]? = some (some (V.ref a))) :
    ∀ (l : List (Str × Nat)) (m : List (Str × V)) (H : Hp), l ≠ [] → Vals' σ l m → (∀ p ∈ l, PySem.W.findIn K (.ref C) p.1 = some none) → l.length ≤ 900 → H a = some (exo a C none) →
      (∀ d H2, H d = none → d ≠ a → XDone H H2 a C d m.reverse → D.nx σ H2) → tAsgs K l D σ H
  | (f, i) :: l, (_, v) :: m, H, _, .cons hi t, hn, hl, ea, k => by
    refine ⟨v, hi, .ref a, h0, a, C, rfl, T, hn (f, i) (List.mem_cons_self ..), .inl ⟨ea, fun dx hd hda => ?_⟩⟩
    have kp : ∀ b o, b ≠ a → b ≠ dx → H b = some o → upd (upd H dx (exd dx [(f, v)])) a (exo a C (some dx)) b = some o := fun b o n1 n2 h => by rw [upd_ne n1, upd_ne n2]; exact h
    refine asgs_more T h0 hda l m [(f, v)] _ t (fun p hp => hn p (List.mem_cons_of_mem _ hp)) (by simp at hl ⊢; omega) upd_same (by rw [upd_ne hda]; exact upd_same) fun H2 x => k dx H2 hd hda ⟨fun b o n1 n2 h => x.keep b o n1 n2 (kp b o n1 n2 h), x.obj, ?_⟩
    have := x.dic
    rw [this, List.reverse_cons]
/-! ### __init__ -/
def initR (ds : List D) : Rho := none :: ds.map fun d => some (.fz d)
def spInit (K : PySem.W.Frag) (fields : List Str) (fm : Rho → Rs Opd) : Sp := fun vs H Q _ => ∃ (a C : Addr) (ws : List V) (ds : List D) (W : Addr → Prop),
  vs = .ref a :: ws ∧ ws.length = fields.length ∧ OexC K C ∧ (∀ f ∈ fields, PySem.W.findIn K (.ref C) f = some none) ∧ H a = some (exo a C none) ∧ (∀ b, W b → Lv H b) ∧ Rps K W H ws ds ∧ (∃ o r, fm (initR ds) = .ok o r) ∧
  ∀ d H2, H d = none → d ≠ a → XDone H H2 a C d (fields.zip ws).reverse → Q .non H2
def fieldsAt (fields : List Str) : List (Str × Nat) := fields.zip ((List.range fields.length).map (· + 1))
theorem zip_fst_mem {α β : Type} : ∀ (xs : List α) (ys : List β) (p : α × β), p ∈ xs.zip ys → p.1 ∈ xs
  | [], _, _, h => by simp at h
  | _ :: _, [], _, h => by simp at h
  | x :: xs, y :: ys, p, h => by
    rw [List.zip_cons_cons] at h
    rcases List.mem_cons.mp h with rfl | h
    · exact List.mem_cons_self ..
    · exact List.mem_cons_of_mem _ (zip_fst_mem xs ys p h)
theorem vals_zip {σ : St} : ∀ (fields : List Str) (ws : List V) (k : Nat), fields.length = ws.length → (∀ (i : Nat) (v : V), ws[i]? = some v → σ[k + i]? = some (some v)) → Vals' σ (fields.zip ((List.range' k fields.length))) (fields.zip ws)
  | [], [], _, _, _ => .nil
  | f :: fields, w :: ws, k, hl, h => by
    rw [List.length_cons, List.range'_succ, List.zip_cons_cons, List.zip_cons_cons]
    refine .cons (by simpa using h 0 w rfl) (vals_zip fields ws (k + 1) (by simpa using hl) fun i v e => ?_)
    have := h (i + 1) v (by simpa using e)
    rw [← this]; congr 1; omega
  | [], _ :: _, _, h, _ => by simp at h
  | _ :: _, [], _, h, _ => by simp at h
/-- THE RULE for an own exception's __init__: the message by its function, then the fields -/
theorem init_ok {P : Program} {w : World} {K : PySem.W.Frag} {mg : Str → Option Value} {base : Heap} {qual : Str} {st : Stmt} {fI : Addr} {fd : FuncData} {N fields : List Str} {fm : Rho → Rs Opd} (F : L2.Fun K "__init__" qual st fI fd) (Sc : FnScope N N (defScope st)) (hN : N.length = fields.length + 1) (hf : fields ≠ []) (hfl : fields.length ≤ 900)
    (hb : ∀ (cdv : Value) (A : Around) (l : List Env) (t : Shared) (H : Hp) (E : XK), PSs (bodyCx P w K mg base N qual st fI cdv A l t H E) (defBody st) (tSeq (tDrop (tVeI K (tCons (tVar 0) (tCons (tE (bodyCt K mg E) fm) tNil)))) (tAsgs K (fields.zip (List.range' 1 fields.length))))) :
    FnOk P w K mg base (L2.CX P w) 1 fI fd N (spInit K fields fm) := by
  refine F.okX (k := 0) Sc (fun vs H Q E h => ?_) (fun cdv A l t H vs Q E hr h => ⟨_, hb cdv A l t H E, ?_⟩)
  · obtain ⟨a, C, ws, ds, W, rfl, hl, _⟩ := h
    rw [List.length_cons, hl, hN]
  · obtain ⟨a, C, ws, ds, W, rfl, hl, T, hn, ea, lv, rps, ⟨o, ro, hm⟩, k⟩ := h
    have es : L2.start N (V.ref a :: ws) = some (V.ref a) :: ws.map some := by
      unfold L2.start
      rw [hN, List.length_cons, hl, Nat.sub_self]
      simp
    rw [es]
    have noOwn : ∀ b, ¬ Own (some (V.ref a) :: ws.map some) (initR ds) b := by
      rintro b ⟨i, s, h1, h2, _⟩
      match i, h1 with
      | 0, h1 => cases h1
      | i + 1, h1 =>
        simp only [initR, List.getElem?_cons_succ, List.getElem?_map, Option.map_eq_some_iff] at h1
        obtain ⟨d, _, e⟩ := h1
        cases e; cases h2
    have wn : Wn W (some (V.ref a) :: ws.map some) (initR ds) = W := by
      funext b
      exact propext ⟨fun z => z.elim (fun z => (noOwn b z).elim) id, .inr⟩
    have sit : Sit (bodyCt K mg E) W H (some (V.ref a) :: ws.map some) (initR ds) := by
      refine ⟨by simp [initR, rps.len], fun i s h => ?_, fun i j s u v h1 q1 => ?_, fun b h => (noOwn b h).elim, lv⟩
      · match i, h with
        | 0, h => cases h
        | i + 1, h =>
          simp only [initR, List.getElem?_cons_succ, List.getElem?_map, Option.map_eq_some_iff] at h
          obtain ⟨d, hd, e⟩ := h
          cases e
          rw [wn]
          have key : ∀ (i : Nat) (ws : List V) (ds : List D), Rps K W H ws ds → ds[i]? = some d → ∃ v, ws[i]? = some v ∧ Rp K W H v d := by
            intro i
            induction i with
            | zero => intro ws ds r hd; cases r with | nil => cases hd | cons x t => cases hd; exact ⟨_, rfl, x⟩
            | succ i ih => intro ws ds r hd; cases r with | nil => cases hd | cons x t => exact ih _ _ t (by simpa using hd)
          obtain ⟨v, hv, x⟩ := key i ws ds rps hd
          exact ⟨v, by simp [hv], .fz x⟩
      · match i, h1 with
        | 0, h1 => cases h1
        | i + 1, h1 =>
          simp only [initR, List.getElem?_cons_succ, List.getElem?_map, Option.map_eq_some_iff] at h1
          obtain ⟨d, _, e⟩ := h1
          cases e; cases q1
    refine ⟨V.ref a, rfl, W, initR ds, sit, ?_⟩
    rw [hm]
    intro v H1 U1 s1 a1 p1 o1 n1
    refine ⟨a, C, [v], rfl, by simp, T, a1.keep a _ ea (noOwn a), ?_⟩
    refine asgs_all T rfl _ (fields.zip ws) H1 (fun z => ?_) (vals_zip fields ws 1 hl.symm fun i v e => by rw [Nat.add_comm]; simp [e]) (fun p hp => hn _ (zip_fst_mem _ _ _ hp)) (by rw [List.length_zip, List.length_range']; omega) (a1.keep a _ ea (noOwn a)) fun d H2 hd hda x => ?_
    · have z := congrArg List.length z
      rw [List.length_zip, List.length_range', Nat.min_self] at z
      exact hf (List.length_eq_zero_iff.mp z)
    · exact k d H2 (a1.back hd) hda ⟨fun b o n1 n2 h => x.keep b o n1 n2 (a1.keep b o h (noOwn b)), x.obj, x.dic⟩
end GB

/-! raise C(e, ..); str(x) -/
namespace GB
open PySem PySem.Spec PyProof.Rows L2
def mkX (fields : List Str) (fm : Rho → Rs Opd) (ds : List D) : Option (List (Str × D)) :=
  if ds.length = fields.length then (match fm (initR ds) with | .ok _ _ => some (fields.zip ds).reverse | _ => none) else none
def fRaise (x : Str) (mk : List D → Option (List (Str × D))) (fa : Rho → Rs (List Opd)) : Rho → Fl := fun r => match fa r with
  | .ok os r1 => (match frzAll os r1 with
    | some (ds, r2) => if os.length ≤ 1000 then (match mk ds with | some fs => .ex x fs r2 | none => .st) else .st
    | none => .st)
  | .ex c fs r1 => .ex c fs r1
  | .st => .st
/-- what is needed of an own class of exceptions -/
structure XCls (P : Program) (w : World) (K : PySem.W.Frag) (mg : Str → Option Value) (base : Heap) (x : Str) (fields : List Str) (fm : Rho → Rs Opd) : Prop where
  ex : ∃ (C fI : Addr) (fd : FuncData), mg x = some (.ref C) ∧ OexC K C ∧ PySem.W.findIn K (.ref C) "__init__" = some (some (.ref fI)) ∧ PySem.W.typeIn K (.ref fI) = some (.type "function") ∧
    (∀ f ∈ fields, PySem.W.findIn K (.ref C) f = some none) ∧ FnOk P w K mg base (L2.CX P w) 1 fI fd ("self" :: fields) (spInit K fields fm) ∧ Binds K fd ("self" :: fields) []
theorem paired_app {α β : Type} {F : α → β → Prop} : ∀ {xs : List α} {ys : List β} {xs' : List α} {ys' : List β}, Paired F xs ys → Paired F xs' ys' → Paired F (xs ++ xs') (ys ++ ys')
  | _, _, _, _, .nil, k => k
  | _, _, _, _, .cons h t, k => .cons h (paired_app t k)
theorem paired_rev {α β : Type} {F : α → β → Prop} : ∀ {xs : List α} {ys : List β}, Paired F xs ys → Paired F xs.reverse ys.reverse
  | _, _, .nil => .nil
  | _, _, .cons h t => by rw [List.reverse_cons, List.reverse_cons]; exact paired_app (paired_rev t) (.cons h .nil)
theorem kr_zip {K : PySem.W.Frag} {W : Addr → Prop} {H : Hp} : ∀ (fields : List Str) {vs : List V} {ds : List D}, Rps K W H vs ds → KR K W H (fields.zip vs) (fields.zip ds)
  | [], _, _, _ => .nil
  | _ :: _, _, _, .nil => .nil
  | f :: fields, _, _, .cons x t => .cons ⟨rfl, x⟩ (kr_zip fields t)
section
variable {X : Cx} {C : Ct} {e : Expr} {es : List Expr} {fa : Rho → Rs (List Opd)} {x : Str} {fields : List Str} {fm : Rho → Rs Opd} {k : Nat} {p pos pos2 : Pos}
theorem gs_raise (c : XCls X.prog X.w X.K X.mg X.base x fields fm) (hc : X.calm = true) (hr : Room k X.A) (hk : 2 ≤ k) (tk : Takes X C.W) (ha : GA X C (e :: es) fa) (hK : C.K = X.K := by rfl) (hM : C.mg = X.mg := by rfl) (hg : Gl X x := by rfl) (hdb : (x == ("__debug__" : Str)) = false := by decide)
    (he : starEach (e :: es) X.env = (false, eval e X.env) :: starEach es X.env := by rfl) (hpl : (backTo pos (starEach es X.env)).any (·.1) = false := by rfl) :
    GS X C (.Raise (some (.Call (.Name x p) (e :: es) [] pos)) none pos2) (fRaise x (mkX fields fm) fa) := by
  obtain ⟨CA, fI, fd, hm, T, iC, tI, hn, F1, hb⟩ := c.ex
  refine weakS (ps_raise hc tk (pmk_oex (CX := L2.CX X.prog X.w) T iC tI F1 (hr.mono hk) hb (dvs := []) .nil passL hg hm ha hdb he hpl)) fun D σ H h => ?_
  obtain ⟨U, r, s, h⟩ := h
  refine ⟨U, r, s, ?_⟩
  unfold fRaise at h
  cases e : fa r with
  | st => rw [e] at h; exact h
  | ex c fs r1 => rw [e] at h; exact h
  | ok os r1 =>
    rw [e] at h
    intro vs H1 U1 s1 a1 p1 k1 n1
    cases e2 : frzAll os r1 with
    | none => simp only [e2] at h; exact (show False from h).elim
    | some q =>
      obtain ⟨ds, r2⟩ := q
      simp only [e2] at h
      by_cases hl : os.length ≤ 1000
      · rw [if_pos hl] at h
        cases e3 : mkX fields fm ds with
        | none => simp only [e3] at h; exact (show False from h).elim
        | some fs =>
          simp only [e3] at h
          have h : XWant C U H σ r x fs r2 := h
          obtain ⟨U2, s2, a2, u2, k2⟩ := ops_drop s s1 a1 k1 n1
          obtain ⟨s3, a3, p3, x3⟩ := frzAll_ok s2 k2 e2
          have fin : ds.length = fields.length ∧ (∃ o r, fm (initR ds) = .ok o r) ∧ fs = (fields.zip ds).reverse := by
            unfold mkX at e3
            by_cases q : ds.length = fields.length
            · rw [if_pos q] at e3
              cases e4 : fm (initR ds) with
              | ok o r => simp only [e4] at e3; cases e3; exact ⟨q, ⟨_, _, rfl⟩, rfl⟩
              | ex c fs r => simp only [e4] at e3; cases e3
              | st => simp only [e4] at e3; cases e3
            · rw [if_neg q] at e3; cases e3
          obtain ⟨q1, q2, rfl⟩ := fin
          refine ⟨by rw [← Paired.length k1]; exact hl, fun a ha => ?_⟩
          rw [List.append_nil]
          have kp : ∀ b o, H1 b = some o → upd H1 a (exo a CA none) b = some o := upd_keep ha
          have x3' : Rps X.K (Wn U2 σ r2) H1 vs ds := by rw [← hK]; exact x3
          refine ⟨a, CA, vs, ds, Wn U2 σ r2, rfl, by rw [x3.len, q1], T, hn, upd_same, fun b hb => (s3.wlv b hb).grow kp, x3'.mono (monoKeep s3.wlv kp), q2, fun d H2 hd hda xd => ?_⟩
          have hd1 : H1 d = none := by rw [upd_ne hda] at hd; exact hd
          refine ⟨rfl, d, _, xd.obj, xd.dic, hd1, ?_⟩
          have kp2 : ∀ b o, H1 b = some o → upd (del H2 a) d (.xd (fields.zip vs).reverse) b = some o := fun b o hb => by
            have n1 : b ≠ a := ne_of_none hb ha
            have n2 : b ≠ d := ne_of_none hb hd1
            rw [upd_ne n2, del_ne n1]
            exact xd.keep b o n1 n2 (kp b o hb)
          obtain ⟨s4, a4⟩ := s3.ext kp2 (fun _ h => h) (fun _ h => .inl h) fun b hb => (s3.uok b hb).grow kp2
          refine h _ _ σ _ U2 s4 ((a2.trans a3).trans a4) ⟨CA, d, _, rfl, by rw [hM]; exact hm, rfl, upd_same, ?_⟩
          exact paired_rev (kr_zip fields (x3.mono (monoKeep s3.wlv kp2)))
      · rw [if_neg hl] at h; exact (show False from h).elim
/-! ### str(x) -/
def intTxt (i : Int) : List Nat := (Str.ofString (toString i)).cps.toList
def fStr : S → Option S
  | .fz (.int i) => if i.natAbs.log2 < 1920 then some (.fz (.str (intTxt i))) else none
  | .fz (.str l) => some (.fz (.str l))
  | _ => none
def rStr : List V → Hp → VK → Prop := fun xs H Q => (∃ i, xs = [.int i] ∧ i.natAbs.log2 < 1920 ∧ Q (.str (toString i)) H) ∨ (∃ a, xs = [.str a] ∧ Q (.str a) H)
theorem call_strU : CallR X (.type "str") rStr := cr_or call_str_int SkE.call_str_str
theorem pn_str : PN C rStr (p1 fStr) := by
  intro U W H vs ss s Q lv hs hp q
  match ss, hs, hp with
  | [a], .cons xa .nil, hp =>
    cases a with
    | fz a =>
      cases a with
      | int i =>
        have hp : (if i.natAbs.log2 < 1920 then some (S.fz (.str (intTxt i))) else none) = some s := hp
        by_cases z : i.natAbs.log2 < 1920
        · rw [if_pos z] at hp; cases hp
          rw [sr_int xa]
          refine .inl ⟨i, rfl, z, ?_⟩
          have e : (Str.ofString (toString i)) = ⟨(intTxt i).toArray⟩ := toStr _
          rw [e]
          exact q _ _ (.same (.str _))
        · rw [if_neg z] at hp; cases hp
      | str l => cases hp; rw [sr_str xa]; exact .inr ⟨_, rfl, q _ _ (.same (.str _))⟩
      | _ => cases hp
    | _ => cases hp
variable {a : Expr} {fe : Rho → Rs Opd}
theorem x_str1 (hm : X.mg "str" = none) (ha : GE X C a fe) (hg : Gl X "str" := by rfl) (hs : starEach [a] X.env = (false, eval a X.env) :: starEach [] X.env := by rfl) : GE X C (.Call (.Name "str" p) [a] [] pos) (e1 (p1 fStr) fe) :=
  ge_call pn_str (pe_callTy call_strU hg hm PyProof.Rows.boot_str (ga_cons ha ga_nil hs) (he := hs))
end
end GB

/-! try: .. except C as e: .. -/
namespace GB
open PySem PySem.Spec PyProof.Rows L2
open Classical in
/-- the one end that a suite has at all addresses -/
noncomputable def oneF (f : Addr → Addr → Fl) : Fl := if h : ∃ R, ∀ a d, f a d = R then h.choose else .st
theorem oneF_eq {f : Addr → Addr → Fl} {R : Fl} (h : ∀ a d, f a d = R) : oneF f = R := by
  have e : ∃ R, ∀ a d, f a d = R := ⟨R, h⟩
  unfold oneF
  rw [dif_pos e, ← h 0 0]
  exact (e.choose_spec 0 0).symm
@[simp] theorem oneF_const (R : Fl) : oneF (fun _ _ => R) = R := oneF_eq fun _ _ => rfl
theorem oneF_at {f : Addr → Addr → Fl} (h : oneF f ≠ .st) (a d : Addr) : f a d = oneF f := by
  unfold oneF at h ⊢
  by_cases e : ∃ R, ∀ a d, f a d = R
  · rw [dif_pos e] at h ⊢; exact e.choose_spec a d
  · rw [dif_neg e] at h; exact (h rfl).elim
def isEx (r : Rho) (i : Nat) : Bool := match r[i]? with | some (some (.exc _ _ _ _)) => true | _ => false
/-- behind the suite its name is unbound -/
def unx (i : Nat) : Fl → Fl
  | .nx r => if isEx r i then .nx (r.set i none) else .st
  | .rt s r => if isEx r i then .rt s (r.set i none) else .st
  | .bk r => if isEx r i then .bk (r.set i none) else .st
  | .ct r => if isEx r i then .ct (r.set i none) else .st
  | _ => .st
noncomputable def fTry (i : Nat) (catch' : Str → Option Bool) (fb : Rho → Fl) (fh : Addr → Addr → Str → Rho → Fl) : Rho → Fl := fun r => match fb r with
  | .ex c fs r1 => (match catch' c with
    | some true => if free r1 i then oneF (fun a dx => unx i (fh a dx c (r1.set i (some (.exc a dx c fs))))) else .st
    | some false => .ex c fs r1
    | none => .st)
  | z => z
section
variable {C : Ct} {U U' : Addr → Prop} {H H' : Hp} {σ σ' : St} {r r' : Rho} {i : Nat}
theorem isEx_at (h : isEx r i = true) : ∃ a dx c fs, r[i]? = some (some (.exc a dx c fs)) := by
  unfold isEx at h
  split at h
  · exact ⟨_, _, _, _, by assumption⟩
  · cases h
theorem own_unset (h : isEx r' i = true) (a : Addr) : Own (σ'.set i none) (r'.set i none) a ↔ Own σ' r' a := by
  obtain ⟨b, dx, c, fs, e⟩ := isEx_at h
  constructor
  · rintro ⟨j, s, h1, h2, h3⟩
    rcases at_set h1 with ⟨rfl, z⟩ | ⟨n, h1⟩
    · cases z
    · rw [List.getElem?_set_ne (fun z => n z.symm)] at h3
      exact ⟨j, s, h1, h2, h3⟩
  · rintro ⟨j, s, h1, h2, h3⟩
    have n : i ≠ j := fun z => by subst z; rw [e] at h1; cases h1; cases h2
    exact ⟨j, s, by rw [List.getElem?_set_ne n]; exact h1, h2, by rw [List.getElem?_set_ne n]; exact h3⟩
theorem wn_unset (h : isEx r' i = true) : Wn U' (σ'.set i none) (r'.set i none) = Wn U' σ' r' := by
  funext a
  exact propext ⟨fun z => z.imp (own_unset h a).mp id, fun z => z.imp (own_unset h a).mpr id⟩
theorem Sit.unset (s : Sit C U' H' σ' r') (h : isEx r' i = true) : Sit C U' H' (σ'.set i none) (r'.set i none) := by
  refine ⟨by rw [List.length_set, List.length_set]; exact s.len, fun j t e => ?_, fun j k t u v h1 q1 h2 q2 e1 e2 => ?_, fun a z => s.dis a ((own_unset h a).mp z), s.uok⟩
  · rcases at_set e with ⟨rfl, z⟩ | ⟨n, e⟩
    · cases z
    · obtain ⟨v, hv, x⟩ := s.rep j t e
      exact ⟨v, by rw [List.getElem?_set_ne (fun z => n z.symm)]; exact hv, by rw [wn_unset h]; exact x⟩
  · rcases at_set h1 with ⟨rfl, z⟩ | ⟨n1, h1⟩
    · cases z
    · rcases at_set h2 with ⟨rfl, z⟩ | ⟨n2, h2⟩
      · cases z
      · rw [List.getElem?_set_ne (fun z => n1 z.symm)] at e1
        rw [List.getElem?_set_ne (fun z => n2 z.symm)] at e2
        exact s.inj j k t u v h1 q1 h2 q2 e1 e2
theorem Aft.unset (a : Aft U H σ r U' H' σ' r') (h : isEx r' i = true) : Aft U H σ r U' H' (σ'.set i none) (r'.set i none) := by
  obtain ⟨b, dx, c, fs, e⟩ := isEx_at h
  refine ⟨a.sub, a.new, fun b z => a.grow b ((own_unset h b).mp z), a.keep, a.there, fun j s h1 h2 => ?_, fun j s h1 h2 => ?_⟩
  · obtain ⟨s', g1, g2, g3⟩ := a.pin j s h1 h2
    have n : i ≠ j := fun z => by
      subst z
      rw [e] at g1; cases g1
      cases s <;> simp [S.hard] at h2 <;> simp [Sl] at g2
    exact ⟨s', by rw [List.getElem?_set_ne n]; exact g1, g2, by rw [List.getElem?_set_ne n]; exact g3⟩
  · rcases at_set h1 with ⟨rfl, z⟩ | ⟨n, h1⟩
    · cases z
    · obtain ⟨g1, g2⟩ := a.lok j s h1 h2
      exact ⟨g1, by rw [List.getElem?_set_ne (fun z => n z.symm)]; exact g2⟩
theorem OpOk.unset {s : S} {v : V} (k : OpOk C U' H' σ' r' (.val s) v) (h : isEx r' i = true) : OpOk C U' H' (σ'.set i none) (r'.set i none) (.val s) v := by
  obtain ⟨k1, k2, k3⟩ := k
  exact ⟨by rw [wn_unset h]; exact k1, k2, k3⟩
theorem RS.cast (C' : Ct) (hK : C.K = C'.K) {D : Ends} {z : Fl} (h : RS C U H σ r D z) (hx : ∀ c fs r1, z ≠ .ex c fs r1) : RS C' U H σ r D z := by
  cases z with
  | nx r2 => exact fun σ2 H2 U2 s2 a2 => h σ2 H2 U2 (s2.cast hK.symm) a2
  | bk r2 => exact fun σ2 H2 U2 s2 a2 => h σ2 H2 U2 (s2.cast hK.symm) a2
  | ct r2 => exact fun σ2 H2 U2 s2 a2 => h σ2 H2 U2 (s2.cast hK.symm) a2
  | rt s r2 => exact fun v σ2 H2 U2 s2 a2 o n => h v σ2 H2 U2 (s2.cast hK.symm) a2 (by unfold OpOk at o ⊢; rw [hK]; exact o) n
  | ex c fs r2 => exact (hx _ _ _ rfl).elim
  | st => exact h
end
section
variable {X : Cx} {C : Ct} {x n : Str} {cv : Value} {i : Nat} {body suite : List Stmt} {b₀ : Stmt} {np pos pos' : Pos} {catch' : Str → Option Bool} {fb : Rho → Fl} {fh : Addr → Addr → Str → Rho → Fl}
def tsX (C : Ct) (fh : Addr → Addr → Str → Rho → Fl) : Addr → Value → Option Addr → TS := fun a cls d D σ H => ∃ CA dx c, cls = .ref CA ∧ d = some dx ∧ C.mg c = some (.ref CA) ∧ tS C.quiet (fh a dx c) D σ H
theorem gs_try (nd : X.N.Nodup) (hi : X.N[i]? = some n) (hc : Names X x cv) (tk : Takes X C.W)
    (htb : ∀ c b, catch' c = some b → ∃ CA, C.mg c = some (.ref CA) ∧ PySem.W.exmOne X.K (.ref CA) cv = some b)
    (hb : ∀ (W : WX) (pn : List (Addr × Obj)) (xe : Value → Shared → Prop), Takes (X.tr pn xe) W → PassesOwn (model X.prog X.w) X.A X.env xe → GSs (X.tr pn xe) ⟨C.K, C.mg, W⟩ body fb)
    (hsu : ∀ (a : Addr) (oe : Obj) (CA dx : Addr) (c : Str) (pn : List (Addr × Obj)), C.mg c = some (.ref CA) → Zc (.ref CA) (some dx) oe → (∃ vs, oe.data = .fields vs) → GSs (X.suite a ((a, oe) :: pn)) C.quiet (b₀ :: suite) (fh a dx c))
    (hs : X.stack = X.env :: X.outer := by rfl) (hf : X.env.frame = some X.env.locals := by rfl) (hln : X.env.kindOf n = some .local := by rfl) :
    GS X C (.Try body [.ExceptHandler (some (.Name x np)) (some n) (b₀ :: suite) pos'] [] [] pos) (fTry i catch' fb fh) := by
  refine weakS (ps_try_as hs hf nd hi hln hc tk (tb := fun W => tS ⟨C.K, C.mg, W⟩ fb) (ts := tsX C fh) hb (fun a oe cls d pn hz hf => ⟨fun pins s σ H D I q => ?_⟩)) fun D σ H h => ?_
  · obtain ⟨CA, dx, c, rfl, rfl, hm, q⟩ := q
    exact (hsu a oe CA dx c pn hm hz hf).run pins s σ H D I q
  · obtain ⟨U, r, s, h⟩ := h
    refine ⟨U, r, Sit.cast (C := C) (C' := ⟨C.K, C.mg, wAs X.K cv i (tsX C fh) C.W D⟩) rfl s, ?_⟩
    unfold fTry at h
    cases e : fb r with
    | ex c fs r1 =>
      rw [e] at h
      dsimp only at h
      intro cls d σ' H' U' s' a' x
      obtain ⟨CA, dx, fv, rfl, hm, rfl, hd, kr⟩ := x
      show wAs X.K cv i (tsX C fh) C.W D (.ref CA) (some dx) σ' H'
      have hm : C.mg c = some (.ref CA) := hm
      have kr : KR C.K (Wn U' σ' r1) H' fv fs := kr
      have s' : Sit C U' H' σ' r1 := Sit.cast (C := ⟨C.K, C.mg, wAs X.K cv i (tsX C fh) C.W D⟩) (C' := C) rfl s'
      cases ec : catch' c with
      | none => rw [ec] at h; exact (show False from h).elim
      | some b =>
        rw [ec] at h
        obtain ⟨CA', hm', hx⟩ := htb c b ec
        rw [hm] at hm'; cases hm'
        refine ⟨b, hx, fun hb' a ha => ?_, fun hb' => ?_⟩
        · subst hb'
          dsimp only at h
          by_cases hfr : free r1 i = true
          · rw [if_pos hfr] at h
            refine ⟨CA, dx, c, rfl, rfl, hm, ?_⟩
            have op : OpOk C U' H' σ' r1 (.val (.exc a dx c fs)) (.ref a) := ⟨.exc hd kr, (fun p z => nomatch z), rfl⟩
            obtain ⟨U2, s2, a2⟩ := store_aft s' s' Aft.refl hfr op (fun t p z1 z2 z3 => by cases z1; cases z2)
            refine ⟨U2, r1.set i (some (.exc a dx c fs)), Sit.cast (C := C) (C' := C.quiet) rfl s2, ?_⟩
            by_cases hst : oneF (fun a dx => unx i (fh a dx c (r1.set i (some (.exc a dx c fs))))) = .st
            · rw [hst] at h; exact (show False from h).elim
            · have e1 := oneF_at hst a dx
              rw [← e1] at h
              have aa := a'.trans a2
              cases e2 : fh a dx c (r1.set i (some (.exc a dx c fs))) with
              | nx r3 =>
                rw [e2] at h; unfold unx at h; dsimp only at h
                by_cases z : isEx r3 i = true
                · rw [if_pos z] at h
                  exact fun σ3 H3 U3 s3 a3 => h _ _ U3 ((Sit.cast (C := C.quiet) (C' := C) rfl s3).unset z) ((aa.trans a3).unset z)
                · rw [if_neg z] at h; exact (show False from h).elim
              | bk r3 =>
                rw [e2] at h; unfold unx at h; dsimp only at h
                by_cases z : isEx r3 i = true
                · rw [if_pos z] at h
                  exact fun σ3 H3 U3 s3 a3 => h _ _ U3 ((Sit.cast (C := C.quiet) (C' := C) rfl s3).unset z) ((aa.trans a3).unset z)
                · rw [if_neg z] at h; exact (show False from h).elim
              | ct r3 =>
                rw [e2] at h; unfold unx at h; dsimp only at h
                by_cases z : isEx r3 i = true
                · rw [if_pos z] at h
                  exact fun σ3 H3 U3 s3 a3 => h _ _ U3 ((Sit.cast (C := C.quiet) (C' := C) rfl s3).unset z) ((aa.trans a3).unset z)
                · rw [if_neg z] at h; exact (show False from h).elim
              | rt t r3 =>
                rw [e2] at h; unfold unx at h; dsimp only at h
                by_cases z : isEx r3 i = true
                · rw [if_pos z] at h
                  exact fun v σ3 H3 U3 s3 a3 o3 n3 => h v _ _ U3 ((Sit.cast (C := C.quiet) (C' := C) rfl s3).unset z) ((aa.trans a3).unset z) (OpOk.unset (C := C) o3 z) fun p z1 z2 => (n3 p z1 z2).elim (fun q => aa.grow p q) fun q => .inr (aa.back q)
                · rw [if_neg z] at h; exact (show False from h).elim
              | ex c3 fs3 r3 => rw [e2] at h; exact (show False from h).elim
              | st => rw [e2] at h; exact (show False from h).elim
          · rw [if_neg hfr] at h; exact (show False from h).elim
        · subst hb'
          exact (show XWant C U H σ r c fs r1 from h) _ _ σ' H' U' s' a' ⟨CA, dx, fv, rfl, hm, rfl, hd, kr⟩
    | nx r1 => rw [e] at h; exact RS.cast (C := C) ⟨C.K, C.mg, wAs X.K cv i (tsX C fh) C.W D⟩ rfl (show RS C U H σ r D (.nx r1) from h) (fun _ _ _ z => nomatch z)
    | bk r1 => rw [e] at h; exact RS.cast (C := C) ⟨C.K, C.mg, wAs X.K cv i (tsX C fh) C.W D⟩ rfl (show RS C U H σ r D (.bk r1) from h) (fun _ _ _ z => nomatch z)
    | ct r1 => rw [e] at h; exact RS.cast (C := C) ⟨C.K, C.mg, wAs X.K cv i (tsX C fh) C.W D⟩ rfl (show RS C U H σ r D (.ct r1) from h) (fun _ _ _ z => nomatch z)
    | rt t r1 => rw [e] at h; exact RS.cast (C := C) ⟨C.K, C.mg, wAs X.K cv i (tsX C fh) C.W D⟩ rfl (show RS C U H σ r D (.rt t r1) from h) (fun _ _ _ z => nomatch z)
    | st => rw [e] at h; exact (show False from h).elim
end
end GB

/-! the suite: isinstance(e, C), e.f -/
namespace GB
open PySem PySem.Spec PyProof.Rows L2
/-- a class by name -/
structure ClsF (K : PySem.W.Frag) (mg : Str → Option Value) (N : Str) : Prop where
  ex : ∃ A : Addr, mg N = some (.ref A) ∧ PySem.W.isClsIn K A = true ∧ PySem.W.typeIn K (.ref A) = some (.type "type") ∧ PySem.W.subIn K (.ref A) (.type "BaseException") = some true ∧ PySem.W.subIn K (.ref A) (.ref A) = some true
/-- whether a class stands under another -/
structure SubF (K : PySem.W.Frag) (mg : Str → Option Value) (c N : Str) (b : Bool) : Prop where
  ex : ∃ A B : Addr, mg c = some (.ref A) ∧ mg N = some (.ref B) ∧ PySem.W.subIn K (.ref A) (.ref B) = some b
/-- a class whose exceptions are asked -/
structure AskF (K : PySem.W.Frag) (mg : Str → Option Value) (c : Str) : Prop where
  ex : ∃ A : Addr, mg c = some (.ref A) ∧ ExcC K A ∧ PySem.W.subIn K (.ref A) (.type "ValueError") = some true
structure FldF (K : PySem.W.Frag) (mg : Str → Option Value) (c f : Str) : Prop where
  ex : ∃ A : Addr, mg c = some (.ref A) ∧ PySem.W.findIn K (.ref A) f = some none
theorem kit_ref {K : PySem.W.Frag} {A B : Addr} {b : Bool} (h1 : PySem.W.isClsIn K B = true) (h2 : PySem.W.typeIn K (.ref B) = some (.type "type")) (h3 : PySem.W.subIn K (.ref A) (.ref B) = some b) (h4 : PySem.W.subIn K (.ref B) (.ref B) = some true) : PySem.W.kitOne K (.ref A) (.ref B) = some b := by
  unfold PySem.W.kitOne
  by_cases e : (Value.ref A == Value.ref B) = true
  · rw [if_pos e]
    have e := beq_iff_eq.mp e
    rw [e, h4] at h3
    exact h3
  · rw [if_neg e]
    have h1 : (PySem.W.clsIn K B).isSome = true := h1
    show (if ((PySem.W.clsIn K B).isSome && PySem.W.typeIn K (.ref B) == some (.type "type")) = true then PySem.W.subIn K (.ref A) (.ref B) else none) = some b
    rw [h1, h2, if_pos (by simp)]
    exact h3
theorem kit_ve {K : PySem.W.Frag} {A : Addr} (h : PySem.W.subIn K (.ref A) (.type "ValueError") = some true) : PySem.W.kitOne K (.ref A) (.type "ValueError") = some true := by
  unfold PySem.W.kitOne
  rw [if_neg (by simp)]
  show (if PySem.W.kitMeta "ValueError" = true then PySem.W.subIn K (.ref A) (.type "ValueError") else none) = some true
  rw [if_pos (by decide +kernel)]
  exact h
theorem exm_of {K : PySem.W.Frag} {A B : Addr} {b : Bool} (h0 : PySem.W.subIn K (.ref B) (.type "BaseException") = some true) (h1 : PySem.W.isClsIn K B = true) (h2 : PySem.W.typeIn K (.ref B) = some (.type "type")) (h3 : PySem.W.subIn K (.ref A) (.ref B) = some b) : PySem.W.exmOne K (.ref A) (.ref B) = some b := by
  have e1 : (PySem.W.subIn K (.ref B) (.type "BaseException") == some true) = true := by rw [h0] <;> rfl
  have h1 : (PySem.W.clsIn K B).isSome = true := h1
  show (if (PySem.W.subIn K (.ref B) (.type "BaseException") == some true) = true then (if ((PySem.W.clsIn K B).isSome && PySem.W.typeIn K (.ref B) == some (.type "type")) = true then PySem.W.subIn K (.ref A) (.ref B) else none) else none) = some b
  rw [if_pos e1, h1, h2, if_pos (by simp)]
  exact h3
/-- tables by classes -/
def tb (l : List (Str × Bool)) : Str → Option Bool := fun c => l.lookup c
theorem tb_nil {P : Str → Bool → Prop} : ∀ c b, tb [] c = some b → P c b := fun _ _ h => nomatch h
theorem tb_cons {P : Str → Bool → Prop} {l : List (Str × Bool)} {c0 : Str} {b0 : Bool} (h : P c0 b0) (r : ∀ c b, tb l c = some b → P c b) : ∀ c b, tb ((c0, b0) :: l) c = some b → P c b := fun c b e => by
  unfold tb at e
  by_cases q : c = c0
  · subst q
    simp [List.lookup] at e
    subst e; exact h
  · have z : (c == c0) = false := by simpa using q
    simp only [List.lookup, z] at e
    exact r c b e
/-- a class as it is asked for: own, or ValueError -/
structure XTest (K : PySem.W.Frag) (mg : Str → Option Value) (N c : Str) (b : Bool) : Prop where
  ex : ∃ (A : Addr) (v : V) (cv : Value), mg c = some (.ref A) ∧ ExcC K A ∧ (mg N = some cv ∨ (mg N = none ∧ bootBuiltins N = some cv ∧ N ≠ "__name__")) ∧ RelV v cv ∧ ClsV v cv ∧ PySem.W.kitOne K (.ref A) cv = some b
theorem xt_own {K : PySem.W.Frag} {mg : Str → Option Value} {c N : Str} {b : Bool} (a : AskF K mg c) (k : ClsF K mg N) (s : SubF K mg c N b) : XTest K mg N c b := by
  obtain ⟨A, m1, e1, _⟩ := a.ex
  obtain ⟨B, m2, h1, h2, _, h4⟩ := k.ex
  obtain ⟨A', B', m3, m4, h3⟩ := s.ex
  rw [m1] at m3; cases m3
  rw [m2] at m4; cases m4
  exact ⟨A, .ref B, .ref B, m1, e1, .inl m2, rfl, .own B, kit_ref h1 h2 h3 h4⟩
theorem xt_ve {K : PySem.W.Frag} {mg : Str → Option Value} {c : Str} (a : AskF K mg c) (z : mg "ValueError" = none) : XTest K mg "ValueError" c true := by
  obtain ⟨A, m1, e1, h⟩ := a.ex
  exact ⟨A, .ty "ValueError", .type "ValueError", m1, e1, .inr ⟨z, by decide +kernel, by decide⟩, rfl, .ty _, kit_ve h⟩
/-- a tuple of own classes -/
structure XAny (K : PySem.W.Frag) (mg : Str → Option Value) (Ns : List Str) (c : Str) (b : Bool) : Prop where
  ex : ∃ A : Addr, mg c = some (.ref A) ∧ ExcC K A ∧ ∀ us : List Value, Paired (fun N u => mg N = some u) Ns us → PySem.W.kitAny K (.ref A) us = some b
theorem xa_nil {K : PySem.W.Frag} {mg : Str → Option Value} {c : Str} (a : AskF K mg c) : XAny K mg [] c false := by
  obtain ⟨A, m1, e1, _⟩ := a.ex
  exact ⟨A, m1, e1, fun us p => by cases p; rfl⟩
theorem xa_cons {K : PySem.W.Frag} {mg : Str → Option Value} {c N : Str} {Ns : List Str} {b b2 : Bool} (a : AskF K mg c) (k : ClsF K mg N) (s : SubF K mg c N b) (r : XAny K mg Ns c b2) : XAny K mg (N :: Ns) c (b || b2) := by
  obtain ⟨A, m1, e1, _⟩ := a.ex
  obtain ⟨B, m2, h1, h2, _, h4⟩ := k.ex
  obtain ⟨A', B', m3, m4, h3⟩ := s.ex
  rw [m1] at m3; cases m3
  rw [m2] at m4; cases m4
  obtain ⟨A', m5, _, f⟩ := r.ex
  rw [m1] at m5; cases m5
  refine ⟨A, m1, e1, fun us p => ?_⟩
  cases p with
  | cons q t =>
    rw [m2] at q; cases q
    have h := kit_ref h1 h2 h3 h4
    show (match PySem.W.kitOne K (.ref A) (.ref B) with | some true => some true | some false => PySem.W.kitAny K (.ref A) _ | none => none) = some (b || b2)
    rw [h]
    cases b with
    | true => rfl
    | false => exact f _ t
section
variable {X : Cx} {C : Ct} {a CA dx : Addr} {oe : Obj} {pn : List (Addr × Obj)} {c N y f : Str} {Ns : List Str} {i : Nat} {tbl : Str → Option Bool} {p q1 q2 pos : Pos} {cs : List Expr}
/-- what the slot of the caught one must hold -/
def exAt (r : Rho) (i : Nat) (a dx : Addr) (c : Str) : Option (List (Str × D)) := match r[i]? with
  | some (some (.exc a' dx' c' fs)) => if a' = a ∧ dx' = dx ∧ c' = c then some fs else none
  | _ => none
@[simp] theorem s_exAt {r : Rho} {fs : List (Str × D)} : exAt r i a dx c = (match r[i]? with
  | some (some (.exc a' dx' c' fs)) => if a' = a ∧ dx' = dx ∧ c' = c then some fs else none
  | _ => none) := rfl
def fIsE (a dx : Addr) (c : Str) (i : Nat) (tbl : Str → Option Bool) : Rho → Rs Opd := fun r => match exAt r i a dx c, tbl c with
  | some _, some b => .ok (.val (.fz (.bl b))) r
  | _, _ => .st
def fXf (a dx : Addr) (c : Str) (i : Nat) (f : Str) (tbl : Str → Option Bool) : Rho → Rs Opd := fun r => match exAt r i a dx c, tbl c with
  | some fs, some _ => (match fs.lookup f with | some d => .ok (.val (.fz d)) r | none => .st)
  | _, _ => .st
theorem exAt_sit {U : Addr → Prop} {H : Hp} {σ : St} {r : Rho} {fs : List (Str × D)} (s : Sit C U H σ r) (h : exAt r i a dx c = some fs) : σ[i]? = some (some (V.ref a)) ∧ ∃ fv, H dx = some (.xd fv) ∧ KR C.K (Wn U σ r) H fv fs := by
  unfold exAt at h
  split at h
  · rename_i a' dx' c' fs' e
    by_cases q : a' = a ∧ dx' = dx ∧ c' = c
    · rw [if_pos q] at h; cases h
      obtain ⟨rfl, rfl, rfl⟩ := q
      obtain ⟨v, hv, x⟩ := s.rep i _ e
      cases x with
      | exc e x => exact ⟨hv, _, e, x⟩
    · rw [if_neg q] at h; cases h
  · cases h
/-- the object as it is read -/
theorem inst_of {σ : St} {H : Hp} {s : Shared} {pins : List (Addr × Obj)} {fv : List (Str × V)} (I : Inv (X.suite a ((a, oe) :: pn)) pins σ H s) (hz : Zc (.ref CA) (some dx) oe) (hf : ∃ vs, oe.data = .fields vs) (ea : H dx = some (.xd fv)) : ∃ od, PySem.W.InstAt s.heap a oe CA (some od) := by
  obtain ⟨ha, _⟩ := I.pin (a, oe) (List.mem_append_left _ List.mem_cons_self)
  obtain ⟨vs, hd⟩ := hf
  have hx : ObjOk X.prog X.w H s.heap dx (.xd fv) := I.hok dx _ ea
  obtain ⟨mA, hns, hr⟩ := hx
  obtain ⟨od, ho, hl⟩ := lookIn_ns hns
  exact ⟨od, ha, hz.1, by unfold PySem.W.notCls; rw [hd] <;> rfl, by rw [hz.2]; exact ho⟩
theorem stuck {X : Cx} {C : Ct} {e : Expr} {f : Rho → Rs Opd} (h : ∀ r, f r = .st) : GE X C e f := ⟨fun pins s σ H Q I ⟨U, r, st, q⟩ => by rw [h r] at q; exact q.elim⟩
def rIsX (K : PySem.W.Frag) (a dx CA : Addr) : List V → Hp → VK → Prop := fun xs H Q => ∃ (c : V) (cv : Value) (b : Bool) (fv : List (Str × V)), xs = [.ref a, c] ∧ H dx = some (.xd fv) ∧ ClsV c cv ∧ PySem.W.kitOne K (.ref CA) cv = some b ∧ Q (.bl b) H
theorem call_isX (xc : ExcC X.K CA) (hz : Zc (.ref CA) (some dx) oe) (hf : ∃ vs, oe.data = .fields vs) : CallR (X.suite a ((a, oe) :: pn)) (.builtin "isinstance") (rIsX X.K a dx CA) := by
  intro pins s σ H xs us Q I r h
  obtain ⟨c, cv, b, fv, rfl, ea, hcv, e, q⟩ := h
  obtain ⟨u1, u2, rfl, r1, r2⟩ := vals2 r
  cases (show u1 = Value.ref a from r1)
  have e2 := hcv.eq r2
  subst e2
  obtain ⟨od, J⟩ := inst_of I hz hf ea
  exact PySem.W.kia_one (PySem.W.kitx_exc (PySem.W.any_some xc.hd |>.elim fun cd h => by rw [h.1]; rfl) xc.hg xc.hk xc.hs xc.ha xc.hn xc.ht xc.hm) I.kIn J e (fun z => nomatch z) fun tk => ⟨.bl b, H, I.kept (t' := tk) fun _ _ z => z, rfl, q⟩
def rIsXT (K : PySem.W.Frag) (a dx CA : Addr) : List V → Hp → VK → Prop := fun xs H Q => ∃ (tp : Addr) (cs : List V) (us : List Value) (b : Bool) (fv : List (Str × V)), xs = [.ref a, .ref tp] ∧ H dx = some (.xd fv) ∧ H tp = some (.tup cs) ∧ Paired ClsV cs us ∧ PySem.W.kitAny K (.ref CA) us = some b ∧ Q (.bl b) H
theorem call_isXT (xc : ExcC X.K CA) (hz : Zc (.ref CA) (some dx) oe) (hf : ∃ vs, oe.data = .fields vs) : CallR (X.suite a ((a, oe) :: pn)) (.builtin "isinstance") (rIsXT X.K a dx CA) := by
  intro pins s σ H xs us Q I r h
  obtain ⟨tp, cs, ws, b, fv, rfl, ea, hT, k, e, q⟩ := h
  obtain ⟨u1, u2, rfl, r1, r2⟩ := vals2 r
  cases (show u1 = Value.ref a from r1)
  cases (show u2 = Value.ref tp from r2)
  obtain ⟨od, J⟩ := inst_of I hz hf ea
  obtain ⟨_, its, rv, o, h1, h2, n, h3⟩ := (show ObjOk X.prog X.w H s.heap tp (.tup cs) from I.hok tp _ hT)
  have e3 := ClsV.all k rv
  subst e3
  obtain ⟨oc, od', dt, sl⟩ := o
  simp only at h2 h3
  subst h2 h3
  exact PySem.W.kia_tup (PySem.W.kitx_exc (PySem.W.any_some xc.hd |>.elim fun cd h => by rw [h.1]; rfl) xc.hg xc.hk xc.hs xc.ha xc.hn xc.ht xc.hm) I.kIn J h1 e (fun z => nomatch z) fun tk => ⟨.bl b, H, I.kept (t' := tk) fun _ _ z => z, rfl, q⟩
/-- isinstance(e, N) -/
theorem x_isE (hm : C.mg c = some (.ref CA)) (hz : Zc (.ref CA) (some dx) oe) (hf : ∃ vs, oe.data = .fields vs) (ht : ∀ c b, tbl c = some b → XTest X.K X.mg N c b) (hi : X.mg "isinstance" = none) (hy : X.N[i]? = some y) (hv : Vis X.env.scope y) (hK : C.K = X.K := by rfl) (hM : C.mg = X.mg := by rfl)
    (hg : Gl X "isinstance" := by rfl) (hgN : Gl X N := by rfl) (hd : (y == ("__debug__" : Str)) = false := by decide) (hcd : (y == ("__classdict__" : Str)) = false := by decide) (hdN : (N == ("__debug__" : Str)) = false := by decide)
    (h1 : starEach [.Name y q1, .Name N q2] X.env = (false, eval (.Name y q1) X.env) :: starEach [.Name N q2] X.env := by rfl) (h2 : starEach [.Name N q2] X.env = (false, eval (.Name N q2) X.env) :: starEach [] X.env := by rfl) (hpl : (backTo pos (starEach [.Name N q2] X.env)).any (·.1) = false := by rfl) :
    GE (X.suite a ((a, oe) :: pn)) C.quiet (.Call (.Name "isinstance" p) [.Name y q1, .Name N q2] [] pos) (fIsE a dx c i tbl) := by
  cases e : tbl c with
  | none => exact stuck fun r => by unfold fIsE; rw [e]; cases exAt r i a dx c <;> rfl
  | some b =>
    obtain ⟨A, v, cv, m1, xc, hN, rv, cl, kit⟩ := (ht c b e).ex
    rw [hM] at hm
    rw [hm] at m1; cases m1
    have pN : PE (X.suite a ((a, oe) :: pn)) (.Name N q2) (tC v) := by
      rcases hN with hN | ⟨hN, hb, hn⟩
      · exact pe_glob hgN hN rv hdN
      · exact pe_bltn hgN hN hb rv hn hdN
    refine weakE (pe_callB (pos := pos) (p := p) (call_isX xc hz hf) hg hi PyProof.Rows.boot_isinstance (pa_cons (pe_var hy hv hd hcd) (pa_cons pN pa_nil h2) h1) (he := h1) (hpl := hpl)) fun σ H Q h => ?_
    obtain ⟨U, r, s, h⟩ := h
    unfold fIsE at h
    rw [e] at h
    cases ex : exAt r i a dx c with
    | none => rw [ex] at h; exact (show False from h).elim
    | some fs =>
      rw [ex] at h
      obtain ⟨g1, fv, g2, g3⟩ := exAt_sit s ex
      exact ⟨_, g1, v, cv, b, fv, rfl, g2, cl, kit, h _ H U s Aft.refl Per.refl ⟨.fz (.bl b), (fun p z => nomatch z), rfl⟩ fun _ _ z z2 => by cases z; cases z2⟩
def tCs (vs : List V) : TA := fun _ H Q => Q vs H
/-- names of own classes -/
structure PCs (X : Cx) (cs : List Expr) (Ns : List Str) : Prop where
  ex : ∃ (vs : List V) (us : List Value), PA X cs (tCs vs) ∧ Paired ClsV vs us ∧ Paired (fun N u => X.mg N = some u) Ns us ∧ vs.length = cs.length
theorem pcs_nil : PCs X [] [] := ⟨[], [], pa_nil, .nil, .nil, rfl⟩
theorem pcs_cons (k : ClsF X.K X.mg N) (r : PCs X cs Ns) (hgN : Gl X N := by rfl) (hdN : (N == ("__debug__" : Str)) = false := by decide) (h2 : starEach (.Name N q2 :: cs) X.env = (false, eval (.Name N q2) X.env) :: starEach cs X.env := by rfl) : PCs X (.Name N q2 :: cs) (N :: Ns) := by
  obtain ⟨B, m, _⟩ := k.ex
  obtain ⟨vs, us, h, h3, h4, h5⟩ := r.ex
  exact ⟨.ref B :: vs, .ref B :: us, pa_cons (pe_glob hgN m (v := .ref B) rfl hdN) h h2, .cons (.own B) h3, .cons m h4, by rw [List.length_cons, List.length_cons, h5]⟩
theorem PCs.suite (r : PCs (X.suite a ((a, oe) :: pn)) cs Ns) : PCs (X.suite a ((a, oe) :: pn)) cs Ns := r
/-- isinstance(e, (N, ..)) -/
theorem x_isET {x1} (hm : C.mg c = some (.ref CA)) (hz : Zc (.ref CA) (some dx) oe) (hf : ∃ vs, oe.data = .fields vs) (ht : ∀ c b, tbl c = some b → XAny X.K X.mg Ns c b) (hp : PCs (X.suite a ((a, oe) :: pn)) cs Ns) (hi : X.mg "isinstance" = none) (hy : X.N[i]? = some y) (hv : Vis X.env.scope y) (hK : C.K = X.K := by rfl) (hM : C.mg = X.mg := by rfl)
    (hl : cs.length ≤ 1000 := by decide) (hg : Gl X "isinstance" := by rfl) (hd : (y == ("__debug__" : Str)) = false := by decide) (hcd : (y == ("__classdict__" : Str)) = false := by decide)
    (h1 : starEach [.Name y q1, .Tuple cs x1 q2] X.env = (false, eval (.Name y q1) X.env) :: starEach [.Tuple cs x1 q2] X.env := by rfl) (h2 : starEach [.Tuple cs x1 q2] X.env = (false, eval (.Tuple cs x1 q2) X.env) :: starEach [] X.env := by rfl) (hpl : (backTo pos (starEach [.Tuple cs x1 q2] X.env)).any (·.1) = false := by rfl) :
    GE (X.suite a ((a, oe) :: pn)) C.quiet (.Call (.Name "isinstance" p) [.Name y q1, .Tuple cs x1 q2] [] pos) (fIsE a dx c i tbl) := by
  cases e : tbl c with
  | none => exact stuck fun r => by unfold fIsE; rw [e]; cases exAt r i a dx c <;> rfl
  | some b =>
    obtain ⟨A, m1, xc, kit⟩ := (ht c b e).ex
    rw [hM] at hm
    rw [hm] at m1; cases m1
    obtain ⟨vs, us, pa, cl, hu, hlen⟩ := hp.ex
    refine weakE (pe_callB (pos := pos) (p := p) (call_isXT xc hz hf) hg hi PyProof.Rows.boot_isinstance (pa_cons (pe_var hy hv hd hcd) (pa_cons (pe_tup pa) pa_nil h2) h1) (he := h1) (hpl := hpl)) fun σ H Q h => ?_
    obtain ⟨U, r, s, h⟩ := h
    unfold fIsE at h
    rw [e] at h
    cases ex : exAt r i a dx c with
    | none => rw [ex] at h; exact (show False from h).elim
    | some fs =>
      rw [ex] at h
      obtain ⟨g1, fv, g2, g3⟩ := exAt_sit s ex
      refine ⟨_, g1, k1000 (by rw [hlen]; exact hl), fun tp htp => ?_⟩
      have kp : ∀ b o, H b = some o → upd H tp (.tup vs) b = some o := upd_keep htp
      obtain ⟨s4, a4⟩ := s.ext kp (fun _ h => h) (fun _ h => .inl h) fun b hb => (s.uok b hb).grow kp
      exact ⟨tp, vs, us, b, fv, rfl, kp _ _ g2, upd_same, cl, kit us hu, h _ _ U (Sit.cast (C := C.quiet) (C' := C.quiet) rfl s4) a4 Per.refl ⟨.fz (.bl b), (fun p z => nomatch z), rfl⟩ fun _ _ z z2 => by cases z; cases z2⟩
/-- e.f -/
theorem x_xf (hm : C.mg c = some (.ref CA)) (hz : Zc (.ref CA) (some dx) oe) (hf : ∃ vs, oe.data = .fields vs) (ht : ∀ c b, tbl c = some b → AskF X.K X.mg c ∧ FldF X.K X.mg c f) (hy : X.N[i]? = some y) (hv : Vis X.env.scope y) (hK : C.K = X.K := by rfl) (hM : C.mg = X.mg := by rfl)
    (hd : (y == ("__debug__" : Str)) = false := by decide) (hcd : (y == ("__classdict__" : Str)) = false := by decide) (hb : attributeBase (.Name y q1) f X.env (eval (.Name y q1) X.env) = eval (.Name y q1) X.env := by rfl) :
    GE (X.suite a ((a, oe) :: pn)) C.quiet (.Attribute (.Name y q1) f pos) (fXf a dx c i f tbl) := by
  cases e : tbl c with
  | none => exact stuck fun r => by unfold fXf; rw [e]; cases exAt r i a dx c <;> rfl
  | some b =>
    obtain ⟨h1, h2⟩ := ht c b e
    obtain ⟨A, m1, xc, _⟩ := h1.ex
    obtain ⟨A', m2, hn⟩ := h2.ex
    rw [hM] at hm
    rw [hm] at m1 m2; cases m1; cases m2
    refine weakE (pe_xf ⟨xc.hg, xc.hk, xc.hs, xc.hd⟩ hn hz hf (pe_var (X := X.suite a ((a, oe) :: pn)) hy hv hd hcd) hb) fun σ H Q h => ?_
    obtain ⟨U, r, s, h⟩ := h
    unfold fXf at h
    rw [e] at h
    cases ex : exAt r i a dx c with
    | none => rw [ex] at h; exact (show False from h).elim
    | some fs =>
      rw [ex] at h
      dsimp only at h
      obtain ⟨g1, fv, g2, g3⟩ := exAt_sit s ex
      cases el : fs.lookup f with
      | none => rw [el] at h; exact (show False from h).elim
      | some d =>
        rw [el] at h
        have key : ∀ {fv : List (Str × V)} {fs : List (Str × D)}, KR C.K (Wn U σ r) H fv fs → fs.lookup f = some d → ∃ v, fv.lookup f = some v ∧ Rp C.K (Wn U σ r) H v d := by
          intro fv fs k
          induction k with
          | nil => intro h; cases h
          | @cons p q fv fs h1 t ih =>
            intro h
            obtain ⟨f1, v1⟩ := p
            obtain ⟨f2, d2⟩ := q
            obtain ⟨z1, z2⟩ := h1
            cases z1
            by_cases qq : f = f1
            · subst qq
              simp [List.lookup] at h ⊢
              subst h; exact z2
            · have z : (f == f1) = false := by simpa using qq
              simp only [List.lookup, z] at h ⊢
              exact ih h
        obtain ⟨v, hl, x⟩ := key g3 el
        exact ⟨.ref a, g1, rfl, rfl, dx, fv, v, rfl, g2, hl, h v H U s Aft.refl Per.refl ⟨.fz x, (fun p z => nomatch z), rfl⟩ fun _ _ z z2 => by cases z; cases z2⟩
end
end GB
namespace GB
open PySem PySem.Spec PyProof.Rows L2
/-- an own class that is raised, by its text -/
structure XAt (K : PySem.W.Frag) (mg : Str → Option Value) (x : Str) (fields : List Str) (qual : Str) (st : Stmt) : Prop where
  ex : ∃ (C fI : Addr) (fd : FuncData), mg x = some (.ref C) ∧ OexC K C ∧ PySem.W.findIn K (.ref C) "__init__" = some (some (.ref fI)) ∧ PySem.W.typeIn K (.ref fI) = some (.type "function") ∧
    (∀ f ∈ fields, PySem.W.findIn K (.ref C) f = some none) ∧ L2.Fun K "__init__" qual st fI fd ∧ Binds K fd ("self" :: fields) []
theorem xcls_of {P : Program} {w : World} {K : PySem.W.Frag} {mg : Str → Option Value} {base : Heap} {x qual : Str} {st : Stmt} {fields : List Str} {fm : Rho → Rs Opd} (a : XAt K mg x fields qual st) (Sc : FnScope ("self" :: fields) ("self" :: fields) (defScope st)) (hf : fields ≠ []) (hfl : fields.length ≤ 900)
    (hb : ∀ (fI : Addr) (cdv : Value) (A : Around) (l : List Env) (t : Shared) (H : Hp) (E : XK), PSs (bodyCx P w K mg base ("self" :: fields) qual st fI cdv A l t H E) (defBody st) (tSeq (tDrop (tVeI K (tCons (tVar 0) (tCons (tE (bodyCt K mg E) fm) tNil)))) (tAsgs K (fields.zip (List.range' 1 fields.length))))) :
    XCls P w K mg base x fields fm := by
  obtain ⟨C, fI, fd, hm, o, i1, t1, nf, F, b⟩ := a.ex
  exact ⟨C, fI, fd, hm, o, i1, t1, nf, init_ok F Sc rfl hf hfl (hb fI), b⟩
def clsS (i : Nat) : Stmt → Stmt
  | .ClassDef _ _ _ body _ _ _ _ _ _ _ => body.getD i (.Pass ⟨0, 0, 0, 0⟩)
  | s => s
section
variable {X : Cx} {C : Ct} {x n : Str} {i : Nat} {body suite : List Stmt} {b₀ : Stmt} {np pos pos' : Pos} {catch' : Str → Option Bool} {fb : Rho → Fl} {fh : Addr → Addr → Str → Rho → Fl}
theorem gs_tryN (nd : X.N.Nodup) (hi : X.N[i]? = some n) (k : ClsF X.K X.mg x) (tk : Takes X C.W) (htb : ∀ c b, catch' c = some b → SubF X.K X.mg c x b)
    (hb : ∀ (W : WX) (pn : List (Addr × Obj)) (xe : Value → Shared → Prop), Takes (X.tr pn xe) W → PassesOwn (model X.prog X.w) X.A X.env xe → GSs (X.tr pn xe) ⟨C.K, C.mg, W⟩ body fb)
    (hsu : ∀ (a : Addr) (oe : Obj) (CA dx : Addr) (c : Str) (pn : List (Addr × Obj)), C.mg c = some (.ref CA) → Zc (.ref CA) (some dx) oe → (∃ vs, oe.data = .fields vs) → GSs (X.suite a ((a, oe) :: pn)) C.quiet (b₀ :: suite) (fh a dx c))
    (hM : C.mg = X.mg := by rfl) (hg : Gl X x := by rfl) (hdb : (x == ("__debug__" : Str)) = false := by decide) (hs : X.stack = X.env :: X.outer := by rfl) (hf : X.env.frame = some X.env.locals := by rfl) (hln : X.env.kindOf n = some .local := by rfl) :
    GS X C (.Try body [.ExceptHandler (some (.Name x np)) (some n) (b₀ :: suite) pos'] [] [] pos) (fTry i catch' fb fh) := by
  obtain ⟨B, m, h1, h2, h0, _⟩ := k.ex
  refine gs_try nd hi ⟨hg, hdb, .inl m⟩ tk (fun c b e => ?_) hb hsu hs hf hln
  obtain ⟨A, B', m1, m2, h3⟩ := (htb c b e).ex
  rw [m] at m2; cases m2
  exact ⟨A, by rw [hM]; exact m1, exm_of h0 h1 h2 h3⟩
end
end GB

/-! texts put in once; what two texts share; thick; walks to the first -/
namespace GB
open PySem PySem.Spec PyProof.Rows L2
/-! equal to itself -/
mutual
theorem eqv_refl : ∀ d : D, d.py.hasDict = false → PyData.eqv d.py d.py = true
  | .non, _ => rfl
  | .bl b, _ => by cases b <;> rfl
  | .int i, _ => by rw [D.py, PyData.eqv]; simp
  | .str l, _ => by rw [D.py, PyData.eqv]; simp
  | .tup ds, h => by
    rw [D.py, PyData.hasDict] at h
    rw [D.py, PyData.eqv]; exact eqv_reflA ds h
  | .lst ds, h => by
    rw [D.py, PyData.hasDict] at h
    rw [D.py, PyData.eqv]; exact eqv_reflA ds h
  | .scr ds, h => by
    rw [D.py, PyData.hasDict] at h
    rw [D.py, PyData.eqv]; exact eqv_reflA ds h
  | .dic _ _, h => by rw [D.py, PyData.hasDict] at h; exact Bool.noConfusion h
theorem eqv_reflA : ∀ ds : List D, PyData.hasDictAll (pyAll ds) = false → PyData.eqvAll (pyAll ds) (pyAll ds) = true
  | [], _ => rfl
  | d :: ds, h => by
    rw [pyAll, PyData.hasDictAll, Bool.or_eq_false_iff] at h
    rw [pyAll, PyData.eqvAll, eqv_refl d h.1, eqv_reflA ds h.2]; rfl
end
theorem eq_self {ds : List D} (h : ∀ d ∈ ds, eqT d) : fEq (.ol ds) (.ol ds) = some (.fz (.bl true)) := by
  show (if (D.lst ds).fit && (D.lst ds).fit then some ((D.lst ds).same (.lst ds)) else none).map (fun k => S.fz (.bl k)) = _
  have e : (D.lst ds).py.hasDict = false := by rw [D.py, PyData.hasDict]; exact (eqT_all h).2.2
  rw [fitT_lst h]
  show some (S.fz (.bl (PyData.eqv (D.lst ds).py (D.lst ds).py))) = _
  rw [eqv_refl _ e]
/-! put in once -/
def addO (l : List (List Nat)) (t : List Nat) : List (List Nat) := if t ∈ l then l else l ++ [t]
def addAll (l ts : List (List Nat)) : List (List Nat) := ts.foldl addO l
def turnsO (rs : List (List Nat)) : List (List Nat) := rs.foldl (fun l r => addAll (addAll l (turnsL r)) (turnsL (bkw r))) []
theorem addO_nodup {l : List (List Nat)} {t : List Nat} (h : l.Nodup) : (addO l t).Nodup := by
  unfold addO
  split
  · exact h
  · rename_i n
    rw [List.nodup_append]
    refine ⟨h, by simp, fun a ha b hb => ?_⟩
    rw [List.mem_singleton] at hb
    subst hb
    exact fun e => n (e ▸ ha)
theorem addAll_nodup : ∀ {ts l : List (List Nat)}, l.Nodup → (addAll l ts).Nodup
  | [], _, h => h
  | _ :: ts, _, h => addAll_nodup (ts := ts) (addO_nodup h)
theorem addO_len (l : List (List Nat)) (t : List Nat) : (addO l t).length ≤ l.length + 1 := by
  unfold addO
  split
  · omega
  · simp
theorem addAll_len : ∀ (ts l : List (List Nat)), (addAll l ts).length ≤ l.length + ts.length
  | [], _ => Nat.le_refl _
  | t :: ts, l => by
    have h1 := addAll_len ts (addO l t)
    have h2 := addO_len l t
    show (addAll (addO l t) ts).length ≤ _
    rw [List.length_cons]; omega
theorem addO_mem {l : List (List Nat)} {t x : List Nat} : x ∈ addO l t ↔ x ∈ l ∨ x = t := by
  unfold addO
  split
  · rename_i h
    exact ⟨.inl, fun z => z.elim id fun z => z ▸ h⟩
  · simp
theorem addAll_mem : ∀ {ts l : List (List Nat)} {x : List Nat}, x ∈ addAll l ts ↔ x ∈ l ∨ x ∈ ts
  | [], _, _ => by simp [addAll]
  | t :: ts, l, x => by
    show x ∈ addAll (addO l t) ts ↔ _
    rw [addAll_mem (ts := ts), addO_mem, List.mem_cons, or_assoc]
/-! what two texts share -/
def lcp : List Nat → List Nat → Nat
  | a :: as, b :: bs => if a = b then lcp as bs + 1 else 0
  | _, _ => 0
theorem lcp_le : ∀ a b : List Nat, lcp a b ≤ a.length ∧ lcp a b ≤ b.length
  | [], _ => ⟨Nat.le_refl _, Nat.zero_le _⟩
  | _ :: _, [] => ⟨Nat.zero_le _, Nat.le_refl _⟩
  | a :: as, b :: bs => by
    have h := lcp_le as bs
    unfold lcp
    split
    · exact ⟨by rw [List.length_cons]; omega, by rw [List.length_cons]; omega⟩
    · exact ⟨Nat.zero_le _, Nat.zero_le _⟩
theorem lcp_at : ∀ (a b : List Nat) (k : Nat), k < lcp a b → a[k]? = b[k]?
  | [], _, _, h => absurd h (Nat.not_lt_zero _)
  | _ :: _, [], _, h => absurd h (Nat.not_lt_zero _)
  | a :: as, b :: bs, k, h => by
    unfold lcp at h
    split at h
    · rename_i e
      cases k with
      | zero => simp [e]
      | succ k => simpa using lcp_at as bs k (by omega)
    · exact absurd h (Nat.not_lt_zero _)
theorem lcp_stop : ∀ (a b : List Nat), lcp a b < a.length → lcp a b < b.length → a[lcp a b]? ≠ b[lcp a b]?
  | [], _, h, _ => absurd h (Nat.not_lt_zero _)
  | _ :: _, [], _, h => absurd h (Nat.not_lt_zero _)
  | a :: as, b :: bs, h1, h2 => by
    unfold lcp at h1 h2 ⊢
    split
    · rename_i e
      rw [if_pos e, List.length_cons] at h1 h2
      simpa using lcp_stop as bs (by omega) (by omega)
    · rename_i e
      simpa using e
theorem lcp_take (a b : List Nat) (k : Nat) (h : k ≤ lcp a b) : a.take k = b.take k := by
  refine List.ext_getElem? fun i => ?_
  rw [List.getElem?_take, List.getElem?_take]
  split
  · exact lcp_at a b i (by omega)
  · rfl
theorem lcp_mid1 : ∀ {a b c : List Nat}, a ≤ b → b ≤ c → lcp a c ≤ lcp a b
  | [], _, _, _, _ => Nat.zero_le _
  | x :: a, [], _, h, _ => absurd h (by simp)
  | x :: a, y :: b, [], _, h => absurd h (by simp)
  | x :: a, y :: b, z :: c, h1, h2 => by
    rw [List.cons_le_cons_iff] at h1 h2
    unfold lcp
    by_cases e : x = z
    · have e2' : x = y := by
        rcases h1 with h1 | h1 <;> rcases h2 with h2 | h2 <;> omega
      rw [if_pos e, if_pos e2']
      have g1 : a ≤ b := (h1.resolve_left (by omega)).2
      have g2 : b ≤ c := (h2.resolve_left (by omega)).2
      exact Nat.add_le_add_right (lcp_mid1 g1 g2) 1
    · rw [if_neg e]; exact Nat.zero_le _
theorem lcp_mid2 : ∀ {a b c : List Nat}, c ≤ b → b ≤ a → lcp a c ≤ lcp a b
  | [], _, _, _, _ => Nat.zero_le _
  | x :: a, _, [], _, _ => Nat.zero_le _
  | x :: a, [], z :: c, h, _ => absurd h (by simp)
  | x :: a, y :: b, z :: c, h1, h2 => by
    rw [List.cons_le_cons_iff] at h1 h2
    unfold lcp
    by_cases e : x = z
    · have e2' : x = y := by
        rcases h1 with h1 | h1 <;> rcases h2 with h2 | h2 <;> omega
      rw [if_pos e, if_pos e2']
      have g1 : c ≤ b := (h1.resolve_left (by omega)).2
      have g2 : b ≤ a := (h2.resolve_left (by omega)).2
      exact Nat.add_le_add_right (lcp_mid2 g1 g2) 1
    · rw [if_neg e]; exact Nat.zero_le _
/-- whether a text shares too much with another one -/
def thickB (a b : List Nat) : Bool := decide (a ≠ b) && decide (a.length ≤ 6 * lcp a b)
theorem thickB_iff {a b : List Nat} : thickB a b = true ↔ a ≠ b ∧ a.length ≤ 6 * lcp a b := by
  unfold thickB
  rw [Bool.and_eq_true, decide_eq_true_iff, decide_eq_true_iff]
/-- in a rising row it is enough to look beside -/
theorem beside {l : List (List Nat)} (hs : l.Pairwise (· ≤ ·)) (hn : l.Nodup) {i : Nat} {a : List Nat} (ha : l[i]? = some a) : ((l.take (i + 2)).drop (i - 1)).any (thickB a) = l.any (thickB a) := by
  rw [Bool.eq_iff_iff, List.any_eq_true, List.any_eq_true]
  have le : ∀ (j k : Nat) (x y : List Nat), j < k → l[j]? = some x → l[k]? = some y → x ≤ y := fun j k x y h hx hy => by
    rw [List.pairwise_iff_getElem] at hs
    have hj := lt_of_at hx
    have hk := lt_of_at hy
    rw [List.getElem?_eq_getElem hj] at hx
    rw [List.getElem?_eq_getElem hk] at hy
    cases hx; cases hy
    exact hs j k hj hk h
  have ne : ∀ (j k : Nat) (x y : List Nat), j ≠ k → l[j]? = some x → l[k]? = some y → x ≠ y := fun j k x y h hx hy e => by
    subst e
    exact h ((List.getElem?_inj (lt_of_at hx) hn).mp (hx.trans hy.symm))
  have mem : ∀ (j : Nat) (x : List Nat), i - 1 ≤ j → j < i + 2 → l[j]? = some x → x ∈ (l.take (i + 2)).drop (i - 1) := fun j x h1 h2 hx => by
    refine List.mem_of_getElem? (i := j - (i - 1)) ?_
    rw [List.getElem?_drop, show i - 1 + (j - (i - 1)) = j from by omega, List.getElem?_take, if_pos h2]
    exact hx
  constructor
  · rintro ⟨x, hx, h⟩
    exact ⟨x, List.mem_of_mem_take (List.mem_of_mem_drop hx), h⟩
  · rintro ⟨c, hc, h⟩
    obtain ⟨j, hj⟩ := List.getElem?_of_mem hc
    obtain ⟨h1, h2⟩ := thickB_iff.mp h
    have ij : j ≠ i := fun e => by
      subst e
      rw [ha] at hj; cases hj
      exact h1 rfl
    rcases Nat.lt_or_gt_of_ne ij with g | g
    · have hi := lt_of_at ha
      have hb : l[i - 1]? = some (l[i - 1]'(by omega)) := List.getElem?_eq_getElem (by omega)
      refine ⟨_, mem (i - 1) _ (Nat.le_refl _) (by omega) hb, thickB_iff.mpr ⟨ne _ _ _ _ (by omega) ha hb, ?_⟩⟩
      by_cases z : j = i - 1
      · subst z
        rw [hj] at hb
        rw [← Option.some.inj hb]; exact h2
      · have := lcp_mid2 (le j (i - 1) _ _ (by omega) hj hb) (le (i - 1) i _ _ (by omega) hb ha)
        omega
    · have hl := lt_of_at hj
      have hb : l[i + 1]? = some (l[i + 1]'(by omega)) := List.getElem?_eq_getElem (by omega)
      refine ⟨_, mem (i + 1) _ (by omega) (by omega) hb, thickB_iff.mpr ⟨ne _ _ _ _ (by omega) ha hb, ?_⟩⟩
      by_cases z : j = i + 1
      · subst z
        rw [hj] at hb
        rw [← Option.some.inj hb]; exact h2
      · have := lcp_mid1 (le i (i + 1) _ _ (by omega) ha hb) (le (i + 1) j _ _ (by omega) hb hj)
        omega
/-- what is told of a thick one -/
def pieceD (a b : List Nat) : D := .tup [.str a, .str b, .str (a.take (lcp a b))]
def thickAt (l : List (List Nat)) (a : List Nat) : Option S := (l.find? (thickB a)).map fun b => S.fz (pieceD a b)
/-! walks to the first -/
def firstN (h : Nat → Option S) : Nat → Nat → Option S
  | _, 0 => none
  | k, n + 1 => match h k with
    | some v => some v
    | none => firstN h (k + 1) n
theorem firstN_congr {h h' : Nat → Option S} : ∀ {n k : Nat}, (∀ i, k ≤ i → i < k + n → h i = h' i) → firstN h k n = firstN h' k n
  | 0, _, _ => rfl
  | n + 1, k, e => by
    have e0 := e k (Nat.le_refl _) (by omega)
    unfold firstN
    rw [e0, firstN_congr (n := n) (k := k + 1) fun i h1 h2 => e i (by omega) (by omega)]
theorem forL_idx {fg : D → Rho → Option Rho} {f : Rho → Fl} {P : Rho → Prop} {h : Nat → Option S} : ∀ {ds : List D} {r : Rho} (k : Nat), P r → (∀ i d r, ds[i]? = some d → P r → ∃ r1, fg d r = some r1 ∧ ∃ r2, P r2 ∧ f r1 = (match h (k + i) with | none => Fl.nx r2 | some v => .rt v r2)) →
    ∃ r2, P r2 ∧ forL fg f ds r = (match firstN h k ds.length with | none => Fl.nx r2 | some v => .rt v r2)
  | [], r, k, h0, _ => ⟨r, h0, rfl⟩
  | d :: ds, r, k, h0, hs => by
    obtain ⟨r1, g1, r2, g2, g3⟩ := hs 0 d r rfl h0
    rw [Nat.add_zero] at g3
    rw [forL, g1]
    dsimp only
    rw [List.length_cons, firstN]
    cases e : h k with
    | some v =>
      rw [e] at g3
      dsimp only at g3
      exact ⟨r2, g2, by rw [g3]⟩
    | none =>
      rw [e] at g3
      dsimp only at g3
      obtain ⟨r3, g4, g5⟩ := forL_idx (fg := fg) (f := f) (P := P) (h := h) (ds := ds) (r := r2) (k + 1) g2 fun i d r hd hp => by
        have := hs (i + 1) d r (by simpa using hd) hp
        rw [show k + 1 + i = k + (i + 1) from by omega]; exact this
      exact ⟨r3, g4, by rw [g3]; exact g5⟩
def pickS (l : List (List Nat)) (p : List Nat → Bool) (g : List Nat → S) (i : Nat) : Option S := match l[i]? with
  | some b => if p b then some (g b) else none
  | none => none
theorem pickS_at {l : List (List Nat)} {p : List Nat → Bool} {g : List Nat → S} {i : Nat} {b : List Nat} (h : l[i]? = some b) : pickS l p g i = if p b then some (g b) else none := by unfold pickS; rw [h]
def rowS (l : List (List Nat)) (i : Nat) : Option S := match l[i]? with
  | some a => thickAt l a
  | none => none
theorem rowS_at {l : List (List Nat)} {i : Nat} {a : List Nat} (h : l[i]? = some a) : rowS l i = thickAt l a := by unfold rowS; rw [h]
def thickD (l : List (List Nat)) : Option S := firstN (rowS l) 0 l.length
def outS : Option S → S
  | none => .fz .non
  | some v => v
theorem firstN_find {l : List (List Nat)} {p : List Nat → Bool} {g : List Nat → S} : ∀ {m : List (List Nat)} {k : Nat}, (∀ i x, m[i]? = some x → l[k + i]? = some x) → firstN (pickS l p g) k m.length = (m.find? p).map g
  | [], _, _ => rfl
  | x :: m, k, h => by
    have h0 : l[k]? = some x := h 0 x rfl
    rw [List.length_cons, firstN, pickS_at h0]
    cases c : p x with
    | true => rw [if_pos rfl, List.find?_cons_of_pos c]; rfl
    | false =>
      rw [if_neg (by decide), List.find?_cons_of_neg (by simp [c])]
      exact firstN_find (m := m) (k := k + 1) fun i y hy => by rw [show k + 1 + i = k + (i + 1) from by omega]; exact h (i + 1) y (by simpa using hy)
/-! walks over what is held, locked or not -/
theorem for_gen {fs : Rho → Rs (List Opd)} {mk : List S → Option (List D)} {fg : D → Rho → Option Rho} {f : Rho → Fl} {r r1 r2 : Rho} {os : List Opd} {ss : List S} {u : List (Nat × S)} {ds : List D} (h : fs r = .ok os r1) (la : lockAll os r1 = some (ss, r2, u)) (hk : mk ss = some ds) : fFor fs mk fg f r = mapFl (unlR u) (forL fg f ds r2) := by
  unfold fFor
  rw [h]
  show (match lockAll os r1 with | some (ss, r2, u) => (match mk ss with | some ds => mapFl (unlR u) (forL fg f ds r2) | none => .st) | none => .st) = _
  rw [la]
  show (match mk ss with | some ds => mapFl (unlR u) (forL fg f ds r2) | none => .st) = _
  rw [hk]
theorem lc_gen {fs : Rho → Rs (List Opd)} {mk : List S → Option (List D)} {fg : D → Rho → Option Rho} {ft : Rho → Rs Bool} {fe : Rho → Rs Opd} {vs : List Nat} {r r1 r2 r3 : Rho} {os : List Opd} {ss : List S} {u : List (Nat × S)} {ds acc : List D} (h : fs r = .ok os r1) (la : lockAll os r1 = some (ss, r2, u)) (hk : mk ss = some ds) (hs : softs r2 vs = true) (hc : cmpL fg ft fe vs ds (wipeR r2 vs) [] = .ok acc r3) :
    eLc fs mk fg ft fe vs r = .ok (.val (.ol acc)) (unlR u (restR r2 r3 vs)) := by
  unfold eLc
  rw [h]
  show (match lockAll os r1 with
    | some (ss, r2, u) => (match mk ss with
      | some ds => if softs r2 vs then (match cmpL fg ft fe vs ds (wipeR r2 vs) [] with | .ok acc r3 => Rs.ok (Opd.val (S.ol acc)) (unlR u (restR r2 r3 vs)) | _ => .st) else .st
      | none => .st)
    | none => .st) = _
  rw [la]
  show (match mk ss with
      | some ds => if softs r2 vs then (match cmpL fg ft fe vs ds (wipeR r2 vs) [] with | .ok acc r3 => Rs.ok (Opd.val (S.ol acc)) (unlR u (restR r2 r3 vs)) | _ => .st) else .st
      | none => .st) = _
  rw [hk]
  show (if softs r2 vs then (match cmpL fg ft fe vs ds (wipeR r2 vs) [] with | .ok acc r3 => Rs.ok (Opd.val (S.ol acc)) (unlR u (restR r2 r3 vs)) | _ => .st) else .st) = _
  rw [if_pos hs, hc]
/-! texts that are shown -/
theorem reprOk_texts {ws : List (List Nat)} {B : Nat} (h : ∀ w ∈ ws, W w ∧ w.length ≤ B) (hb : ws.length * (B + 1) ≤ 1000000) : reprOk (.lst (ws.map D.str)) = true := by
  have hl : (D.lst (ws.map D.str)).leaf = true := by
    show leafAll _ = true
    rw [leafAll_iff]
    intro d hd
    obtain ⟨w, hw, rfl⟩ := List.mem_map.mp hd
    exact List.all_eq_true.mpr fun c hc => decide_eq_true (by have := isL_iff.mp ((h w hw).1 c hc); omega)
  obtain ⟨h1, h2, h3⟩ := leaf_py _ hl
  have h1' : (D.lst (ws.map D.str)).py.leavesShort 12 = true := by
    rw [D.py, PyData.leavesShort]
    clear h1 h2 h3 hl hb
    induction ws with
    | nil => rfl
    | cons w ws ih =>
      rw [List.map_cons, pyAll, PyData.leavesShortAll, ih (fun u hu => h u (List.mem_cons_of_mem _ hu)), Bool.and_true]
      show ((⟨w.toArray⟩ : Str).cps.toList.all fun c => decide (c < 16 ^ 8)) = true
      refine List.all_eq_true.mpr fun c hc => decide_eq_true ?_
      have := isL_iff.mp ((h w (List.mem_cons_self ..)).1 c (by simpa using hc))
      omega
  have h4 := PyData.shown_le 12 (by decide) _ h1'
  have hd : (D.lst (ws.map D.str)).py.depth ≤ 60 := by
    rw [D.py, PyData.depth]
    have := depthAll_le (B := 0) (ws.map D.str) fun d hd => by
      obtain ⟨w, hw, rfl⟩ := List.mem_map.mp hd
      rw [depth_str]; exact Nat.le_refl _
    omega
  have hw : (D.lst (ws.map D.str)).py.weight ≤ 1000010 := by
    rw [D.py, PyData.weight]
    have := weightAll_le (B := B) (ws.map D.str) fun d hd => by
      obtain ⟨w, hw, rfl⟩ := List.mem_map.mp hd
      rw [weight_str]; exact (h w hw).2
    rw [List.length_map] at this
    omega
  have h5 : (12 + 2) * (D.lst (ws.map D.str)).py.weight ≤ 14 * 1000010 := Nat.mul_le_mul (by omega) hw
  unfold reprOk
  rw [h2, h3, decide_eq_true hd, decide_eq_true (show (D.lst (ws.map D.str)).py.shown.length ≤ 16777216 by omega)]
  rfl
theorem sl_nnK (ds : List D) (i j : Nat) : fSl (.lk ds) (.fz (.int (i : Nat))) (.fz (.int (j : Nat))) = some (.ol ((ds.take j).drop i)) := by
  show some (S.ol (GB.cutD ds (some (i : Int)) (some (j : Int)))) = _
  rw [cut_nnD]
end GB

/-! rings, their turns; texts within texts -/
namespace GB
open PySem PySem.Spec PyProof.Rows L2
def dT (l : List (List Nat)) : List (Key × D) := l.map fun t => ((.inr ⟨t.toArray⟩ : Key), D.bl true)
theorem key_inj {a b : List Nat} : ((.inr ⟨a.toArray⟩ : Key) = .inr ⟨b.toArray⟩) ↔ a = b := by
  constructor
  · intro h
    have h := Sum.inr.inj h
    have h := congrArg (fun s : Str => s.cps.toList) h
    simpa using h
  · intro h; rw [h]
theorem put_dT (l : List (List Nat)) (t : List Nat) : putD (dT l) (.inr ⟨t.toArray⟩) (.bl true) = dT (addO l t) := by
  have ha : ((dT l).any fun kv => decide (kv.1 = (.inr ⟨t.toArray⟩ : Key))) = decide (t ∈ l) := by
    rw [Bool.eq_iff_iff, List.any_eq_true, decide_eq_true_iff]
    constructor
    · rintro ⟨x, hx, h⟩
      obtain ⟨u, hu, rfl⟩ := List.mem_map.mp hx
      have := key_inj.mp (of_decide_eq_true h)
      exact this ▸ hu
    · intro h
      exact ⟨_, List.mem_map.mpr ⟨t, h, rfl⟩, decide_eq_true rfl⟩
  unfold putD addO
  rw [ha]
  by_cases c : t ∈ l
  · rw [if_pos (decide_eq_true c), if_pos c]
    conv => rhs; rw [← List.map_id (dT l)]
    refine List.map_congr_left fun x hx => ?_
    obtain ⟨u, hu, rfl⟩ := List.mem_map.mp hx
    dsimp only [id]
    split
    · rfl
    · rfl
  · rw [if_neg (by simpa using c), if_neg c]
    unfold dT
    rw [List.map_append]; rfl
/-- rings as they are told -/
def ringsT (rs : List (List Nat)) : D := .tup (rs.map D.str)
def knownL (rs : List (List Nat)) : List (List Nat) := sortT (turnsO rs)
theorem keys_dT (l : List (List Nat)) : fListU (.od (dT l)) = some (.ol (l.map D.str)) := by
  show some (S.ol (((dT l).map Prod.fst).map keyT)) = _
  unfold dT
  rw [List.map_map, List.map_map]
  congr 2
theorem mx_run {i : Nat} : (if 1 < (i : Int) then ((i : Int) - 1) else 0) = ((i - 1 : Nat) : Int) := by
  by_cases c : 1 < (i : Int)
  · rw [if_pos c]; omega
  · rw [if_neg c]; omega
theorem knownL_ok {rs : List (List Nat)} (hr : ∀ r ∈ rs, W r ∧ r.length ≤ 1000) (hl : rs.length ≤ 40) : (knownL rs).Pairwise (· ≤ ·) ∧ (knownL rs).Nodup ∧ (∀ b ∈ knownL rs, W b ∧ b.length ≤ 1000) ∧ (knownL rs).length ≤ 100000 := by
  have key : ∀ (rs l : List (List Nat)), (∀ r ∈ rs, W r ∧ r.length ≤ 1000) → l.Nodup → (∀ b ∈ l, W b ∧ b.length ≤ 1000) → 
      (rs.foldl (fun l r => addAll (addAll l (turnsL r)) (turnsL (bkw r))) l).Nodup ∧ (∀ b ∈ rs.foldl (fun l r => addAll (addAll l (turnsL r)) (turnsL (bkw r))) l, W b ∧ b.length ≤ 1000) ∧ (rs.foldl (fun l r => addAll (addAll l (turnsL r)) (turnsL (bkw r))) l).length ≤ l.length + rs.length * 2002 := by
    intro rs
    induction rs with
    | nil => exact fun l _ h1 h2 => ⟨h1, h2, by simp⟩
    | cons r rs ih =>
      intro l hr h1 h2
      obtain ⟨hw, hl⟩ := hr r (List.mem_cons_self ..)
      have tm : ∀ {u : List Nat}, W u → u.length ≤ 1000 → ∀ b ∈ turnsL u, W b ∧ b.length ≤ 1000 := fun {u} hu hul b hb => by
        obtain ⟨k, rfl⟩ := turnsL_mem hb
        unfold rot
        refine ⟨(fun c hc => hu c ?_), by rw [List.length_append, List.length_drop, List.length_take]; omega⟩
        rcases List.mem_append.mp hc with h | h
        · exact List.mem_of_mem_drop h
        · exact List.mem_of_mem_take h
      obtain ⟨g1, g2, g3⟩ := ih (addAll (addAll l (turnsL r)) (turnsL (bkw r))) (fun r hr' => hr r (List.mem_cons_of_mem _ hr')) (addAll_nodup (addAll_nodup h1)) (fun b hb => by
        rcases addAll_mem.mp hb with hb | hb
        · rcases addAll_mem.mp hb with hb | hb
          · exact h2 b hb
          · exact tm hw hl b hb
        · exact tm hw.bkw (by rw [bkw_len]; exact hl) b hb)
      refine ⟨g1, g2, ?_⟩
      have n1 := addAll_len (turnsL r) l
      have n2 := addAll_len (turnsL (bkw r)) (addAll l (turnsL r))
      rw [turnsL_len] at n1 n2
      rw [bkw_len] at n2
      rw [List.foldl_cons, List.length_cons]
      omega
  obtain ⟨g1, g2, g3⟩ := key rs [] hr List.nodup_nil (fun _ h => nomatch h)
  have hp := sortT_perm (turnsO rs)
  refine ⟨sortT_pw _, hp.nodup_iff.mpr g1, fun b hb => g2 b (hp.mem_iff.mp hb), ?_⟩
  unfold knownL
  rw [hp.length_eq]
  have : (turnsO rs).length ≤ ([] : List (List Nat)).length + rs.length * 2002 := g3
  simp at this
  omega
theorem take_lcp {a b : List Nat} {k : Nat} (h1 : k < a.length) (h2 : k < b.length) (h : k ≤ lcp a b) : (a.take (k + 1) = b.take (k + 1)) ↔ k < lcp a b := by
  constructor
  · intro e
    have := Classical.byContradiction fun n : ¬ k < lcp a b => by
      have ek : k = lcp a b := by omega
      have ne := lcp_stop a b (by omega) (by omega)
      rw [← ek] at ne
      have e2' := congrArg (fun l : List Nat => l[k]?) e
      rw [List.getElem?_take, List.getElem?_take, if_pos (by omega), if_pos (by omega)] at e2'
      exact ne e2'
    exact this
  · intro h
    exact lcp_take a b (k + 1) (by omega)
/-- how the row is held while it is walked -/
def Held (X : S) (ds : List D) : Prop := X = .lk ds ∨ X = .fz (.lst ds)
theorem held_lock {X : S} {ds : List D} (h : Held X ds) {r : Rho} (hr : r[0]? = some (some X)) : lockAll [.loc 0] r = some ([X], r, []) ∧ mkSeq [X] = some ds := by
  rcases h with rfl | rfl
  · exact ⟨by simp [hr], rfl⟩
  · exact ⟨by simp [hr], rfl⟩
theorem inS_ws (l : List (List Nat)) (t : List Nat) : inS (.fz (.str t)) (.ol (l.map D.str)) = some (decide (t ∈ l)) := by
  have f1 : (l.map D.str).all D.flat = true := by
    rw [List.all_map]
    exact List.all_eq_true.mpr fun _ _ => rfl
  show (if (D.str t).flat && (l.map D.str).all D.flat then some ((l.map D.str).any fun e => eqFlat e (.str t)) else none) = _
  rw [f1]
  show some ((l.map D.str).any fun e => eqFlat e (.str t)) = _
  congr 1
  rw [Bool.eq_iff_iff, List.any_map, List.any_eq_true, decide_eq_true_iff]
  constructor
  · rintro ⟨u, hu, h⟩
    have h : (u == t) = true := h
    rw [beq_iff_eq] at h
    exact h ▸ hu
  · intro h
    exact ⟨t, h, show (t == t) = true from by simp⟩
theorem notIn_ws (l : List (List Nat)) (t : List Nat) : qNotIn [.fz (.str t), .ol (l.map D.str)] = some (.fz (.bl (!decide (t ∈ l)))) := by
  unfold qNotIn
  simp [s_orP, fNotIn, inS_ws]
def okRs (rs : List (List Nat)) : Prop := (∀ r ∈ rs, W r ∧ r.length ≤ 1000 ∧ r ≠ []) ∧ rs.length ≤ 20
def goodR (rs : List (List Nat)) : Prop := (∀ r ∈ rs, W r ∧ r.length ≤ 60) ∧ rs.length ≤ 6
theorem mul_d {w : List Nat} (hw : w.length ≤ 100) (n : Nat) (hn : n ≤ 1000) (b : Nat) : qMul [.fz (.str w), .fz (.int ((b : Int) + (n : Int)))] = some (.fz (.str (rep w (b + n)))) ∨ 1000 < b := by
  by_cases hb : 1000 < b
  · exact .inr hb
  · refine .inl ?_
    have e : (b : Int) + (n : Int) = ((b + n : Nat) : Int) := by omega
    rw [e]
    refine mulS_n (by omega) ?_
    have : w.length * (b + n) ≤ 100 * 2000 := Nat.mul_le_mul hw (by omega)
    omega
theorem rep_ok {w : List Nat} (h : W w) {n B : Nat} (hb : n * w.length ≤ B) : W (rep w n) ∧ (rep w n).length ≤ B := ⟨rep_w h n, by rw [rep_len2]; exact hb⟩
theorem W1 {c : Nat} (h : isL c = true) : W [c] := W.cons h .nil
def holed : List (List Nat) := [[97, 98, 65, 66, 99, 100, 67, 68], [97, 98, 99, 100, 65, 66, 67, 68], [97, 97, 98, 98, 99, 99, 100, 100], [97, 98, 99, 65, 66, 100, 67, 68]]
theorem thickD_some {l : List (List Nat)} {v : S} (h : thickD l = some v) : ∃ a b, v = .fz (pieceD a b) ∧ a ∈ l ∧ b ∈ l := by
  have key : ∀ (n k : Nat), firstN (rowS l) k n = some v → ∃ i, rowS l i = some v := by
    intro n
    induction n with
    | zero => intro k h; cases h
    | succ n ih =>
      intro k h
      unfold firstN at h
      cases e : rowS l k with
      | some w => rw [e] at h; exact ⟨k, by rw [e]; exact h⟩
      | none => rw [e] at h; exact ih (k + 1) h
  obtain ⟨i, hi⟩ := key _ _ h
  unfold rowS at hi
  cases e : l[i]? with
  | none => rw [e] at hi; cases hi
  | some a =>
    rw [e] at hi
    dsimp only at hi
    unfold thickAt at hi
    cases c : l.find? (thickB a) with
    | none => rw [c] at hi; cases hi
    | some b =>
      rw [c] at hi
      exact ⟨a, b, (Option.some.inj hi).symm, List.mem_of_getElem? e, List.mem_of_find?_eq_some c⟩
theorem is_out (l : List (List Nat)) : fIs (outS (thickD l)) (.fz .non) = some (.fz (.bl (thickD l).isNone)) := by
  cases c : thickD l with
  | none => rfl
  | some v =>
    obtain ⟨a, b, rfl, _, _⟩ := thickD_some c
    rfl
/-- rings that the law draws -/
def okR (rs : List (List Nat)) : Prop := (∀ r ∈ rs, W r ∧ r.length ≤ 60 ∧ r ≠ []) ∧ rs.length ≤ 6
theorem okR.Rs {rs : List (List Nat)} (h : okR rs) : okRs rs := ⟨fun r hr => by obtain ⟨a, b, c⟩ := h.1 r hr; exact ⟨a, by omega, c⟩, by have := h.2; omega⟩
theorem okR_nil : okR [] := ⟨fun _ h => (nomatch h), by simp⟩
def keepE : D → List D
  | .str w => if w = [] then [] else [.str w]
  | _ => []
theorem known_short {rs : List (List Nat)} (h : okR rs) : (∀ b ∈ knownL rs, W b ∧ b.length ≤ 60) ∧ (knownL rs).length ≤ 1000 := by
  have key : ∀ (rs l : List (List Nat)), (∀ r ∈ rs, W r ∧ r.length ≤ 60) → (∀ b ∈ l, W b ∧ b.length ≤ 60) → 
      (∀ b ∈ rs.foldl (fun l r => addAll (addAll l (turnsL r)) (turnsL (bkw r))) l, W b ∧ b.length ≤ 60) ∧ (rs.foldl (fun l r => addAll (addAll l (turnsL r)) (turnsL (bkw r))) l).length ≤ l.length + rs.length * 122 := by
    intro rs
    induction rs with
    | nil => exact fun l _ h2 => ⟨h2, by simp⟩
    | cons r rs ih =>
      intro l hr h2
      obtain ⟨hw, hl⟩ := hr r (List.mem_cons_self ..)
      have tm : ∀ {u : List Nat}, W u → u.length ≤ 60 → ∀ b ∈ turnsL u, W b ∧ b.length ≤ 60 := fun {u} hu hul b hb => by
        obtain ⟨k, rfl⟩ := turnsL_mem hb
        exact ⟨rot_w hu k, by rw [rot_len]; exact hul⟩
      obtain ⟨g2, g3⟩ := ih (addAll (addAll l (turnsL r)) (turnsL (bkw r))) (fun r hr' => hr r (List.mem_cons_of_mem _ hr')) (fun b hb => by
        rcases addAll_mem.mp hb with hb | hb
        · rcases addAll_mem.mp hb with hb | hb
          · exact h2 b hb
          · exact tm hw hl b hb
        · exact tm hw.bkw (by rw [bkw_len]; exact hl) b hb)
      refine ⟨g2, ?_⟩
      have n1 := addAll_len (turnsL r) l
      have n2 := addAll_len (turnsL (bkw r)) (addAll l (turnsL r))
      rw [turnsL_len] at n1 n2
      rw [bkw_len] at n2
      rw [List.foldl_cons, List.length_cons]
      omega
  obtain ⟨g2, g3⟩ := key rs [] (fun r hr => ⟨(h.1 r hr).1, (h.1 r hr).2.1⟩) (fun _ h => nomatch h)
  have hp := sortT_perm (turnsO rs)
  refine ⟨fun b hb => g2 b (hp.mem_iff.mp hb), ?_⟩
  unfold knownL
  rw [hp.length_eq]
  have : (turnsO rs).length ≤ ([] : List (List Nat)).length + rs.length * 122 := g3
  have := h.2
  simp at *
  omega
theorem repr_out {l : List (List Nat)} (h : ∀ b ∈ l, W b ∧ b.length ≤ 60) : ∃ x, fRepr (outS (thickD l)) = some (.fz (.str x)) := by
  cases c : thickD l with
  | none => exact ⟨_, repr_tree (s := .fz .non) (d := .non) rfl (reprOk_lf lf_n)⟩
  | some v =>
    obtain ⟨a, b, rfl, ha, hb⟩ := thickD_some c
    have la := h a ha
    have lb := h b hb
    refine ⟨_, repr_tree (s := .fz (pieceD a b)) (d := pieceD a b) rfl (reprOk_tup (fun d hd => ?_) (by simp))⟩
    simp only [List.mem_cons, List.not_mem_nil, or_false] at hd
    rcases hd with rfl | rfl | rfl
    · exact lf_s (by omega) la.1
    · exact lf_s (by omega) lb.1
    · exact lf_s (by rw [List.length_take]; omega) (la.1.take _)
/-! a text within a text -/
theorem subAtL_iff {p l : List Nat} {i : Nat} : subAtL p l i = true ↔ i + p.length ≤ l.length ∧ (l.drop i).take p.length = p := by
  unfold subAtL
  rw [Bool.and_eq_true, decide_eq_true_iff, beq_iff_eq]
theorem subIx_w {p l : List Nat} : (subIx p l).isSome = true ↔ ∃ i, i + p.length ≤ l.length ∧ (l.drop i).take p.length = p := by
  unfold subIx
  rw [List.find?_isSome]
  constructor
  · rintro ⟨i, _, h⟩
    exact ⟨i, subAtL_iff.mp h⟩
  · rintro ⟨i, h⟩
    exact ⟨i, List.mem_range.mpr (by omega), subAtL_iff.mpr h⟩
theorem subIx_at {p l : List Nat} {i : Nat} (h : subIx p l = some i) : i + p.length ≤ l.length ∧ (l.drop i).take p.length = p := subAtL_iff.mp (List.find?_some h)
theorem subIx_none {p l : List Nat} (h : subIx p l = none) (i : Nat) : ¬ (i + p.length ≤ l.length ∧ (l.drop i).take p.length = p) := fun z => by
  have := List.find?_eq_none.mp h i (List.mem_range.mpr (by omega))
  exact this (subAtL_iff.mpr z)
theorem dbl_rot {r : List Nat} {i : Nat} (h : i ≤ r.length) : ((r ++ r).drop i).take r.length = rot r i := by
  unfold rot
  rw [List.drop_append, show i - r.length = 0 from by omega, List.drop_zero, List.take_append, List.length_drop, List.take_of_length_le (by rw [List.length_drop]; omega), show r.length - (r.length - i) = i from by omega]
theorem turns_iff {r t : List Nat} : t ∈ turnsL r ↔ ∃ k, k < max 1 r.length ∧ rot r k = t := by
  unfold turnsL
  rw [List.mem_map]
  simp
theorem rot_full (r : List Nat) : rot r r.length = r := by unfold rot; simp
/-- a turn stands in the ring told twice -/
theorem in_dbl {r t : List Nat} (hr : r ≠ []) (hl : t.length = r.length) : (subIx t (r ++ r)).isSome = true ↔ t ∈ turnsL r := by
  have h0 : 0 < r.length := List.length_pos_iff.mpr hr
  rw [subIx_w, turns_iff]
  constructor
  · rintro ⟨i, h1, h2⟩
    rw [List.length_append] at h1
    rw [hl, dbl_rot (by omega)] at h2
    by_cases c : i = r.length
    · exact ⟨0, by omega, by rw [rot_0, ← h2, c, rot_full]⟩
    · exact ⟨i, by omega, h2⟩
  · rintro ⟨k, h1, h2⟩
    exact ⟨k, by rw [List.length_append]; omega, by rw [hl, dbl_rot (by omega)]; exact h2⟩
theorem turns_len {r t : List Nat} (h : t ∈ turnsL r) : t.length = r.length := by
  obtain ⟨k, _, rfl⟩ := turns_iff.mp h
  exact rot_len r k
theorem known_iff {rs : List (List Nat)} {t : List Nat} : t ∈ knownL rs ↔ ∃ r ∈ rs, t ∈ turnsL r ∨ t ∈ turnsL (bkw r) := by
  have key : ∀ (rs l : List (List Nat)), t ∈ rs.foldl (fun l r => addAll (addAll l (turnsL r)) (turnsL (bkw r))) l ↔ t ∈ l ∨ ∃ r ∈ rs, t ∈ turnsL r ∨ t ∈ turnsL (bkw r) := by
    intro rs
    induction rs with
    | nil => intro l; simp
    | cons r rs ih =>
      intro l
      rw [List.foldl_cons, ih, addAll_mem, addAll_mem]
      constructor
      · rintro (((h | h) | h) | ⟨q, h1, h2⟩)
        · exact .inl h
        · exact .inr ⟨r, List.mem_cons_self .., .inl h⟩
        · exact .inr ⟨r, List.mem_cons_self .., .inr h⟩
        · exact .inr ⟨q, List.mem_cons_of_mem _ h1, h2⟩
      · rintro (h | ⟨q, h1, h2⟩)
        · exact .inl (.inl (.inl h))
        · rcases List.mem_cons.mp h1 with rfl | h1
          · rcases h2 with h2 | h2
            · exact .inl (.inl (.inr h2))
            · exact .inl (.inr h2)
          · exact .inr ⟨q, h1, h2⟩
  unfold knownL
  rw [(sortT_perm _).mem_iff]
  unfold turnsO
  rw [key]
  simp
/-- whether a word is a turn of a ring, or of its back -/
def turnOf (t r : List Nat) : Bool := decide (t.length = r.length) && ((subIx t (r ++ r)).isSome || (subIx t (bkw r ++ bkw r)).isSome)
theorem turnOf_any {rs : List (List Nat)} (h : ∀ r ∈ rs, r ≠ []) (t : List Nat) : rs.any (turnOf t) = decide (t ∈ knownL rs) := by
  rw [Bool.eq_iff_iff, List.any_eq_true, decide_eq_true_iff, known_iff]
  have nb : ∀ r ∈ rs, bkw r ≠ [] := fun r hr z => h r hr (by have := congrArg List.length z; rw [bkw_len] at this; exact List.length_eq_zero_iff.mp this)
  constructor
  · rintro ⟨r, hr, z⟩
    unfold turnOf at z
    rw [Bool.and_eq_true, Bool.or_eq_true, decide_eq_true_iff] at z
    refine ⟨r, hr, ?_⟩
    rcases z.2 with z2 | z2
    · exact .inl ((in_dbl (h r hr) z.1).mp z2)
    · exact .inr ((in_dbl (nb r hr) (by rw [bkw_len]; exact z.1)).mp z2)
  · rintro ⟨r, hr, z⟩
    refine ⟨r, hr, ?_⟩
    unfold turnOf
    rw [Bool.and_eq_true, Bool.or_eq_true, decide_eq_true_iff]
    rcases z with z | z
    · exact ⟨turns_len z, .inl ((in_dbl (h r hr) (turns_len z)).mpr z)⟩
    · have hl := turns_len z
      refine ⟨by rw [bkw_len] at hl; exact hl, .inr ((in_dbl (nb r hr) hl).mpr z)⟩
end GB

/-! enumerate(e) of a list, a tuple, a text -/
namespace GB
open PySem PySem.Spec PyProof.Rows L2
theorem meets_enum1 {v : Value} {o : Obj} {H : Heap → Prop} (B : Begins v o H) :
    Meets (Builtin.«enumerate.__new__» ⟨[.type "enumerate", v], []⟩) (fun _ R s => H s.heap ∧
      R (.ok (.ret (.ref (s.heap.push o).objs.size))) { s with heap := (s.heap.push o).push { cls := .type "enumerate", data := .fields #[.none, .bool false, .ref s.heap.objs.size, rawInt 0, .none, .none] } }) :=
  .of_wp fun prog w A R s h => by
    obtain ⟨hp, g, d, tk, os⟩ := s; obtain ⟨h1, h⟩ := h
    have hsub := sub_enumerate
    have q1 : ∀ {A' : Around} {E : Value → Shared → Prop} {Q : Value → Shared → Prop}, Q (.ref hp.objs.size) ⟨hp.push o, g, d, tk, os⟩ → wpAny (model prog w) A' (pyIter v) Q E ⟨hp, g, d, tk, os⟩ :=
      fun q => B.iter prog w _ _ ⟨hp, g, d, tk, os⟩ _ h1 q
    wp_walk using q1
    refine wpAny_stack_any fun st => wpAny_pure ?_
    split
    · rename_i c _ _ _ _ _
      cases (c == Value.type "enumerate")
      · wp_walk using q1
        exact ⟨_, rfl, h⟩
      · wp_walk using q1
        exact ⟨_, rfl, h⟩
    · wp_walk using q1
      exact ⟨_, rfl, h⟩
theorem enum1_begins {prog : Program} {w : World} {A : Around} {E : Value → Shared → Prop} {s : Shared} {v : Value} {o : Obj} {H : Heap → Prop} {Q : Value → Shared → Prop} (B : Begins v o H) (h1 : H s.heap)
    (h : ∀ h', IsEnum h' (s.heap.objs.size + 1) s.heap.objs.size 0 .none → h'.get? s.heap.objs.size = some o → h'.objs.size = s.heap.objs.size + 2 →
      (∀ b o, s.heap.get? b = some o → h'.get? b = some o) → Q (.ref (s.heap.objs.size + 1)) { s with heap := h' }) :
    wpAny (model prog w) A (call (.type "enumerate") [v]) Q E s := by
  refine callType_new F.called_enumerate (by decide) (F.typeCall_enumerate_1 _) (F.newCall_enumerate_1 _) (fun obj => F.args_object_init_2 obj _) F.entry_enumerate_new
    (meets_enum1 B) ⟨h1, ?_⟩
  have hz : (s.heap.push o).objs.size = s.heap.objs.size + 1 := Heap.size_push ..
  show _ ∧ _
  rw [hz]
  have he : IsEnum ((s.heap.push o).push { cls := .type "enumerate", data := .fields #[.none, .bool false, .ref s.heap.objs.size, rawInt 0, .none, .none] }) (s.heap.objs.size + 1) s.heap.objs.size 0 .none := by
    have := Heap.get?_push_size (s.heap.push o) (o := { cls := .type "enumerate", data := .fields #[.none, .bool false, .ref s.heap.objs.size, rawInt 0, .none, .none] }) rfl
    rw [hz] at this; exact this
  refine ⟨⟨_, he, rfl⟩, h _ he (Heap.get?_push_of_some _ (Heap.get?_push_size _ B.free)) (by rw [Heap.size_push, hz]) fun b o x => Heap.get?_push_of_some _ (Heap.get?_push_of_some _ x)⟩
/-- the tuple at a, each item in a new pair -/
def IteT (K : PySem.W.Frag) (a : Addr) : It :=
  ⟨fun i H => ∃ (xs : List V) (x : V), SqT K H a xs ∧ xs[i]? = some x, fun i H v H' => ∃ T x, v = .ref T ∧ H T = none ∧ H' = upd H T (.tup [.int (i : Nat), x]) ∧ ∀ xs, SqT K H a xs → xs[i]? = some x, fun i H => ∃ xs : List V, SqT K H a xs ∧ xs.length = i⟩
theorem turn_enumT {P : Program} {w : World} {K : PySem.W.Frag} {elts : List Expr} {kk : Nat} {tpos : Pos} (a e it : Addr) :
    Turn P w K (.Tuple elts kk tpos) (IteT K a) [e, it] e (fun i h => (∃ old, IsEnum h e it ((i : Nat) : Int) old) ∧ h.IsTupleIter it a i ∧ e ≠ it ∧ a ≠ e ∧ a ≠ it) where
  mem := by simp
  obj := fun i h st b hb => by
    obtain ⟨⟨old, he⟩, ⟨o, ho, hc, hd⟩, _⟩ := st
    have e' : b = e ∨ b = it := by simpa using hb
    rcases e' with z | z
    · rw [z]; exact ⟨_, he, fun v q => nomatch q⟩
    · rw [z]; exact ⟨o, ho, fun v q => by rw [hd] at q; cases q⟩
  keep := fun i h h' st k => let ⟨⟨old, he⟩, hi, hne⟩ := st; ⟨⟨old, k e (by simp) _ he⟩, hi.at fun o q => k it (by simp) o q, hne⟩
  item := by
    intro X hP hw hK hc i pins s σ H E I hf st hg
    subst hP hw hK
    obtain ⟨⟨old, he⟩, hit, hne, hae, hai⟩ := st
    obtain ⟨xs, x, hq, hx⟩ := hg
    obtain ⟨its, rv, p, hz⟩ := I.tuple hq
    obtain ⟨u, hu, ru⟩ := rv.get hx
    have hel : e < s.heap.objs.size := Heap.lt_size he
    have hil : it < s.heap.objs.size := by obtain ⟨_, q, _⟩ := hit; exact Heap.lt_size q
    have hlt : i < its.toArray.size := by
      have := List.getElem?_eq_some_iff.mp hu
      obtain ⟨q, _⟩ := this
      simpa using q
    refine wpAny_pyNext_enum_itemD (Draws.tuple (A := X.A.in1) (I.ok.hd hc) it a hai its.toArray) he ⟨hit, p⟩ hlt hne (fun q => ?_) fun y h' tk hP ho hst' hT hsz hk => ?_
    · rcases List.mem_cons.mp q with z | z
      · exact hne z
      · exact hae (List.mem_singleton.mp z).symm
    have hP : its.toArray[i]? = some y := hP
    have ey : y = u := by
      have : its.toArray[i]? = its[i]? := by simp
      rw [this, hu] at hP
      exact (Option.some.inj hP).symm
    subst ey
    obtain ⟨hit', _⟩ := hst'
    refine ⟨_, rfl, wpAny_letOwnedTupleGo_enum (s := { s with heap := h', toks := tk + 1 }) ho fun h'' he' sb => ?_⟩
    have hT2 : h''.get? s.heap.objs.size = some { cls := .type "tuple", data := .seq #[.int i tk, y] } := (sb.2 _ (Nat.ne_of_gt hel)).trans hT
    have new : ObjOk X.prog X.w (upd H s.heap.objs.size (.tup [.int (i : Nat), x])) h'' s.heap.objs.size (.tup [.int (i : Nat), x]) :=
      ⟨by show 2 ≤ sizeLine; decide, [.int i tk, y], .cons ⟨_, rfl⟩ (.cons ru .nil), ⟨_, hT2, rfl, _, rfl⟩⟩
    have I1 : Inv X pins σ (upd H s.heap.objs.size (.tup [.int (i : Nat), x])) { s with heap := h'', toks := tk + 1 } :=
      I.turnedNew (ch := [e, it]) (fun b ob hb q => (sb.2 b (fun z => hb (by simp [z]))).trans (hk b ob (fun z => hb (by simp [z])) (fun z => hb (by simp [z])) q)) hf (Nat.le_refl _) new
    refine ⟨.ref s.heap.objs.size, _, I1, rfl, ⟨_, x, rfl, I.hok.fresh (Nat.le_refl _), rfl, fun ys hy => by rw [I.tuple_inj hy hq]; exact hx⟩, ⟨⟨y, ?_⟩, hit'.at fun o q => (sb.2 it (Ne.symm hne)).trans q, hne, hae, hai⟩, fun b hb => ?_⟩
    · have e1 : ((i + 1 : Nat) : Int) = (i : Int) + 1 := by omega
      rw [e1]; exact he'
    · have hb' : b < s.heap.objs.size := by
        have e' : b = e ∨ b = it := by simpa using hb
        rcases e' with z | z
        · rw [z]; exact hel
        · rw [z]; exact hil
      rw [upd_ne (Nat.ne_of_lt hb')]
      exact (hf b hb).1
  done := by
    intro X hP hw hK hc i pins s σ H E I hf st hg
    subst hP hw hK
    obtain ⟨⟨old, he⟩, hit, hne, hae, hai⟩ := st
    obtain ⟨xs, hq, hx⟩ := hg
    obtain ⟨its, rv, p, hz⟩ := I.tuple hq
    obtain ⟨f0, f1, f2, f3, f4, f5⟩ := hf it (by simp)
    have hl := rv.length
    have hn : i = its.toArray.size := by simp; omega
    subst hn
    exact wpAny_pyNext_enum_endD (Draws.tuple (A := X.A.in1) (I.ok.hd hc) it a hai its.toArray) he ⟨hit, p⟩ fun h' eb => ⟨rfl, I.turned (t' := s.toks) (fun b o hb q => eb b o hb q) f0 f1 f3 f4 f5⟩
  self := fun A i s Q E st h => let ⟨⟨_, he⟩, _⟩ := st; wpAny_pyIter_enum he h
/-- the signs of a text, each in a new pair -/
def IteS (x : Str) : It :=
  ⟨fun i _ => i < x.cps.size, fun i H v H' => ∃ T c, v = .ref T ∧ H T = none ∧ H' = upd H T (.tup [.int (i : Nat), .str ⟨#[c]⟩]) ∧ x.cps[i]? = some c, fun i _ => i = x.cps.size⟩
theorem turn_enumS {P : Program} {w : World} {K : PySem.W.Frag} {elts : List Expr} {kk : Nat} {tpos : Pos} (x : Str) (t : Tok) (e it : Addr) :
    Turn P w K (.Tuple elts kk tpos) (IteS x) [e, it] e (fun i h => (∃ old, IsEnum h e it ((i : Nat) : Int) old) ∧ h.IsStrIter it (strIterType x) x t i ∧ e ≠ it) where
  mem := by simp
  obj := fun i h st b hb => by
    obtain ⟨⟨old, he⟩, ⟨o, ho, hc, hd⟩, _⟩ := st
    have e' : b = e ∨ b = it := by simpa using hb
    rcases e' with z | z
    · rw [z]; exact ⟨_, he, fun v q => nomatch q⟩
    · rw [z]; exact ⟨o, ho, fun v q => by rw [hd] at q; cases q⟩
  keep := fun i h h' st k => let ⟨⟨old, he⟩, hi, hne⟩ := st; ⟨⟨old, k e (by simp) _ he⟩, by obtain ⟨o, e1, r1⟩ := hi; exact ⟨o, k it (by simp) _ e1, r1⟩, hne⟩
  item := by
    intro X hP hw hK hc i pins s σ H E I hf st hg
    subst hP hw hK
    obtain ⟨⟨old, he⟩, hit, hne⟩ := st
    have hel : e < s.heap.objs.size := Heap.lt_size he
    have hil : it < s.heap.objs.size := by obtain ⟨_, q, _⟩ := hit; exact Heap.lt_size q
    refine wpAny_pyNext_enum_itemD (Draws.text (A := X.A.in1) (I.ok.hd hc) it x t) he hit hg hne (fun q => hne (List.mem_singleton.mp q)) fun y h' tk hP ho hit' hT hsz hk => ?_
    obtain ⟨c, u, hcx, rfl⟩ := hP
    refine ⟨_, rfl, wpAny_letOwnedTupleGo_enum (s := { s with heap := h', toks := tk + 1 }) ho fun h'' he' sb => ?_⟩
    have hT2 : h''.get? s.heap.objs.size = some { cls := .type "tuple", data := .seq #[.int i tk, .str ⟨#[c]⟩ u] } := (sb.2 _ (Nat.ne_of_gt hel)).trans hT
    have new : ObjOk X.prog X.w (upd H s.heap.objs.size (.tup [.int (i : Nat), .str ⟨#[c]⟩])) h'' s.heap.objs.size (.tup [.int (i : Nat), .str ⟨#[c]⟩]) :=
      ⟨by show 2 ≤ sizeLine; decide, [.int i tk, .str ⟨#[c]⟩ u], .cons ⟨_, rfl⟩ (.cons ⟨_, rfl⟩ .nil), ⟨_, hT2, rfl, _, rfl⟩⟩
    have I1 : Inv X pins σ (upd H s.heap.objs.size (.tup [.int (i : Nat), .str ⟨#[c]⟩])) { s with heap := h'', toks := tk + 1 } :=
      I.turnedNew (ch := [e, it]) (fun b ob hb q => (sb.2 b (fun z => hb (by simp [z]))).trans (hk b ob (fun z => hb (by simp [z])) (fun z => hb (by simp [z])) q)) hf (Nat.le_refl _) new
    refine ⟨.ref s.heap.objs.size, _, I1, rfl, ⟨_, c, rfl, I.hok.fresh (Nat.le_refl _), rfl, hcx⟩, ⟨⟨.str ⟨#[c]⟩ u, ?_⟩, ?_, hne⟩, fun b hb => ?_⟩
    · have e1 : ((i + 1 : Nat) : Int) = (i : Int) + 1 := by omega
      rw [e1]; exact he'
    · obtain ⟨o1, e1', r1⟩ := hit'
      exact ⟨o1, (sb.2 it (Ne.symm hne)).trans e1', r1⟩
    · have hb' : b < s.heap.objs.size := by
        have e' : b = e ∨ b = it := by simpa using hb
        rcases e' with z | z
        · rw [z]; exact hel
        · rw [z]; exact hil
      rw [upd_ne (Nat.ne_of_lt hb')]
      exact (hf b hb).1
  done := by
    intro X hP hw hK hc i pins s σ H E I hf st hg
    subst hP hw hK
    obtain ⟨⟨old, he⟩, hit, hne⟩ := st
    obtain ⟨f0, f1, f2, f3, f4, f5⟩ := hf it (by simp)
    have hg : i = x.cps.size := hg
    subst hg
    exact wpAny_pyNext_enum_endD (Draws.text (A := X.A.in1) (I.ok.hd hc) it x t) he hit fun h' eb => ⟨rfl, I.turned (t' := s.toks) (fun b o hb q => eb b o hb q) f0 f1 f3 f4 f5⟩
  self := fun A i s Q E st h => let ⟨⟨_, he⟩, _⟩ := st; wpAny_pyIter_enum he h
section
variable {X : Cx} {C : Ct} {e : Expr} {fa : Rho → Rs (List Opd)} {pos p tpos : Pos} {elts : List Expr} {kk : Nat}
def iEnumU (K : PySem.W.Frag) (vs : List V) (H : Hp) (R : It → Hp → Prop) : Prop :=
  (∃ x, vs = [.str x] ∧ R (IteS x) H) ∨ (∃ a xs, vs = [.ref a] ∧ SqT K H a xs ∧ R (IteT K a) H) ∨ ∃ a xs, vs = [.ref a] ∧ SqL K H a xs ∧ R (Ite K a) H
theorem pi_enumU {ta : TA} (hg : Gl X "enumerate") (hm : X.mg "enumerate" = none) (ha : PA X [e] ta) (hs : starEach [e] X.env = [(false, eval e X.env)] := by rfl) :
    PI X (.Tuple elts kk tpos) (.Call (.Name "enumerate" p) [e] [] pos) (fun σ H R => ta σ H fun vs H1 => iEnumU X.K vs H1 R) := by
  refine ⟨fun pins s σ H R I h => ?_⟩
  refine Call_ (ld_blt I hg hm boot_enumerate (PyProof.Rows.callWith_type1 (thn (ha.run pos pins s σ H _ I h) fun us s1 ⟨vs, H1, I1, r1, q1⟩ => ?_) hs rfl))
  have fr : ∀ b, b ∈ [s1.heap.objs.size + 1, s1.heap.objs.size] → FpOk X pins H1 b := fun b hb => by
    have e' : b = s1.heap.objs.size + 1 ∨ b = s1.heap.objs.size := by simpa using hb
    have hle : s1.heap.objs.size ≤ b := by
      rcases e' with z | z
      · rw [z]; exact Nat.le_add_right _ _
      · rw [z]; exact Nat.le_refl _
    exact I1.fpOk hle (I1.hok.fresh hle)
  rcases q1 with ⟨x, ex, q⟩ | ⟨a, xs, ex, hq, q⟩ | ⟨a, xs, ex, hq, q⟩
  · subst ex
    cases r1 with
    | cons r rr =>
      cases rr
      obtain ⟨t, rfl⟩ := r
      refine enum1_begins (begins_text x t) trivial fun h' he hit hsz hk => wpAny_pyIter_enum he ?_
      have I2 : Inv X pins σ H1 { s1 with heap := h' } := I1.kept (t' := s1.toks) hk
      exact ⟨s1.heap.objs.size + 1, [s1.heap.objs.size + 1, s1.heap.objs.size], _, _, H1, rfl, I2, turn_enumS x t (s1.heap.objs.size + 1) s1.heap.objs.size, ⟨⟨.none, he⟩, ⟨_, hit, rfl, rfl⟩, Nat.succ_ne_self _⟩, fr, q⟩
  · subst ex
    cases r1 with
    | cons r rr =>
      cases rr
      cases r
      obtain ⟨its, rv, p', hz⟩ := I1.tuple hq
      obtain ⟨o1, ho1, _⟩ := id p'
      have la : a < s1.heap.objs.size := Heap.lt_size ho1
      refine enum1_begins (begins_tuple a its.toArray) p' fun h' he hit hsz hk => wpAny_pyIter_enum he ?_
      have I2 : Inv X pins σ H1 { s1 with heap := h' } := I1.kept (t' := s1.toks) hk
      exact ⟨s1.heap.objs.size + 1, [s1.heap.objs.size + 1, s1.heap.objs.size], _, _, H1, rfl, I2, turn_enumT a (s1.heap.objs.size + 1) s1.heap.objs.size, ⟨⟨.none, he⟩, ⟨_, hit, rfl, rfl⟩, Nat.succ_ne_self _, Nat.ne_of_lt (Nat.lt_succ_of_lt la), Nat.ne_of_lt la⟩, fr, q⟩
  · subst ex
    cases r1 with
    | cons r rr =>
      cases rr
      cases r
      obtain ⟨its, rv, p', hz⟩ := I1.list hq
      refine call_enumerate_list p'.isList fun h' he hit hsz hk => wpAny_pyIter_enum he ?_
      have I2 : Inv X pins σ H1 { s1 with heap := h' } := I1.kept (t' := s1.toks) hk
      exact ⟨s1.heap.objs.size + 1, [s1.heap.objs.size + 1, s1.heap.objs.size], _, _, H1, rfl, I2, turn_enum a (s1.heap.objs.size + 1) s1.heap.objs.size, ⟨⟨.none, he⟩, hit, Nat.succ_ne_self _⟩, fr, q⟩
def mkEnumU : List S → Option (List D)
  | [.fz (.str w)] => some ((w.map fun c => D.str [c]).zipIdx.map fun z => .tup [.int (z.2 : Nat), z.1])
  | [.fz (.tup ds)] => some (ds.zipIdx.map fun z => .tup [.int (z.2 : Nat), z.1])
  | l => mkEnum l
theorem walkET {K : PySem.W.Frag} {a : Addr} {n : Nat} : Walk (IteT K a) n (fun H => ∃ xs, SqT K H a xs ∧ xs.length = n) (fun i H v H' => ∃ T x, v = .ref T ∧ H T = none ∧ H' = upd H T (.tup [.int (i : Nat), x]) ∧ ∀ xs, SqT K H a xs → xs[i]? = some x) :=
  ⟨fun i _ hi ⟨xs, q, e⟩ => ⟨xs, xs[i], q, by simp [e, hi]⟩, fun _ ⟨xs, q, e⟩ => ⟨xs, q, e⟩, fun _ _ _ _ _ _ y => y⟩
theorem git_enumL {t : S} {p : Addr} {es : List D} {vs : List V} (e1 : asLs t = some es) (hv : ∀ U W H, SRs C.K U W H vs [t] → SR C.K U W H (.ref p) t) :
    GItem C (Ite C.K p) (es.zipIdx.map fun z => .tup [.int (z.2 : Nat), z.1]) vs [t] := by
  refine ⟨_, _, by rw [List.length_map, List.length_zipIdx]; exact walkE (K := C.K) (a := p) (n := es.length), fun U W H z => ?_, fun i H x H' d U W hd z lv y => ?_⟩
  · obtain ⟨p', xs, e, h2, h3⟩ := asLs_of (hv _ _ _ z) e1
    cases e
    exact ⟨xs, h2, h3.len⟩
  · obtain ⟨p', xs, e, h2, h3⟩ := asLs_of (hv _ _ _ z) e1
    cases e
    obtain ⟨T, w, rfl, hT, rfl, y⟩ := y
    rw [List.getElem?_map, List.getElem?_zipIdx] at hd
    cases e3 : es[i]? with
    | none => rw [e3] at hd; cases hd
    | some d' =>
      rw [e3] at hd; cases hd
      obtain ⟨v, g1, g2⟩ := rps_at h3 e3
      have := y xs h2
      rw [g1] at this
      cases this
      refine ⟨upd_keep hT, .tup (.inl (.inl upd_same)) (.cons ?_ (.cons (g2.mono (monoKeep lv (upd_keep hT))) .nil))⟩
      simp only [Nat.zero_add]
      exact .int _
theorem git_enumT {p : Addr} {es : List D} : GItem C (IteT C.K p) (es.zipIdx.map fun z => .tup [.int (z.2 : Nat), z.1]) [.ref p] [.fz (.tup es)] := by
  refine ⟨_, _, by rw [List.length_map, List.length_zipIdx]; exact walkET (K := C.K) (a := p) (n := es.length), fun U W H z => ?_, fun i H x H' d U W hd z lv y => ?_⟩
  · cases srs1 z with | fz z => cases z with | tup e z => exact ⟨_, e, z.len⟩
  · cases srs1 z with
    | fz z =>
      cases z with
      | tup e z =>
        obtain ⟨T, w, rfl, hT, rfl, y⟩ := y
        rw [List.getElem?_map, List.getElem?_zipIdx] at hd
        cases e3 : es[i]? with
        | none => rw [e3] at hd; cases hd
        | some d' =>
          rw [e3] at hd; cases hd
          obtain ⟨v, g1, g2⟩ := rps_at z e3
          have := y _ e
          rw [g1] at this
          cases this
          refine ⟨upd_keep hT, .tup (.inl (.inl upd_same)) (.cons ?_ (.cons (g2.mono (monoKeep lv (upd_keep hT))) .nil))⟩
          simp only [Nat.zero_add]
          exact .int _
theorem git_enumS {w : List Nat} {vs : List V} {ss : List S} : GItem C (IteS ⟨w.toArray⟩) ((w.map fun c => D.str [c]).zipIdx.map fun z => .tup [.int (z.2 : Nat), z.1]) vs ss := by
  refine ⟨fun _ => True, fun i H v H' => ∃ T c, v = .ref T ∧ H T = none ∧ H' = upd H T (.tup [.int (i : Nat), .str ⟨#[c]⟩]) ∧ w[i]? = some c, ⟨fun i H hi _ => ?_, fun H _ => ?_, fun i H x H' hi _ y => ?_⟩, fun U W H z => True.intro, fun i H x H' d U W hd z lv y => ?_⟩
  · rw [List.length_map, List.length_zipIdx, List.length_map] at hi
    show _ < _
    simpa using hi
  · rw [List.length_map, List.length_zipIdx, List.length_map]
    show _ = _
    simp
  · obtain ⟨T, c, h1, h2, h3, h4⟩ := y
    exact ⟨T, c, h1, h2, h3, by simpa using h4⟩
  · obtain ⟨T, c, rfl, hT, rfl, h1⟩ := y
    rw [List.getElem?_map, List.getElem?_zipIdx, List.getElem?_map, h1] at hd
    cases hd
    refine ⟨upd_keep hT, .tup (.inl (.inl upd_same)) (.cons ?_ (.cons (.str [c]) .nil))⟩
    simp only [Nat.zero_add]
    exact .int _
theorem gi_enumU (hg : Gl X "enumerate") (hm : X.mg "enumerate" = none) (ha : GA X C [e] fa) (hs : starEach [e] X.env = [(false, eval e X.env)] := by rfl) (hK : C.K = X.K := by rfl) : GI X C (.Tuple elts kk tpos) (.Call (.Name "enumerate" p) [e] [] pos) fa mkEnumU := by
  refine ⟨_, ?_, pi_enumU hg hm ha hs⟩
  intro vs H ss ds U W R hs hn hm q
  unfold mkEnumU at hm
  split at hm
  · cases hm
    cases hs with
    | cons x y =>
      cases y
      cases x with
      | fz x =>
        cases x
        exact .inl ⟨_, rfl, q _ git_enumS⟩
  · cases hm
    cases hs with
    | cons x y =>
      cases y
      cases x with
      | fz x =>
        cases x with
        | tup e z => exact .inr (.inl ⟨_, _, rfl, hK ▸ e, q _ (hK ▸ git_enumT)⟩)
  · rename_i l0 h1 h2
    cases ss with
    | nil => exact (show False from (by have hm : (none : Option (List D)) = some ds := hm; cases hm)).elim
    | cons t ts =>
      cases ts with
      | cons t2 ts => exact (show False from (by have hm : (none : Option (List D)) = some ds := hm; cases hm)).elim
      | nil =>
        have hm : (asLs t).map (fun ds => ds.zipIdx.map fun z => D.tup [.int (z.2 : Nat), z.1]) = some ds := hm
        cases e1 : asLs t with
        | none => rw [e1] at hm; cases hm
        | some es =>
          rw [e1] at hm; cases hm
          cases hs with
          | cons x y =>
            cases y
            obtain ⟨p, xs, rfl, h2, h3⟩ := asLs_of x e1
            exact .inr (.inr ⟨p, xs, rfl, hK ▸ h2, q _ (hK ▸ git_enumL e1 fun _ _ _ z => srs1 z)⟩)
end
end GB

/-! steps, as plain words -/
namespace GB
open PySem PySem.Spec PyProof.Rows L2
def outO (w : List Nat) (p : Nat) : Option (List Nat) := match w[p]?, w[p + 1]? with
  | some x, some y => if y = bk x then some (w.take p ++ w.drop (p + 2)) else none
  | _, _ => none
def outW : Option (List Nat) → S
  | none => .fz .non
  | some u => .fz (.str u)
def insO (w : List Nat) (p c : Nat) : Option (List Nat) := if p ≤ w.length then some (w.take p ++ [c] ++ [bk c] ++ w.drop p) else none
def ringO (rs : List (List Nat)) (w : List Nat) (p : Nat) (t : List Nat) (m : Nat) : Option (List Nat) :=
  if m ≤ t.length ∧ p + m ≤ w.length ∧ t ∈ knownL rs ∧ (w.take (p + m)).drop p = t.take m then some (w.take p ++ bkw (t.drop m) ++ w.drop (p + m)) else none
inductive Stp where
  | out (p : Nat) | ins (p c : Nat) | ring (p : Nat) (t : List Nat) (m : Nat)
def stepD : Stp → D
  | .out p => .tup [.str [111, 117, 116], .int p]
  | .ins p c => .tup [.str [105, 110], .int p, .str [c]]
  | .ring p t m => .tup [.str [114, 105, 110, 103], .int p, .str t, .int m]
def stepOk : Stp → Prop
  | .out p => p ≤ 100000
  | .ins p c => p ≤ 100000 ∧ isL c = true
  | .ring p t m => p ≤ 100000 ∧ W t ∧ t.length ≤ 1000 ∧ m ≤ 100000
def rawO (rs : List (List Nat)) (w : List Nat) : Stp → Option (List Nat)
  | .out p => outO w p
  | .ins p c => insO w p c
  | .ring p t m => ringO rs w p t m
def cutO : Option (List Nat) → Option (List Nat)
  | none => none
  | some u => if u.length ≤ 2000 then some u else none
def stepO (rs : List (List Nat)) (w : List Nat) (s : Stp) : Option (List Nat) := cutO (rawO rs w s)
def walkO (rs : List (List Nat)) : Nat → List Nat → List Stp → Sum (List Nat) Nat
  | _, w, [] => .inl w
  | k, w, s :: ss => match stepO rs w s with
    | none => .inr k
    | some u => walkO rs (k + 1) u ss
def resD : Sum (List Nat) Nat → D
  | .inl u => .str u
  | .inr k => .int (k : Nat)
def doneL : Option (List Nat) → List D
  | none => []
  | some u => [.str u]
theorem cutO_some {o : Option (List Nat)} {u : List Nat} (h : cutO o = some u) : o = some u ∧ u.length ≤ 2000 := by
  cases o with
  | none => cases h
  | some v =>
    have h : (if v.length ≤ 2000 then some v else none) = some u := h
    by_cases c : v.length ≤ 2000
    · rw [if_pos c] at h; cases h; exact ⟨rfl, c⟩
    · rw [if_neg c] at h; cases h
theorem cutO_short {o : Option (List Nat)} (h : ∀ u, o = some u → u.length ≤ 2000) : cutO o = o := by
  cases o with
  | none => rfl
  | some v => exact if_pos (h v rfl)
theorem outO_len {w u : List Nat} {p : Nat} (h : outO w p = some u) : u.length ≤ w.length ∧ (W w → W u) := by
  unfold outO at h
  split at h
  · split at h
    · cases h
      refine ⟨by rw [List.length_append, List.length_take, List.length_drop]; omega, fun hw c hc => ?_⟩
      rcases List.mem_append.mp hc with h | h
      · exact hw c (List.mem_of_mem_take h)
      · exact hw c (List.mem_of_mem_drop h)
    · cases h
  · cases h
theorem rawO_W {rs : List (List Nat)} {w u : List Nat} {s : Stp} (hw : W w) (hs : stepOk s) (h : rawO rs w s = some u) : W u ∧ u.length ≤ w.length + 1000 := by
  cases s with
  | out p => exact ⟨(outO_len h).2 hw, by have := (outO_len h).1; omega⟩
  | ins p c =>
    have h : insO w p c = some u := h
    unfold insO at h
    split at h
    · cases h
      refine ⟨(((hw.take p).app (W1 hs.2)).app (W1 (bk_isL hs.2))).app (hw.drop p), ?_⟩
      simp only [List.length_append, List.length_take, List.length_drop, List.length_cons, List.length_nil]; omega
    · cases h
  | ring p t m =>
    have h : ringO rs w p t m = some u := h
    unfold ringO at h
    split at h
    · cases h
      obtain ⟨h1, h2, h3, h4⟩ := hs
      refine ⟨((hw.take p).app (W.bkw (h2.drop m))).app (hw.drop (p + m)), ?_⟩
      simp only [List.length_append, List.length_take, List.length_drop, bkw_len]; omega
    · cases h
theorem stepO_W {rs : List (List Nat)} {w u : List Nat} {s : Stp} (hw : W w) (hs : stepOk s) (h : stepO rs w s = some u) : W u ∧ u.length ≤ 2000 := by
  obtain ⟨h1, h2⟩ := cutO_some h
  exact ⟨(rawO_W hw hs h1).1, h2⟩
theorem walkO_W {rs : List (List Nat)} : ∀ {ss : List Stp} {k : Nat} {w : List Nat}, W w → w.length ≤ 2000 → (∀ s ∈ ss, stepOk s) → match walkO rs k w ss with | .inl u => W u ∧ u.length ≤ 2000 | .inr j => j < k + ss.length
  | [], k, w, hw, hl, _ => ⟨hw, hl⟩
  | s :: ss, k, w, hw, hl, hs => by
    unfold walkO
    cases e : stepO rs w s with
    | none => show k < k + (s :: ss).length; simp
    | some u =>
      obtain ⟨g1, g2⟩ := stepO_W hw (hs s (List.mem_cons_self ..)) e
      have := walkO_W (rs := rs) (ss := ss) (k := k + 1) g1 g2 fun s h => hs s (List.mem_cons_of_mem _ h)
      dsimp only
      split at this
      · exact this
      · rw [List.length_cons]; omega
theorem intTxt_len {i : Int} (h : i.natAbs < 2 ^ 64) : (intTxt i).length ≤ 65 := by
  have := int_text_length_le (a := i) (k := 64) (by decide) (log_of h (by decide))
  unfold intTxt
  have e : (Str.ofString (toString i)).cps.toList.length = (toString i).length := by
    rw [Array.length_toList]; exact PySem.ofString_length _
  omega
theorem str_int {i : Int} (h : i.natAbs < 2 ^ 64) : fStr (.fz (.int i)) = some (.fz (.str (intTxt i))) := by
  unfold fStr
  exact if_pos (Nat.lt_trans (log_of h (by decide)) (by decide))
theorem dbl_mul {r : List Nat} (h : r.length ≤ 1000) : qMul [.fz (.str r), .fz (.int 2)] = some (.fz (.str (r ++ r))) := by
  have := mulS_n (l := r) (k := 2) (by omega) (by omega)
  have e : (List.replicate 2 r).flatten = r ++ r := by simp
  rw [e] at this
  exact this
theorem in_txt (a b : List Nat) : qIn [.fz (.str a), .fz (.str b)] = some (.fz (.bl (subIx a b).isSome)) := by
  unfold qIn
  simp [s_orP, fIn, inS]
theorem eqT_step {s : Stp} (h : stepOk s) : eqT (stepD s) := by
  have n : ∀ w : List Nat, (∀ c ∈ w, c < 1114112) → eqL (.str w) := fun w h => eqL_s h
  cases s with
  | out p =>
    refine eqT_tup fun d hd => ?_
    simp only [List.mem_cons, List.not_mem_nil, or_false] at hd
    rcases hd with rfl | rfl
    · exact n _ (by decide)
    · exact eqL_i
  | ins p c =>
    refine eqT_tup fun d hd => ?_
    simp only [List.mem_cons, List.not_mem_nil, or_false] at hd
    rcases hd with rfl | rfl | rfl
    · exact n _ (by decide)
    · exact eqL_i
    · exact eqL_w (W1 h.2)
  | ring p t m =>
    refine eqT_tup fun d hd => ?_
    simp only [List.mem_cons, List.not_mem_nil, or_false] at hd
    rcases hd with rfl | rfl | rfl | rfl
    · exact n _ (by decide)
    · exact eqL_i
    · exact eqL_w h.2.1
    · exact eqL_i
theorem eqT_steps {ss : List Stp} (h : ∀ s ∈ ss, stepOk s) : ∀ d ∈ ss.map stepD, eqT d := fun d hd => by
  obtain ⟨s, hs, rfl⟩ := List.mem_map.mp hd
  exact eqT_step (h s hs)
theorem eq_selfB {ds : List D} (h : ∀ d ∈ ds, eqT d) : fEq (.br ds) (.ol ds) = some (.fz (.bl true)) := eq_self h
theorem eq_nilB {ds : List D} (h : ∀ d ∈ ds, eqT d) : fEq (.br ds) (.ol []) = some (.fz (.bl ds.isEmpty)) := eq_nilT h
def knS (rs : List (List Nat)) : S := .fz (.lst ((knownL rs).map D.str))
theorem notIn_kn (rs : List (List Nat)) (t : List Nat) : qNotIn [.fz (.str t), knS rs] = some (.fz (.bl (!decide (t ∈ knownL rs)))) := notIn_ws (knownL rs) t
theorem eq_nilF {ds : List D} (h : ∀ d ∈ ds, eqT d) : fEq (.fz (.lst ds)) (.ol []) = some (.fz (.bl ds.isEmpty)) := eq_nilT h
def wkL (ss : List Stp) (k : Nat) : List D := ((ss.map stepD).zipIdx k).map fun z => D.tup [.int (z.2 : Nat), z.1]
theorem repr_str {u : List Nat} (h : W u) (hl : u.length ≤ 8000) : fRepr (.fz (.str u)) = some (.fz (.str (shownL (.str u)))) := repr_tree rfl (reprOk_str (fun c hc => by have := isL_iff.mp (h c hc); omega) hl)
theorem repr_int {k : Nat} (h : k < 2 ^ 64) : fRepr (.fz (.int (k : Nat))) = some (.fz (.str (shownL (.int (k : Nat))))) := repr_tree rfl (reprOk_int (by omega))
theorem repr_res {rs : List (List Nat)} {ss : List Stp} {k : Nat} {w : List Nat} (hw : W w) (hl : w.length ≤ 2000) (hs : ∀ s ∈ ss, stepOk s) (hk : k + ss.length ≤ 1000000) : fRepr (.fz (resD (walkO rs k w ss))) = some (.fz (.str (shownL (resD (walkO rs k w ss))))) := by
  have := walkO_W (rs := rs) (ss := ss) (k := k) hw hl hs
  split at this
  · rename_i u e
    rw [e]
    exact repr_str this.1 (by have := this.2; omega)
  · rename_i j e
    rw [e]
    exact repr_int (by omega)
end GB

/-! steps that shorten -/
namespace GB
open PySem PySem.Spec PyProof.Rows L2
theorem one_at (w : List Nat) (j : Nat) : (w.take (j + 1)).drop j = (w[j]?).toList := by
  refine List.ext_getElem? fun n => ?_
  rw [List.getElem?_drop, List.getElem?_take]
  cases n with
  | zero =>
    rw [if_pos (by omega), Nat.add_zero]
    cases w[j]? <;> rfl
  | succ n =>
    rw [if_neg (by omega)]
    cases w[j]? <;> rfl
theorem lcp_ge {a b : List Nat} {k : Nat} (h : a.take k = b.take k) (h1 : k ≤ a.length) (h2 : k ≤ b.length) : k ≤ lcp a b := by
  refine Classical.byContradiction fun n => ?_
  have st := lcp_stop a b (by omega) (by omega)
  have e := congrArg (fun l : List Nat => l[lcp a b]?) h
  rw [List.getElem?_take, List.getElem?_take, if_pos (by omega), if_pos (by omega)] at e
  exact st e
def halfL (t : List Nat) : List Nat := t.take (t.length / 2 + 1)
theorem half_len {t : List Nat} (h : t ≠ []) : (halfL t).length = t.length / 2 + 1 := by
  unfold halfL
  have : 0 < t.length := List.length_pos_iff.mpr h
  rw [List.length_take]; omega
theorem half_lcp {t w : List Nat} {p : Nat} (h : t ≠ []) (e : subIx (halfL t) w = some p) : p + lcp t (w.drop p) ≤ w.length ∧ t.length / 2 + 1 ≤ lcp t (w.drop p) ∧ lcp t (w.drop p) ≤ t.length := by
  obtain ⟨h1, h2⟩ := subIx_at e
  rw [half_len h] at h1 h2
  obtain ⟨l1, l2⟩ := lcp_le t (w.drop p)
  rw [List.length_drop] at l2
  have : 0 < t.length := List.length_pos_iff.mpr h
  refine ⟨by omega, lcp_ge (by unfold halfL at h2; exact h2.symm) (by omega) (by rw [List.length_drop]; omega), l1⟩
def shortS : Stp → Bool
  | .out _ => true
  | .ins _ _ => false
  | .ring _ t m => decide (t.length < 2 * m)
def goodS (rs : List (List Nat)) (w : List Nat) (s : Stp) : Prop := stepOk s ∧ shortS s = true ∧ ∃ u, stepO rs w s = some u ∧ u.length < w.length
/-- the steps lead from w to h, each of them shortening -/
def chainS (rs : List (List Nat)) : List Nat → List Stp → List Nat → Prop
  | w, [], h => h = w
  | w, s :: ss, h => stepOk s ∧ shortS s = true ∧ ∃ u, stepO rs w s = some u ∧ chainS rs u ss h
theorem chain_snoc {rs : List (List Nat)} {s : Stp} {v : List Nat} (so : stepOk s) (ss' : shortS s = true) : ∀ {ss : List Stp} {w u : List Nat}, chainS rs w ss u → stepO rs u s = some v → chainS rs w (ss ++ [s]) v
  | [], w, u, h, e => by
    have h : u = w := h
    subst h
    exact ⟨so, ss', v, e, rfl⟩
  | s' :: ss, w, u, ⟨h1, h2, u', h3, h4⟩, e => ⟨h1, h2, u', h3, chain_snoc so ss' h4 e⟩
theorem known_ok {rs : List (List Nat)} (h : okRs rs) {t : List Nat} (ht : t ∈ knownL rs) : W t ∧ t.length ≤ 1000 ∧ t ≠ [] := by
  obtain ⟨k1, k2, k3, k4⟩ := knownL_ok (rs := rs) (fun r hr => ⟨(h.1 r hr).1, (h.1 r hr).2.1⟩) (by have := h.2; omega)
  refine ⟨(k3 t ht).1, (k3 t ht).2, fun z => ?_⟩
  obtain ⟨r, hr, q⟩ := known_iff.mp ht
  have l := (h.1 r hr).2.2
  have : t.length = r.length := by
    rcases q with q | q
    · exact turns_len q
    · rw [turns_len q, bkw_len]
  rw [z] at this
  exact l (List.length_eq_zero_iff.mp this.symm)
theorem out_good {rs : List (List Nat)} {w : List Nat} {p : Nat} (hl : w.length ≤ 2000) (h : w[p + 1]? = (w[p]?).map bk) (hp : p + 1 < w.length) : goodS rs w (.out p) := by
  have h1 : w[p]? = some (w[p]'(by omega)) := List.getElem?_eq_getElem (by omega)
  have h2 : w[p + 1]? = some (w[p + 1]'(by omega)) := List.getElem?_eq_getElem (by omega)
  have e : w[p + 1]'(by omega) = bk (w[p]'(by omega)) := by
    rw [h1, h2] at h
    exact Option.some.inj h
  refine ⟨show p ≤ 100000 by omega, rfl, w.take p ++ w.drop (p + 2), ?_, by rw [List.length_append, List.length_take, List.length_drop]; omega⟩
  have o : outO w p = some (w.take p ++ w.drop (p + 2)) := by
    unfold outO
    rw [h1, h2]
    exact if_pos e
  show cutO (outO w p) = _
  rw [o]
  exact if_pos (by rw [List.length_append, List.length_take, List.length_drop]; omega)
theorem ring_good {rs : List (List Nat)} (h : okRs rs) {w t : List Nat} {p : Nat} (hl : w.length ≤ 2000) (ht : t ∈ knownL rs) (e : subIx (halfL t) w = some p) : goodS rs w (.ring p t (lcp t (w.drop p))) := by
  obtain ⟨h1, h2, h3⟩ := known_ok h ht
  obtain ⟨g1, g2, g3⟩ := half_lcp h3 e
  refine ⟨⟨by omega, h1, h2, by omega⟩, decide_eq_true (by omega), w.take p ++ bkw (t.drop (lcp t (w.drop p))) ++ w.drop (p + lcp t (w.drop p)), ?_, ?_⟩
  · have o : ringO rs w p t (lcp t (w.drop p)) = some (w.take p ++ bkw (t.drop (lcp t (w.drop p))) ++ w.drop (p + lcp t (w.drop p))) := by
      unfold ringO
      refine if_pos ⟨g3, g1, ht, ?_⟩
      rw [lcp_take t (w.drop p) _ (Nat.le_refl _), List.drop_take]
      congr 1
      omega
    show cutO (ringO rs w p t (lcp t (w.drop p))) = _
    rw [o]
    refine if_pos ?_
    simp only [List.length_append, List.length_take, List.length_drop, bkw_len]
    omega
  · simp only [List.length_append, List.length_take, List.length_drop, bkw_len]
    omega
def optD : Option Stp → D
  | none => .non
  | some s => stepD s
/-- the first ring that halves a place -/
def rsH (l : List (List Nat)) (w : List Nat) (i : Nat) : Option S := match l[i]? with
  | none => none
  | some t => match subIx (halfL t) w with
    | none => none
    | some p => some (.fz (stepD (.ring p t (lcp t (w.drop p)))))
theorem rsH_at {l : List (List Nat)} {w t : List Nat} {i : Nat} (h : l[i]? = some t) : rsH l w i = (match subIx (halfL t) w with
    | none => none
    | some p => some (.fz (stepD (.ring p t (lcp t (w.drop p)))))) := by unfold rsH; rw [h]
theorem firstN_at {h : Nat → Option S} {v : S} : ∀ (n k : Nat), firstN h k n = some v → ∃ i, h i = some v := by
  intro n
  induction n with
  | zero => intro k z; cases z
  | succ n ih =>
    intro k z
    unfold firstN at z
    cases e : h k with
    | none => rw [e] at z; exact ih _ z
    | some u => rw [e] at z; exact ⟨k, by rw [e]; exact z⟩
theorem firstN_no {h : Nat → Option S} : ∀ (n k : Nat), firstN h k n = none → ∀ i, k ≤ i → i < k + n → h i = none := by
  intro n
  induction n with
  | zero => intro k _ i h1 h2; omega
  | succ n ih =>
    intro k z i h1 h2
    unfold firstN at z
    cases e : h k with
    | some u => rw [e] at z; cases z
    | none =>
      rw [e] at z
      rcases Nat.lt_or_ge k i with c | c
      · exact ih (k + 1) z i (by omega) (by omega)
      · have : i = k := by omega
        rw [this]; exact e
def noHalf (rs : List (List Nat)) (w : List Nat) : Prop := ∀ t ∈ knownL rs, subIx (halfL t) w = none
theorem rsH_good {rs : List (List Nat)} (h : okRs rs) {w : List Nat} (hl : w.length ≤ 2000) : ∃ o : Option Stp, (∀ s, o = some s → goodS rs w s) ∧ (o = none ↔ noHalf rs w) ∧ (match firstN (rsH (knownL rs) w) 0 (knownL rs).length with | none => S.fz .non | some v => v) = .fz (optD o) := by
  cases c : firstN (rsH (knownL rs) w) 0 (knownL rs).length with
  | none =>
    refine ⟨none, (fun _ z => nomatch z), ⟨fun _ t ht => ?_, fun _ => rfl⟩, rfl⟩
    obtain ⟨i, hi⟩ := List.getElem?_of_mem ht
    have hlt : i < (knownL rs).length := (List.getElem?_eq_some_iff.mp hi).1
    have := firstN_no _ _ c i (Nat.zero_le _) (by omega)
    rw [rsH_at hi] at this
    cases q : subIx (halfL t) w with
    | none => rfl
    | some p => rw [q] at this; cases this
  | some v =>
    obtain ⟨i, hi⟩ := firstN_at _ _ c
    cases e : (knownL rs)[i]? with
    | none =>
      unfold rsH at hi
      rw [e] at hi; cases hi
    | some t =>
      rw [rsH_at e] at hi
      cases q : subIx (halfL t) w with
      | none => rw [q] at hi; cases hi
      | some p =>
        rw [q] at hi
        refine ⟨some (.ring p t (lcp t (w.drop p))), fun s z => by cases z; exact ring_good h hl (List.mem_of_getElem? e) q, ⟨(fun z => nomatch z), fun z => ?_⟩, ?_⟩
        · rw [z t (List.mem_of_getElem? e)] at q; cases q
        · exact (Option.some.inj hi).symm
theorem repr_out2 {l : List (List Nat)} (h : ∀ b ∈ l, W b ∧ b.length ≤ 200) : ∃ x, fRepr (outS (thickD l)) = some (.fz (.str x)) := by
  cases c : thickD l with
  | none => exact ⟨_, repr_tree (s := .fz .non) (d := .non) rfl (reprOk_lf lf_n)⟩
  | some v =>
    obtain ⟨a, b, rfl, ha, hb⟩ := thickD_some c
    have la := h a ha
    have lb := h b hb
    refine ⟨_, repr_tree (s := .fz (pieceD a b)) (d := pieceD a b) rfl (reprOk_tup (fun d hd => ?_) (by simp))⟩
    simp only [List.mem_cons, List.not_mem_nil, or_false] at hd
    rcases hd with rfl | rfl | rfl
    · exact lf_s la.2 la.1
    · exact lf_s lb.2 lb.1
    · exact lf_s (by rw [List.length_take]; have := la.2; omega) (la.1.take _)
end GB

/-! words that commute -/
namespace GB
open PySem PySem.Spec PyProof.Rows L2
/-- nothing falls out where a ends and b begins -/
def Jn (a b : List Nat) : Prop := ∀ x y, a.getLast? = some x → b.head? = some y → y ≠ bk x
theorem tidy_app : ∀ {a b : List Nat}, W a → W b → (tidy (a ++ b) = true ↔ tidy a = true ∧ tidy b = true ∧ Jn a b)
  | [], b, _, _ => ⟨fun h => ⟨rfl, h, fun x y h => nomatch h⟩, fun h => h.2.1⟩
  | [x], [], _, _ => ⟨fun h => ⟨rfl, rfl, fun x y _ h => nomatch h⟩, fun h => rfl⟩
  | [x], y :: b, ha, hb => by
    show (decide (x ≠ bk y) && tidy (y :: b)) = true ↔ _
    rw [Bool.and_eq_true, decide_eq_true_iff]
    have hx := ha.head
    have hy := hb.head
    constructor
    · rintro ⟨h1, h2⟩
      refine ⟨rfl, h2, fun u v hu hv e => ?_⟩
      cases hu; cases hv
      exact h1 (by rw [e]; exact (bk_bk hx).symm)
    · rintro ⟨_, h2, h3⟩
      exact ⟨fun e => h3 x y rfl rfl (by rw [e, bk_bk hy]), h2⟩
  | x :: x' :: a, b, ha, hb => by
    have ih := tidy_app (a := x' :: a) (b := b) ha.tail hb
    show (decide (x ≠ bk x') && tidy (x' :: a ++ b)) = true ↔ (decide (x ≠ bk x') && tidy (x' :: a)) = true ∧ _ ∧ _
    rw [Bool.and_eq_true, ih, Bool.and_eq_true]
    have e : Jn (x :: x' :: a) b ↔ Jn (x' :: a) b := by
      unfold Jn
      rw [List.getLast?_cons_cons]
    rw [e]
    exact ⟨fun ⟨h1, h2, h3, h4⟩ => ⟨⟨h1, h2⟩, h3, h4⟩, fun ⟨⟨h1, h2⟩, h3, h4⟩ => ⟨h1, h2, h3, h4⟩⟩
theorem head_bkw (w : List Nat) : (bkw w).head? = w.getLast?.map bk := by
  unfold bkw
  rw [List.head?_reverse, List.getLast?_map]
theorem last_bkw (w : List Nat) : (bkw w).getLast? = w.head?.map bk := by
  unfold bkw
  rw [List.getLast?_reverse, List.head?_map]
theorem bkw_cons (x : Nat) (w : List Nat) : bkw (x :: w) = bkw w ++ [bk x] := by unfold bkw; simp
theorem bkw_nil : bkw [] = [] := rfl
theorem tidy_bkw : ∀ {w : List Nat}, W w → tidy w = true → tidy (bkw w) = true
  | [], _, _ => rfl
  | x :: w, h, t => by
    have hx := h.head
    have t' : tidy ([x] ++ w) = true := t
    rw [tidy_app (W1 hx) h.tail] at t'
    obtain ⟨_, t1, j⟩ := t'
    rw [bkw_cons, tidy_app h.tail.bkw (W1 (bk_isL hx))]
    refine ⟨tidy_bkw h.tail t1, rfl, fun u v hu hv e => ?_⟩
    cases hv
    rw [last_bkw] at hu
    cases w with
    | nil => cases hu
    | cons y w =>
      have hu : some (bk y) = some u := hu
      cases hu
      have hy := h.tail.head
      rw [bk_bk hy] at e
      exact j x y rfl rfl e.symm
theorem run_full : ∀ (w s : List Nat), (run s w).length = s.length + w.length → run s w = w.reverse ++ s
  | [], s, _ => rfl
  | c :: w, s, h => by
    have h1 := run_len w (step s c)
    have h2 := step_len s c
    have h : (run (step s c) w).length = s.length + (c :: w).length := h
    rw [List.length_cons] at h
    have e : step s c = c :: s := by
      cases s with
      | nil => rfl
      | cons x s =>
        have h3 : (step (x :: s) c).length = (x :: s).length + 1 := by omega
        unfold step at h3 ⊢
        dsimp only at h3 ⊢
        split
        · rename_i z
          rw [if_pos z] at h3
          rw [List.length_cons] at h3
          omega
        · rfl
    show run (step s c) w = _
    rw [e] at h ⊢
    rw [run_full w (c :: s) (by rw [h, List.length_cons]; omega), List.reverse_cons, List.append_assoc]
    rfl
theorem red_full {w : List Nat} (h : (red w).length = w.length) : red w = w := by
  unfold red at h ⊢
  rw [List.length_reverse] at h
  rw [run_full w [] (by rw [h]; simp), List.append_nil, List.reverse_reverse]
theorem back_commutes {c v : List Nat} (hc : W c) (hv : W v) (e : red (v ++ c) = red (c ++ v)) : red (v ++ bkw c) = red (bkw c ++ v) := by
  have h1 : red (bkw c ++ red (v ++ c) ++ bkw c) = red (bkw c ++ (v ++ c) ++ bkw c) := red_mid hc.bkw (hv.app hc) hc.bkw
  have h2 : red (bkw c ++ red (c ++ v) ++ bkw c) = red (bkw c ++ (c ++ v) ++ bkw c) := red_mid hc.bkw (hc.app hv) hc.bkw
  rw [e, h2] at h1
  have h3 : red (bkw c ++ (v ++ c) ++ bkw c) = red (bkw c ++ v) := by
    have a : bkw c ++ (v ++ c) ++ bkw c = (bkw c ++ v) ++ (c ++ bkw c) := by simp only [List.append_assoc]
    rw [a, ← red_r (hc.bkw.app hv) (hc.app hc.bkw), red_back hc, List.append_nil]
  have h4 : red (bkw c ++ (c ++ v) ++ bkw c) = red (v ++ bkw c) := by
    have a : bkw c ++ (c ++ v) ++ bkw c = (bkw c ++ c) ++ (v ++ bkw c) := by simp only [List.append_assoc]
    rw [a, ← red_l (hc.bkw.app hc) (hv.app hc.bkw), red_back' hc, List.nil_append]
  rw [h3, h4] at h1
  exact h1
theorem commute_one {c v : List Nat} (hc : W c) (hv : W v) (tc : tidy c = true) (tv : tidy v = true) (j : Jn v c) (e : red (v ++ c) = red (c ++ v)) : v ++ c = c ++ v := by
  have h1 : red (v ++ c) = v ++ c := (red_self (hv.app hc)).mpr ((tidy_app hv hc).mpr ⟨tv, tc, j⟩)
  rw [h1] at e
  have h2 : red (c ++ v) = c ++ v := red_full (by rw [← e, List.length_append, List.length_append]; omega)
  rw [e, h2]
theorem commute_words {c v : List Nat} (hc : W c) (hv : W v) (tc : tidy c = true) (tv : tidy v = true) (jc : Jn c c) (e : red (v ++ c) = red (c ++ v)) : v ++ c = c ++ v ∨ v ++ bkw c = bkw c ++ v := by
  by_cases j : Jn v c
  · exact .inl (commute_one hc hv tc tv j e)
  · refine .inr (commute_one hc.bkw hv (tidy_bkw hc tc) tv (fun x' y' hx' hy' e2 => ?_) (back_commutes hc hv e))
    refine j fun x y hx hy e3 => ?_
    have ex : x' = x := by
      rw [hx] at hx'; exact (Option.some.inj hx').symm
    rw [head_bkw] at hy'
    cases q : c.getLast? with
    | none => rw [q] at hy'; cases hy'
    | some z =>
      rw [q] at hy'
      have hy' : some (bk z) = some y' := hy'
      cases hy'
      have hz : isL z = true := hc z (List.mem_of_getLast? q)
      have hxl : isL x' = true := by rw [ex]; exact hv x (List.mem_of_getLast? hx)
      have ez : z = x := (bk_inj hz hxl e2).trans ex
      rw [← ez] at e3
      exact jc z y q hy e3
/-! words as lists that commute -/
theorem rep_add (t : List Nat) : ∀ a b : Nat, rep t (a + b) = rep t a ++ rep t b
  | 0, b => by rw [Nat.zero_add, rep_0, List.nil_append]
  | a + 1, b => by rw [Nat.add_right_comm, rep_succ, rep_succ, rep_add t a b, List.append_assoc]
theorem rep_snoc (t : List Nat) (k : Nat) : rep t (k + 1) = rep t k ++ t := by rw [rep_add, rep_1]
theorem rep_rep (t : List Nat) (k : Nat) : ∀ q : Nat, rep (rep t k) q = rep t (k * q)
  | 0 => rfl
  | q + 1 => by rw [rep_succ, rep_rep t k q, ← rep_add, Nat.mul_succ, Nat.add_comm]
theorem pre_of {u v x y : List Nat} (h : u ++ x = v ++ y) (l : u.length ≤ v.length) : v = u ++ v.drop u.length := by
  have e := congrArg (fun z : List Nat => z.take u.length) h
  rw [List.take_left' rfl, List.take_append_of_le_length l] at e
  conv => lhs; rw [← List.take_append_drop u.length v]
  rw [← e]
theorem common : ∀ (n : Nat) (u v : List Nat), u.length + v.length ≤ n → u ++ v = v ++ u → ∃ t a b, u = rep t a ∧ v = rep t b
  | 0, u, v, hl, _ => by
    have hu : u = [] := List.length_eq_zero_iff.mp (by omega)
    have hv : v = [] := List.length_eq_zero_iff.mp (by omega)
    exact ⟨[], 0, 0, by rw [hu, rep_0], by rw [hv, rep_0]⟩
  | n + 1, u, v, hl, h => by
    by_cases hu : u = []
    · exact ⟨v, 0, 1, by rw [hu, rep_0], (rep_1 v).symm⟩
    · by_cases hv : v = []
      · exact ⟨u, 1, 0, (rep_1 u).symm, by rw [hv, rep_0]⟩
      · have pu : 0 < u.length := List.length_pos_iff.mpr hu
        have pv : 0 < v.length := List.length_pos_iff.mpr hv
        by_cases le : u.length ≤ v.length
        · have e := pre_of h le
          generalize v.drop u.length = v' at e
          subst e
          rw [List.length_append] at hl
          rw [List.append_assoc] at h
          obtain ⟨t, a, b, h1, h2⟩ := common n u v' (by omega) (List.append_cancel_left h)
          exact ⟨t, a, a + b, h1, by rw [rep_add, ← h1, ← h2]⟩
        · have e := pre_of h.symm (by omega)
          generalize u.drop v.length = u' at e
          subst e
          rw [List.length_append] at hl
          rw [List.append_assoc] at h
          obtain ⟨t, a, b, h1, h2⟩ := common n u' v (by omega) (List.append_cancel_left h)
          exact ⟨t, b + a, b, by rw [rep_add, ← h1, ← h2], h2⟩
/-- no power of another word -/
def Prim (r : List Nat) : Prop := r ≠ [] ∧ ∀ t k, r = rep t k → k ≤ 1
theorem rep_comm (r : List Nat) (m : Nat) : rep r m ++ r = r ++ rep r m := by rw [← rep_snoc, rep_succ]
theorem prim_comm {r : List Nat} (hp : Prim r) : ∀ (n : Nat) (v : List Nat) (m : Nat), v.length ≤ n → 1 ≤ m → v ++ rep r m = rep r m ++ v → ∃ j, v = rep r j
  | 0, v, m, hl, _, _ => ⟨0, by rw [rep_0]; exact List.length_eq_zero_iff.mp (by omega)⟩
  | n + 1, v, m, hl, hm, h => by
    have pr : 0 < r.length := List.length_pos_iff.mpr hp.1
    obtain ⟨q, rfl⟩ : ∃ q, m = q + 1 := ⟨m - 1, by omega⟩
    by_cases le : r.length ≤ v.length
    · have h' : r ++ (rep r q ++ v) = v ++ rep r (q + 1) := by rw [h, rep_succ, List.append_assoc]
      have e := pre_of h' le
      generalize v.drop r.length = v' at e
      subst e
      rw [List.length_append] at hl
      have h2 : v' ++ rep r (q + 1) = rep r (q + 1) ++ v' := by
        have h3 : r ++ (v' ++ rep r (q + 1)) = r ++ (rep r (q + 1) ++ v') := by
          rw [← List.append_assoc, h, ← List.append_assoc, rep_comm, List.append_assoc]
        exact List.append_cancel_left h3
      obtain ⟨j, hj⟩ := prim_comm hp n v' (q + 1) (by omega) hm h2
      exact ⟨j + 1, by rw [rep_succ, ← hj]⟩
    · have h' : v ++ rep r (q + 1) = r ++ (rep r q ++ v) := by rw [h, rep_succ, List.append_assoc]
      have ev := pre_of h' (by omega)
      -- v ++ r = r ++ v
      have t : (rep r q ++ v).take v.length = v := by
        cases q with
        | zero => rw [rep_0, List.nil_append, List.take_length]
        | succ q =>
          rw [rep_succ, List.append_assoc, List.take_append_of_le_length (by omega)]
          conv => lhs; rw [ev]
          exact List.take_left' rfl
      have e := congrArg (fun z : List Nat => z.take (v.length + r.length)) h'
      rw [rep_succ, ← List.append_assoc, List.take_left' (by rw [List.length_append]), Nat.add_comm, List.take_length_add_append, t] at e
      obtain ⟨t, a, b, h1, h2⟩ := common _ v r (Nat.le_refl _) e
      have := hp.2 t b h2
      have hb : b = 1 := by
        rcases Nat.lt_or_ge b 1 with z | z
        · have : b = 0 := by omega
          rw [this, rep_0] at h2
          exact absurd h2 hp.1
        · omega
      rw [hb, rep_1] at h2
      exact ⟨a, by rw [h1, h2]⟩
theorem per_rep {t : List Nat} (h : t ≠ []) {k : Nat} (hk : 1 ≤ k) : per (rep t k) t.length = true := by
  obtain ⟨q, rfl⟩ : ∃ q, k = q + 1 := ⟨k - 1, by omega⟩
  have : 0 < t.length := List.length_pos_iff.mpr h
  refine decide_eq_true ?_
  have e : (rep t (q + 1)).take t.length = t := by rw [rep_succ]; exact List.take_left' rfl
  rw [rep_len2, Nat.mul_div_cancel _ this, e]
theorem root_spec {c : List Nat} (h : c ≠ []) : c = rep (c.take (rootS c)) (c.length / rootS c) ∧ 1 ≤ c.length / rootS c ∧ Prim (c.take (rootS c)) := by
  obtain ⟨s, l, e, h1, h2, h3⟩ := sizesL_cons h
  have er : rootS c = s := by unfold rootS; rw [e]; rfl
  rw [er]
  have hc : rep (c.take s) (c.length / s) = c := of_decide_eq_true h2
  have pos : 1 ≤ c.length / s := (Nat.one_le_div_iff (by omega)).mpr h1.2
  have lr : (c.take s).length = s := by rw [List.length_take]; omega
  refine ⟨hc.symm, pos, fun z => by rw [z] at lr; simp at lr; omega, fun t k hk => ?_⟩
  refine Classical.byContradiction fun n => ?_
  have hl : s = k * t.length := by rw [← lr, hk, rep_len2]
  have tp : 0 < t.length := by
    rcases Nat.eq_zero_or_pos t.length with z | z
    · rw [z] at hl; omega
    · exact z
  have ct : c = rep t (k * (c.length / s)) := by rw [← rep_rep, ← hk, hc]
  have km : 1 ≤ k * (c.length / s) := Nat.mul_pos (by omega) pos
  have tl : t.length ≤ c.length := by
    have : t.length ≤ k * t.length := Nat.le_mul_of_pos_left _ (by omega)
    omega
  have p := per_rep (t := t) (fun z => by rw [z] at tp; simp at tp) km
  rw [← ct] at p
  have le := h3 t.length tp tl p
  have : 2 * t.length ≤ k * t.length := Nat.mul_le_mul_right _ (by omega)
  omega
theorem root_rep {r : List Nat} (hp : Prim r) {j : Nat} (hj : 1 ≤ j) : rootS (rep r j) = r.length := by
  have pr : 0 < r.length := List.length_pos_iff.mpr hp.1
  have hne : rep r j ≠ [] := fun z => by
    have := congrArg List.length z
    rw [rep_len2] at this
    have := Nat.mul_pos (show 0 < j by omega) pr
    simp at *; omega
  obtain ⟨s, l, e, h1, h2, h3⟩ := sizesL_cons hne
  have er : rootS (rep r j) = s := by unfold rootS; rw [e]; rfl
  obtain ⟨q1, q2, q3⟩ := root_spec hne
  rw [er] at q1 q2 q3
  rw [er]
  have ls : ((rep r j).take s).length = s := by rw [List.length_take]; omega
  generalize (rep r j).take s = t at *
  generalize (rep r j).length / s = q at *
  have cm : r ++ rep t q = rep t q ++ r := by rw [← q1, rep_comm]
  obtain ⟨i, hi⟩ := prim_comm q3 r.length r q (Nat.le_refl _) q2 cm
  have := hp.2 t i hi
  have : i = 1 := by
    rcases Nat.eq_zero_or_pos i with z | z
    · rw [z, rep_0] at hi; exact absurd hi hp.1
    · omega
  rw [this, rep_1] at hi
  rw [hi, ls]
/-! the core, told apart -/
theorem coreK_spec {s : List Nat} : ∀ (n k : Nat), n + k = s.length → (∀ i, i < k → endsUndo s i = true) → (∀ i, i < coreK s n k → endsUndo s i = true) ∧ endsUndo s (coreK s n k) = false
  | 0, k, hk, h => by
    refine ⟨h, ?_⟩
    show endsUndo s k = false
    rw [← Bool.not_eq_true]
    intro z
    have := endsUndo_lt z
    omega
  | n + 1, k, hk, h => by
    unfold coreK
    by_cases c : endsUndo s k = true
    · rw [if_pos c]
      exact coreK_spec n (k + 1) (by omega) fun i hi => by
        rcases Nat.lt_or_ge i k with z | z
        · exact h i z
        · have : i = k := by omega
          rw [this]; exact c
    · rw [if_neg c]
      exact ⟨h, by simpa using c⟩
theorem core_spec (s : List Nat) : (∀ i, i < coreN s → endsUndo s i = true) ∧ endsUndo s (coreN s) = false := coreK_spec s.length 0 (by omega) fun i h => absurd h (Nat.not_lt_zero i)
theorem core_uniq {s : List Nat} {N : Nat} (h1 : ∀ i, i < N → endsUndo s i = true) (h2 : endsUndo s N = false) : coreN s = N := by
  obtain ⟨g1, g2⟩ := core_spec s
  rcases Nat.lt_trichotomy (coreN s) N with z | z | z
  · rw [h1 _ z] at g2; cases g2
  · exact z
  · rw [g1 _ z] at h2; cases h2
theorem bkw_at {u : List Nat} {k : Nat} (h : k < u.length) : (bkw u)[k]? = (u[u.length - 1 - k]?).map bk := by
  unfold bkw
  rw [List.getElem?_reverse (by rw [List.length_map]; exact h), List.length_map, List.getElem?_map]
theorem ends_at {s : List Nat} {k : Nat} (h : endsUndo s k = true) : ∃ x y, s[k]? = some x ∧ s[s.length - 1 - k]? = some y ∧ x = bk y := by
  unfold endsUndo at h
  rw [Bool.and_eq_true] at h
  have h := h.2
  split at h
  · exact ⟨_, _, by assumption, by assumption, of_decide_eq_true h⟩
  · cases h
theorem core_split {s : List Nat} (hw : W s) : s.take (coreN s) ++ midK s (coreN s) ++ bkw (s.take (coreN s)) = s ∧ 2 * coreN s ≤ s.length := by
  obtain ⟨g1, g2⟩ := core_spec s
  have hN : 2 * coreN s ≤ s.length := by
    rcases Nat.eq_zero_or_pos (coreN s) with z | z
    · omega
    · have := endsUndo_lt (g1 (coreN s - 1) (by omega)); omega
  refine ⟨?_, hN⟩
  generalize coreN s = N at *
  have lt : (s.take N).length = N := by rw [List.length_take]; omega
  refine List.ext_getElem? fun i => ?_
  rw [List.getElem?_append, List.length_append, lt, midK_len]
  by_cases c1 : i < N + (s.length - 2 * N)
  · rw [if_pos c1, List.getElem?_append, lt]
    by_cases c2 : i < N
    · rw [if_pos c2, List.getElem?_take, if_pos c2]
    · rw [if_neg c2, midK_at (by omega)]
      congr 1; omega
  · rw [if_neg c1]
    by_cases c3 : i < s.length
    · rw [bkw_at (by rw [lt]; omega), lt, List.getElem?_take, if_pos (by omega)]
      obtain ⟨x, y, hx, hy, e⟩ := ends_at (g1 (s.length - 1 - i) (by omega))
      have e1' : N - 1 - (i - (N + (s.length - 2 * N))) = s.length - 1 - i := by omega
      have e2' : s.length - 1 - (s.length - 1 - i) = i := by omega
      rw [e1', hx]
      rw [e2'] at hy
      rw [hy, e]
      show some (bk (bk y)) = some y
      rw [bk_bk (hw y (List.mem_of_getElem? hy))]
    · rw [List.getElem?_eq_none (by rw [bkw_len, lt]; omega), List.getElem?_eq_none (by omega)]
theorem core_jn {s : List Nat} (hw : W s) (ht : tidy s = true) (hne : s ≠ []) : midK s (coreN s) ≠ [] ∧ Jn (midK s (coreN s)) (midK s (coreN s)) := by
  obtain ⟨g1, g2⟩ := core_spec s
  have sp : 0 < s.length := List.length_pos_iff.mpr hne
  have hN : 2 * coreN s < s.length := by
    rcases Nat.eq_zero_or_pos (coreN s) with z | z
    · omega
    · have q := g1 (coreN s - 1) (by omega)
      have l := endsUndo_lt q
      obtain ⟨x, y, hx, hy, e⟩ := ends_at q
      rcases Nat.lt_or_ge (2 * coreN s) s.length with z2 | z2
      · exact z2
      · exfalso
        have e1' : s.length - 1 - (coreN s - 1) = coreN s - 1 + 1 := by omega
        rw [e1'] at hy
        have := (tidy_ix hw).mp ht _ x y hx hy
        exact this (by rw [e, bk_bk (hw y (List.mem_of_getElem? hy))])
  generalize coreN s = N at *
  have ml := midK_len s N
  refine ⟨fun z => by rw [z] at ml; simp at ml; omega, fun x y hx hy e => ?_⟩
  rw [List.getLast?_eq_getElem?, ml, midK_at (by omega)] at hx
  rw [List.head?_eq_getElem?, midK_at (by omega)] at hy
  have e1' : N + (s.length - 2 * N - 1) = s.length - 1 - N := by omega
  rw [e1'] at hx
  rw [Nat.add_zero] at hy
  by_cases c : 2 * N + 1 < s.length
  · have : endsUndo s N = true := by
      unfold endsUndo
      rw [hx, hy, decide_eq_true c]
      exact decide_eq_true e
    rw [this] at g2; cases g2
  · have e2' : s.length - 1 - N = N := by omega
    rw [e2', hy] at hx
    cases hx
    exact bk_ne (hw x (List.mem_of_getElem? hy)) e.symm
theorem core_of {p d : List Nat} (hp : W p) (hd : W d) (hne : d ≠ []) (j : Jn d d) : coreN (p ++ d ++ bkw p) = p.length ∧ midK (p ++ d ++ bkw p) p.length = d := by
  have dp : 0 < d.length := List.length_pos_iff.mpr hne
  have ls : (p ++ d ++ bkw p).length = p.length + d.length + p.length := by simp only [List.length_append, bkw_len]
  have at1 : ∀ i, i < p.length → (p ++ d ++ bkw p)[i]? = p[i]? := fun i hi => by
    rw [List.append_assoc, List.getElem?_append_left hi]
  have at2 : ∀ i, i < d.length → (p ++ d ++ bkw p)[p.length + i]? = d[i]? := fun i hi => by
    rw [List.append_assoc, List.getElem?_append_right (by omega), List.getElem?_append_left (by omega)]
    congr 1; omega
  have at3 : ∀ i, i < p.length → (p ++ d ++ bkw p)[p.length + d.length + p.length - 1 - i]? = (p[i]?).map bk := fun i hi => by
    rw [List.getElem?_append_right (by rw [List.length_append]; omega), List.length_append, bkw_at (by omega)]
    congr 2; omega
  refine ⟨core_uniq (fun i hi => ?_) ?_, ?_⟩
  · have hx : p[i]? = some p[i] := List.getElem?_eq_getElem hi
    unfold endsUndo
    rw [ls, at1 i hi, at3 i hi, hx, decide_eq_true (by omega)]
    exact decide_eq_true (bk_bk (hp _ (List.getElem_mem hi))).symm
  · unfold endsUndo
    rw [ls]
    by_cases c : 2 * p.length + 1 < p.length + d.length + p.length
    · have hx : d[0]? = some d[0] := List.getElem?_eq_getElem dp
      have hy : d[d.length - 1]? = some (d[d.length - 1]'(by omega)) := List.getElem?_eq_getElem (by omega)
      have a := at2 0 dp
      rw [Nat.add_zero] at a
      have b := at2 (d.length - 1) (by omega)
      rw [show p.length + (d.length - 1) = p.length + d.length + p.length - 1 - p.length from by omega] at b
      rw [a, b, hx, hy, decide_eq_true c]
      refine decide_eq_false ?_
      refine j _ _ (by rw [List.getLast?_eq_getElem?]; exact hy) (by rw [List.head?_eq_getElem?]; exact hx)
    · rw [decide_eq_false c]; rfl
  · refine List.ext_getElem? fun i => ?_
    by_cases c : i < d.length
    · rw [midK_at (by rw [ls]; omega)]
      exact at2 i c
    · rw [List.getElem?_eq_none (by rw [midK_len, ls]; omega), List.getElem?_eq_none (by omega)]
/-! powers of a word told by front and middle -/
theorem rep_red {u : List Nat} (h : W u) : ∀ j : Nat, red (rep (red u) j) = red (rep u j)
  | 0 => rfl
  | j + 1 => by
    rw [rep_succ, rep_succ, red_l h (rep_w (red_w h) j), ← red_r h (rep_w (red_w h) j), rep_red h j, red_r h (rep_w h j)]
theorem conj_rep {p r : List Nat} (hp : W p) (hr : W r) : ∀ j : Nat, red (rep (p ++ r ++ bkw p) j) = red (p ++ rep r j ++ bkw p)
  | 0 => by rw [rep_0, rep_0, List.append_nil, red_back hp]; rfl
  | j + 1 => by
    have hu : W (p ++ r ++ bkw p) := (hp.app hr).app hp.bkw
    have hv : W (p ++ rep r j ++ bkw p) := (hp.app (rep_w hr j)).app hp.bkw
    rw [rep_succ, ← red_r hu (rep_w hu j), conj_rep hp hr j, red_r hu hv]
    have e : (p ++ r ++ bkw p) ++ (p ++ rep r j ++ bkw p) = (p ++ r) ++ (bkw p ++ p) ++ (rep r j ++ bkw p) := by simp only [List.append_assoc]
    rw [e, ← red_mid (hp.app hr) (hp.bkw.app hp) ((rep_w hr j).app hp.bkw), red_back' hp, List.append_nil, rep_succ]
    simp only [List.append_assoc]
theorem head_rep {r : List Nat} (h : r ≠ []) {j : Nat} (hj : 1 ≤ j) : (rep r j).head? = r.head? := by
  obtain ⟨q, rfl⟩ : ∃ q, j = q + 1 := ⟨j - 1, by omega⟩
  rw [rep_succ]
  cases r with
  | nil => exact absurd rfl h
  | cons x r => rfl
theorem last_rep {r : List Nat} (h : r ≠ []) {j : Nat} (hj : 1 ≤ j) : (rep r j).getLast? = r.getLast? := by
  obtain ⟨q, rfl⟩ : ∃ q, j = q + 1 := ⟨j - 1, by omega⟩
  rw [rep_snoc, List.getLast?_append]
  cases e : r.getLast? with
  | none => rw [List.getLast?_eq_none_iff] at e; exact absurd e h
  | some x => rfl
theorem jn_rep {r : List Nat} (h : r ≠ []) {a b : Nat} (ha : 1 ≤ a) (hb : 1 ≤ b) : Jn (rep r a) (rep r b) ↔ Jn r r := by
  unfold Jn
  rw [last_rep h ha, head_rep h hb]
theorem tidy_rep {r : List Nat} (hr : W r) (h : r ≠ []) (t : tidy r = true) (j : Jn r r) : ∀ k : Nat, tidy (rep r k) = true
  | 0 => rfl
  | k + 1 => by
    rw [rep_succ, tidy_app hr (rep_w hr k)]
    refine ⟨t, tidy_rep hr h t j k, ?_⟩
    cases k with
    | zero => rw [rep_0]; exact fun x y _ z => nomatch z
    | succ k =>
      have := (jn_rep h (a := 1) (b := k + 1) (by omega) (by omega)).mpr j
      rw [rep_1] at this
      exact this
theorem jn_bkw {r : List Nat} (hr : W r) (j : Jn r r) : Jn (bkw r) (bkw r) := fun x y hx hy e => by
  rw [last_bkw] at hx
  rw [head_bkw] at hy
  cases q1 : r.head? with
  | none => rw [q1] at hx; cases hx
  | some u =>
    cases q2 : r.getLast? with
    | none => rw [q2] at hy; cases hy
    | some v =>
      rw [q1] at hx
      rw [q2] at hy
      have hx : some (bk u) = some x := hx
      have hy : some (bk v) = some y := hy
      cases hx; cases hy
      have hu : isL u = true := hr u (List.mem_of_head? q1)
      rw [bk_bk hu] at e
      exact j v u q2 q1 e.symm
/-- what two commuting words have in common -/
theorem commuting_main {f s : List Nat} (hf : W f) (hs : W s) (tf : tidy f = true) (ts : tidy s = true) (nf : f ≠ []) (nsv : s ≠ []) (e : red (f ++ s) = red (s ++ f)) : ∃ p r m r' j, W p ∧ W r ∧ Prim r ∧ 1 ≤ m ∧ 1 ≤ j ∧ (r' = r ∨ r' = bkw r) ∧ Prim r' ∧
    f.take (coreN f) = p ∧ midK f (coreN f) = rep r m ∧ s.take (coreN s) = p ∧ midK s (coreN s) = rep r' j ∧ f = p ++ rep r m ++ bkw p ∧ s = p ++ rep r' j ++ bkw p := by
  obtain ⟨sp, hN⟩ := core_split hf
  obtain ⟨nc, jc⟩ := core_jn hf tf nf
  have hp : W (f.take (coreN f)) := hf.take _
  have hc : W (midK f (coreN f)) := midK_w hf _
  obtain ⟨q1, q2, q3⟩ := root_spec nc
  generalize hpe : f.take (coreN f) = p at *
  generalize hce : midK f (coreN f) = c at *
  have hr : W (c.take (rootS c)) := hc.take _
  generalize c.take (rootS c) = r at *
  generalize c.length / rootS c = m at *
  have tf' := tf
  rw [← sp] at tf'
  rw [tidy_app (hp.app hc) hp.bkw, tidy_app hp hc] at tf'
  obtain ⟨⟨tp, tc, j1⟩, tb, j2⟩ := tf'
  -- the other word, seen from the middle
  have hv0 : W (bkw p ++ s ++ p) := (hp.bkw.app hs).app hp
  have hv : W (red (bkw p ++ s ++ p)) := red_w hv0
  have tv : tidy (red (bkw p ++ s ++ p)) = true := (red_self hv).mp (red_red hv0)
  have es : red (p ++ red (bkw p ++ s ++ p) ++ bkw p) = s := by
    rw [red_mid hp hv0 hp.bkw]
    have a : p ++ (bkw p ++ s ++ p) ++ bkw p = (p ++ bkw p) ++ (s ++ (p ++ bkw p)) := by simp only [List.append_assoc]
    rw [a, ← red_l (hp.app hp.bkw) (hs.app (hp.app hp.bkw)), red_back hp, List.nil_append, ← red_r hs (hp.app hp.bkw), red_back hp, List.append_nil]
    exact (red_self hs).mpr ts
  have ec : red (red (bkw p ++ s ++ p) ++ c) = red (c ++ red (bkw p ++ s ++ p)) := by
    rw [red_l hv0 hc, red_r hc hv0]
    have hfc : red (bkw p ++ f ++ p) = red c := by
      rw [← sp]
      have a : bkw p ++ (p ++ c ++ bkw p) ++ p = (bkw p ++ p) ++ (c ++ (bkw p ++ p)) := by simp only [List.append_assoc]
      rw [a, ← red_l (hp.bkw.app hp) (hc.app (hp.bkw.app hp)), red_back' hp, List.nil_append, ← red_r hc (hp.bkw.app hp), red_back' hp, List.append_nil]
    have hfw : W (bkw p ++ f ++ p) := (hp.bkw.app hf).app hp
    have l1 : red (bkw p ++ s ++ p ++ c) = red (bkw p ++ (s ++ f) ++ p) := by
      rw [← red_r hv0 hc, ← hfc, red_r hv0 hfw]
      have a : bkw p ++ s ++ p ++ (bkw p ++ f ++ p) = (bkw p ++ s) ++ (p ++ bkw p) ++ (f ++ p) := by simp only [List.append_assoc]
      rw [a, ← red_mid (hp.bkw.app hs) (hp.app hp.bkw) (hf.app hp), red_back hp, List.append_nil]
      simp only [List.append_assoc]
    have l2 : red (c ++ (bkw p ++ s ++ p)) = red (bkw p ++ (f ++ s) ++ p) := by
      rw [← red_l hc hv0, ← hfc, red_l hfw hv0]
      have a : bkw p ++ f ++ p ++ (bkw p ++ s ++ p) = (bkw p ++ f) ++ (p ++ bkw p) ++ (s ++ p) := by simp only [List.append_assoc]
      rw [a, ← red_mid (hp.bkw.app hf) (hp.app hp.bkw) (hs.app hp), red_back hp, List.append_nil]
      simp only [List.append_assoc]
    rw [l1, l2, ← red_mid hp.bkw (hs.app hf) hp, ← red_mid hp.bkw (hf.app hs) hp, e]
  generalize red (bkw p ++ s ++ p) = v at *
  have nv : v ≠ [] := fun z => by
    rw [z, List.append_nil, red_back hp] at es
    exact nsv es.symm
  have nr : r ≠ [] := q3.1
  have jr : Jn r r := by
    have := jc
    rw [q1] at this
    exact (jn_rep nr q2 q2).mp this
  have tr : tidy r = true := by
    have t := tc
    rw [q1] at t
    obtain ⟨q, rfl⟩ : ∃ q, m = q + 1 := ⟨m - 1, by omega⟩
    rw [rep_succ, tidy_app hr (rep_w hr q)] at t
    exact t.1
  have jpr : Jn p r := by
    have := j1
    unfold Jn at this ⊢
    rw [q1, head_rep nr q2] at this
    exact this
  have jrp : Jn r (bkw p) := by
    have := j2
    unfold Jn at this ⊢
    rw [List.getLast?_append] at this
    rw [q1, last_rep nr q2] at this
    intro x y hx hy
    exact this x y (by rw [hx]; rfl) hy
  have tj : ∀ j : Nat, 1 ≤ j → tidy (p ++ rep r j ++ bkw p) = true := fun j hj => by
    rw [tidy_app (hp.app (rep_w hr j)) hp.bkw, tidy_app hp (rep_w hr j)]
    refine ⟨⟨tp, tidy_rep hr nr tr jr j, ?_⟩, tb, ?_⟩
    · unfold Jn at jpr ⊢
      rw [head_rep nr hj]
      exact jpr
    · intro x y hx hy
      rw [List.getLast?_append, last_rep nr hj] at hx
      cases q : r.getLast? with
      | none => rw [List.getLast?_eq_none_iff] at q; exact absurd q nr
      | some z =>
        rw [q] at hx
        have hx : some z = some x := hx
        cases hx
        exact jrp _ y q hy
  -- the two ways
  have fin : ∀ (r' : List Nat) (j : Nat), W r' → Prim r' → Jn r' r' → (r' = r ∨ r' = bkw r) → (∀ j, 1 ≤ j → tidy (p ++ rep r' j ++ bkw p) = true) → v = rep r' j → ∃ p' r0 m0 r1 j1, W p' ∧ W r0 ∧ Prim r0 ∧ 1 ≤ m0 ∧ 1 ≤ j1 ∧ (r1 = r0 ∨ r1 = bkw r0) ∧ Prim r1 ∧
      p = p' ∧ c = rep r0 m0 ∧ s.take (coreN s) = p' ∧ midK s (coreN s) = rep r1 j1 ∧ f = p' ++ rep r0 m0 ++ bkw p' ∧ s = p' ++ rep r1 j1 ++ bkw p' := by
    intro r' j hr' hp' jr' ho ht hvj
    have hj : 1 ≤ j := by
      rcases Nat.eq_zero_or_pos j with z | z
      · rw [z, rep_0] at hvj; exact absurd hvj nv
      · exact z
    have hd : W (rep r' j) := rep_w hr' j
    have nd : rep r' j ≠ [] := by rw [← hvj]; exact nv
    have sv : s = p ++ rep r' j ++ bkw p := by
      rw [hvj] at es
      rw [← es]
      exact (red_self ((hp.app hd).app hp.bkw)).mpr (ht j hj)
    obtain ⟨c1, c2⟩ := core_of hp hd nd ((jn_rep hp'.1 hj hj).mpr jr')
    rw [← sv] at c1 c2
    refine ⟨p, r, m, r', j, hp, hr, q3, q2, hj, ho, hp', rfl, q1, ?_, ?_, ?_, sv⟩
    · rw [c1]
      conv => lhs; rw [sv]
      rw [List.append_assoc]
      exact List.take_left' rfl
    · rw [c1]; exact c2
    · rw [← q1]; exact sp.symm
  rcases commute_words hc hv tc tv jc ec with h | h
  · rw [q1] at h
    obtain ⟨j, hj⟩ := prim_comm q3 v.length v m (Nat.le_refl _) q2 h
    exact fin r j hr q3 jr (.inl rfl) tj hj
  · rw [q1, bkw_rep] at h
    have pb : Prim (bkw r) := by
      refine ⟨fun z => ?_, fun t k hk => ?_⟩
      · have := congrArg List.length z
        rw [bkw_len] at this
        exact nr (List.length_eq_zero_iff.mp this)
      · refine q3.2 (bkw t) k ?_
        rw [← bkw_rep, ← hk, bkw_bkw hr]
    obtain ⟨j, hj⟩ := prim_comm pb v.length v m (Nat.le_refl _) q2 h
    refine fin (bkw r) j hr.bkw pb (jn_bkw hr jr) (.inr rfl) (fun j hj => ?_) hj
    have t := tidy_bkw ((hp.app (rep_w hr j)).app hp.bkw) (tj j hj)
    rw [bkw_app, bkw_app, bkw_bkw hp, bkw_rep, ← List.append_assoc] at t
    exact t
end GB

/-! anything (not) in a tuple -/
namespace GB
open PySem PySem.Spec PyProof.Rows L2
def rNotInT (K : PySem.W.Frag) : R2 := fun x y H Q => ∃ d ds, Dp K H x d ∧ Dp K H y (.tuple ds) ∧ SeqAt.shaped d = true ∧ SeqAt.shaped (.tuple ds) = true ∧ Q (.bl (!ds.any fun z => PyData.eqv z d)) H
theorem op_notInT {X : Cx} (hu : X.A.units + 65 < cLine) : OpR X (compareOp .NotIn) (rNotInT X.K) := by
  intro pins s σ H x y v u Q I rx ry h
  obtain ⟨d, ds, hd, he, sd, se, q⟩ := h
  obtain ⟨as, r1⟩ := Dp.reads I d x v hd rx
  obtain ⟨bs, r2⟩ := Dp.reads I (.tuple ds) y u he ry
  exact SeqAt.notIn_tuple_reads r2 r1 (SeqAt.canLay_of_shaped se) (SeqAt.canLay_of_shaped sd) (room_in_shaped sd hu) ⟨.bl _, H, I, rfl, q⟩
def fNotInT (a b : S) : Option S := match a.tree, b with
  | some d, .fz (.tup ds) => if d.fit && (D.tup ds).fit then some (.fz (.bl (!(pyAll ds).any fun z => PyData.eqv z d.py))) else none
  | _, _ => none
theorem pn_notInT {C : Ct} : PN C (fun vs H Q => ∃ x y, vs = [x, y] ∧ rNotInT C.K x y H Q) (p2 fNotInT) := by
  refine pn2 fun U W H x y a b s Q lv xa xb h q => ?_
  unfold fNotInT at h
  split at h
  · rename_i d ds e
    by_cases z : (d.fit && (D.tup ds).fit) = true
    · rw [if_pos z] at h; cases h
      rw [Bool.and_eq_true] at z
      have z1 := Bool.and_eq_true_iff.mp (show (SeqAt.shaped d.py && !d.py.hasDict) = true from z.1)
      have z2 := Bool.and_eq_true_iff.mp (show (SeqAt.shaped (D.tup ds).py && !(D.tup ds).py.hasDict) = true from z.2)
      have e2 : (D.tup ds).py = .tuple (pyAll ds) := by rw [D.py]
      have t2 := tree_dp xb (d := .tup ds) rfl (by simpa using z2.2)
      rw [e2] at t2 z2
      exact ⟨_, _, tree_dp xa e (by simpa using z1.2), t2, z1.1, z2.1, q _ _ (.same (.bl _))⟩
    · rw [if_neg z] at h; cases h
  · cases h
section
variable {X : Cx} {C : Ct} {a b : Expr} {fa fb : Rho → Rs Opd} {pos : Pos}
theorem hu65 {A : Around} {k : Nat} (hr : Room k A) : A.units + 65 < cLine := by have := hr.un; omega
theorem x_notInT (hr : X.A.units + 65 < cLine) (ha : GE X C a fa) (hb : GE X C b fb) (hK : C.K = X.K := by rfl) (hm : behindInMarks .NotIn b = false := by with_unfolding_all rfl) : GE X C (.Compare a [.NotIn] [b] pos) (e2 (p2 fNotInT) fa fb) := ge_op pn_notInT (by rw [hK]; exact pe_cmpR (op_notInT hr) ha hb hm)
theorem t_notInT (hr : X.A.units + 65 < cLine) (ha : GE X C a fa) (hb : GE X C b fb) (hK : C.K = X.K := by rfl) (hm : behindInMarks .NotIn b = false := by with_unfolding_all rfl) : GT X C (.Compare a [.NotIn] [b] pos) (eBl (e2 (p2 fNotInT) fa fb)) := gt_cmp (by rw [hK]; exact op_notInT hr) pn_notInT ha hb hm
end
/-- data that may be compared -/
theorem fit_of {d : D} (h : eqT d) : d.fit = true := by
  obtain ⟨h1, h2, h3⟩ := h
  show ((d.py.canLay0 && decide (d.py.depth ≤ 64)) && !d.py.hasDict) = true
  rw [h1, h3, decide_eq_true (by omega)]; rfl
theorem notInT_eq {d : D} {ds : List D} (h : eqT d) (hs : ∀ e ∈ ds, eqL e) : fNotInT (.fz d) (.fz (.tup ds)) = some (.fz (.bl (!(pyAll ds).any fun z => PyData.eqv z d.py))) := by
  show (if d.fit && (D.tup ds).fit then some (S.fz (.bl (!(pyAll ds).any fun z => PyData.eqv z d.py))) else none) = _
  rw [fit_of h, fit_tup hs]; rfl
end GB

/-! l.index(x) of a list -/
namespace GB
open PySem PySem.Spec PyProof.Rows L2
section
variable {X : Cx} {C : Ct}
def isLs (s : S) : Bool := (asLs s).isSome
theorem isLs_ty (U W : Addr → Prop) (H : Hp) (v : V) (s : S) (x : SR C.K U W H v s) (h : isLs s = true) : tyV C.K "list" v H := by
  unfold isLs at h
  cases e : asLs s with
  | none => rw [e] at h; cases h
  | some ds =>
    obtain ⟨p, xs, rfl, h2, h3⟩ := asLs_of x e
    exact .inl ⟨rfl, xs, h2⟩
def fLIndex (a b : S) : Option S := match asLs a, b with
  | some ds, .fz d => if d.flat && ds.all D.flat then (ds.findIdx? fun e => eqFlat e d).map fun n => .fz (.int (n : Nat)) else none
  | _, _ => none
theorem pn_lindex : PN C (fun vs H Q => ∃ x xs, vs = x :: xs ∧ rIndex C.K x xs H Q) (p2 fLIndex) := by
  refine pnm1 (rr := rIndex C.K) fun U W H x y a b s Q lv xa xb h q => ?_
  unfold fLIndex at h
  split at h
  · rename_i ds d e
    by_cases z : (d.flat && ds.all D.flat) = true
    · rw [if_pos z] at h
      rw [Bool.and_eq_true] at z
      cases e2 : ds.findIdx? fun e => eqFlat e d with
      | none => rw [e2] at h; cases h
      | some n =>
        rw [e2] at h; cases h
        obtain ⟨p, xs, rfl, h2, h3⟩ := asLs_of xa e
        cases xb with
        | fz xb =>
          rw [List.findIdx?_eq_some_iff_getElem] at e2
          obtain ⟨hn, g1, g2⟩ := e2
          obtain ⟨w, w1, w2⟩ := rps_at h3 (List.getElem?_eq_getElem hn)
          have fl : ∀ {e : D}, e ∈ ds → e.flat = true := fun he => List.all_eq_true.mp z.2 _ he
          refine ⟨p, xs, y, n, w, rfl, rfl, h2, flat_v xb z.1, rps_flat h3 z.2, w1, ?_, fun m z' hm hz' => ?_, q _ _ (.same (.int _))⟩
          · rw [eqFlat_v w2 xb (fl (List.getElem_mem hn)) z.1]; exact g1
          · have hml : m < ds.length := by omega
            obtain ⟨w', w1', w2'⟩ := rps_at h3 (List.getElem?_eq_getElem hml)
            rw [w1'] at hz'
            cases hz'
            rw [eqFlat_v w2' xb (fl (List.getElem_mem hml)) z.1]
            have := g2 m hm
            simpa using this
    · rw [if_neg z] at h; cases h
  · cases h
variable {e o : Expr} {fe fo : Rho → Rs Opd} {apos cpos : Pos}
theorem x_lindex (ho : GE X C o fo) (ha : GE X C e fe) (mc : MCall X o "index" apos e [] cpos) (hK : C.K = X.K := by rfl) : GE X C (.Call (.Attribute o "index" apos) [e] [] cpos) (eMeth isLs (p2 fLIndex) fo (eCons fe eNil)) :=
  ge_meth (pe_bm PySem.F.plainAttrs_list PySem.F.slot_list_index PySem.F.type_list_index mt_index ho (ga_cons ha ga_nil mc.star) mc.base mc.few mc.line mc.star mc.plain) (by rw [← hK]; exact isLs_ty) (by rw [← hK]; exact pn_lindex)
end
/-! l.count(x) -/
theorem countP_vals {y : V} {uy : Value} (ry : RelV y uy) : ∀ {ys : List V} {its : List Value}, Vals ys its → ys.all flatV = true → its.countP (eqU y) = ys.countP fun z => eqV z y
  | _, _, .nil, _ => rfl
  | _, _, .cons r t, h => by
    rw [List.all_cons, Bool.and_eq_true] at h
    rw [List.countP_cons, List.countP_cons, countP_vals ry t h.2, eqU_of r h.1]
def rFCount (K : PySem.W.Frag) : V → List V → Hp → VK → Prop := fun x xs H Q => ∃ (a : Addr) (ys : List V) (y : V), x = V.ref a ∧ xs = [y] ∧ SqL K H a ys ∧ flatV y = true ∧ ys.all flatV = true ∧ Q (.int ((ys.countP fun z => eqV z y : Nat) : Nat)) H
theorem mt_fcount {X : Cx} : MtR X "list.count" (rFCount X.K) := by
  intro pins s σ H x xs v us Q I rx rxs h
  obtain ⟨a, ys, y, rfl, rfl, hs, fy, fys, q⟩ := h
  cases rx
  cases rxs with
  | cons ry rt =>
    rename_i uy ut
    cases rt
    obtain ⟨its, rv, ⟨⟨cls, dd, data, sl⟩, n, ho, hc, hdn, hd⟩, hlen⟩ := I.list hs
    simp only at hc hd
    subst hc hd
    refine call_meets PySem.F.slot_list_count ⟨_, ho, rfl⟩ PySem.F.entry_list_count (PySem.F.args_list_count_2 _ _)
      (SeqAt.list_countAt a its.toArray n dd sl uy (eqU y)) ⟨ho, fun u' hu' => mem_eqAt ry fy rv fys u' (by simpa using hu'), ?_⟩
    have ec : its.toArray.toList.countP (eqU y) = ys.countP fun z => eqV z y := countP_vals ry rv fys
    refine ⟨.int ((ys.countP fun z => eqV z y : Nat) : Nat), H, I.tok _, ⟨s.toks, ?_⟩, q⟩
    rw [ec]
def fLCount (a b : S) : Option S := match asLs a, b with
  | some ds, .fz d => if d.flat && ds.all D.flat then some (.fz (.int ((ds.countP fun e => eqFlat e d : Nat) : Nat))) else none
  | _, _ => none
theorem countP_rps {K : PySem.W.Frag} {W : Addr → Prop} {H : Hp} {y : V} {d : D} (xb : Rp K W H y d) (hd : d.flat = true) : ∀ {xs : List V} {ds : List D}, Rps K W H xs ds → ds.all D.flat = true → (xs.countP fun z => eqV z y) = ds.countP fun e => eqFlat e d
  | _, _, .nil, _ => rfl
  | _, _, .cons x t, h => by
    rw [List.all_cons, Bool.and_eq_true] at h
    rw [List.countP_cons, List.countP_cons, countP_rps xb hd t h.2, eqFlat_v x xb h.1 hd]
theorem pn_lcount {C : Ct} : PN C (fun vs H Q => ∃ x xs, vs = x :: xs ∧ rFCount C.K x xs H Q) (p2 fLCount) := by
  refine pnm1 (rr := rFCount C.K) fun U W H x y a b s Q lv xa xb h q => ?_
  unfold fLCount at h
  split at h
  · rename_i ds d e
    by_cases z : (d.flat && ds.all D.flat) = true
    · rw [if_pos z] at h; cases h
      rw [Bool.and_eq_true] at z
      obtain ⟨p, xs, rfl, h2, h3⟩ := asLs_of xa e
      cases xb with
      | fz xb =>
        refine ⟨p, xs, y, rfl, rfl, h2, flat_v xb z.1, rps_flat h3 z.2, ?_⟩
        rw [countP_rps xb z.1 h3 z.2]
        exact q _ _ (.same (.int _))
    · rw [if_neg z] at h; cases h
  · cases h
section
variable {X : Cx} {C : Ct} {e o : Expr} {fe fo : Rho → Rs Opd} {apos cpos : Pos}
theorem x_lcount (ho : GE X C o fo) (ha : GE X C e fe) (mc : MCall X o "count" apos e [] cpos) (hK : C.K = X.K := by rfl) : GE X C (.Call (.Attribute o "count" apos) [e] [] cpos) (eMeth isLs (p2 fLCount) fo (eCons fe eNil)) :=
  ge_meth (pe_bm PySem.F.plainAttrs_list PySem.F.slot_list_count PySem.F.type_list_count mt_fcount ho (ga_cons ha ga_nil mc.star) mc.base mc.few mc.line mc.star mc.plain) (by rw [← hK]; exact isLs_ty) (by rw [← hK]; exact pn_lcount)
end
theorem lcount_bl (bs : List Bool) : fLCount (.ol (bs.map D.bl)) (.fz (.bl true)) = some (.fz (.int ((bs.count true : Nat) : Nat))) := by
  have f1 : (bs.map D.bl).all D.flat = true := by
    rw [List.all_map]
    exact List.all_eq_true.mpr fun _ _ => rfl
  show (if (D.bl true).flat && (bs.map D.bl).all D.flat then some (S.fz (.int (((bs.map D.bl).countP fun e => eqFlat e (.bl true) : Nat) : Nat))) else none) = _
  rw [f1]
  show some (S.fz (.int (((bs.map D.bl).countP fun e => eqFlat e (.bl true) : Nat) : Nat))) = _
  have e : (bs.map D.bl).countP (fun e => eqFlat e (.bl true)) = bs.count true := by
    rw [List.countP_map]
    unfold List.count
    congr 1
  rw [e]
@[simp] theorem isLs_o {ds : List D} : isLs (.ol ds) = true := rfl
@[simp] theorem isLs_b {ds : List D} : isLs (.br ds) = true := rfl
@[simp] theorem isLs_k {ds : List D} : isLs (.lk ds) = true := rfl
@[simp] theorem isLs_f {ds : List D} : isLs (.fz (.lst ds)) = true := rfl
/-- among texts -/
theorem lindex_ws {l : List (List Nat)} {t : List Nat} {n : Nat} (h : l[n]? = some t) (hf : ∀ m, m < n → l[m]? ≠ some t) : fLIndex (.ol (l.map D.str)) (.fz (.str t)) = some (.fz (.int (n : Nat))) := by
  have f1 : (l.map D.str).all D.flat = true := by
    rw [List.all_map]
    exact List.all_eq_true.mpr fun _ _ => rfl
  show (if (D.str t).flat && (l.map D.str).all D.flat then ((l.map D.str).findIdx? fun e => eqFlat e (.str t)).map fun n => S.fz (.int (n : Nat)) else none) = _
  rw [f1]
  show ((l.map D.str).findIdx? fun e => eqFlat e (.str t)).map (fun n => S.fz (.int (n : Nat))) = _
  have hn : n < l.length := (List.getElem?_eq_some_iff.mp h).1
  have e : (l.map D.str).findIdx? (fun e => eqFlat e (.str t)) = some n := by
    rw [List.findIdx?_eq_some_iff_getElem]
    refine ⟨by rw [List.length_map]; exact hn, ?_, fun j hj => ?_⟩
    · rw [List.getElem_map]
      have e1 : l[n] = t := by
        rw [List.getElem?_eq_getElem hn] at h
        exact Option.some.inj h
      rw [e1]
      show (t == t) = true
      simp
    · rw [List.getElem_map]
      show ¬ (l[j] == t) = true
      intro z
      rw [beq_iff_eq] at z
      exact hf j hj (by rw [List.getElem?_eq_getElem (by omega), z])
  rw [e]; rfl
end GB

/-! words alike up to turning -/
namespace GB
open PySem PySem.Spec PyProof.Rows L2
def Rt (a b : List Nat) : Prop := ∃ u v, a = u ++ v ∧ b = v ++ u
theorem Rt.refl (a : List Nat) : Rt a a := ⟨[], a, rfl, by rw [List.append_nil]⟩
theorem Rt.symm {a b : List Nat} (h : Rt a b) : Rt b a := let ⟨u, v, h1, h2⟩ := h; ⟨v, u, h2, h1⟩
theorem Rt.trans {a b c : List Nat} (h : Rt a b) (k : Rt b c) : Rt a c := by
  obtain ⟨u, v, rfl, rfl⟩ := h
  obtain ⟨x, y, h1, rfl⟩ := k
  rcases List.append_eq_append_iff.mp h1 with ⟨w, h2, h3⟩ | ⟨w, h2, h3⟩
  · subst h2 h3
    exact ⟨w, y ++ v, by simp only [List.append_assoc], by simp only [List.append_assoc]⟩
  · subst h2 h3
    exact ⟨u ++ x, w, by simp only [List.append_assoc], by simp only [List.append_assoc]⟩
theorem Rt.len {a b : List Nat} (h : Rt a b) : a.length = b.length := by
  obtain ⟨u, v, rfl, rfl⟩ := h
  rw [List.length_append, List.length_append, Nat.add_comm]
theorem rt_rot (a : List Nat) (k : Nat) : Rt a (rot a k) := ⟨a.take k, a.drop k, (List.take_append_drop k a).symm, rfl⟩
theorem rt_mem {a b : List Nat} : b ∈ turnsL a ↔ Rt a b := by
  rw [turns_iff]
  constructor
  · rintro ⟨k, _, rfl⟩
    exact rt_rot a k
  · rintro ⟨u, v, rfl, rfl⟩
    by_cases h : v = []
    · subst h
      refine ⟨0, by omega, ?_⟩
      rw [rot_0, List.append_nil, List.nil_append]
    · have : 0 < v.length := List.length_pos_iff.mpr h
      refine ⟨u.length, by rw [List.length_append]; omega, ?_⟩
      unfold rot
      rw [List.drop_left' rfl, List.take_left' rfl]
theorem leastTurn_le {a y : List Nat} (h : y ∈ turnsL a) : leastTurn a ≤ y := by
  unfold leastTurn
  cases e : turnsL a with
  | nil => rw [e] at h; cases h
  | cons x xs =>
    rw [e] at h
    exact (leastT_spec xs x).2 y h
theorem least_rt (a : List Nat) : Rt a (leastTurn a) := rt_mem.mp (leastTurn_mem a)
theorem least_iff {a b : List Nat} : leastTurn a = leastTurn b ↔ Rt a b := by
  constructor
  · intro e
    have h := least_rt a
    rw [e] at h
    exact h.trans (least_rt b).symm
  · intro h
    have h1 : leastTurn b ≤ leastTurn a := leastTurn_le (rt_mem.mpr (h.symm.trans (least_rt a)))
    have h2 : leastTurn a ≤ leastTurn b := leastTurn_le (rt_mem.mpr (h.trans (least_rt b)))
    exact List.le_antisymm h2 h1
theorem rt_bkw {a b : List Nat} (h : Rt a b) : Rt (bkw a) (bkw b) := by
  obtain ⟨u, v, rfl, rfl⟩ := h
  exact ⟨bkw v, bkw u, bkw_app u v, bkw_app v u⟩
theorem rep_shift (u v : List Nat) : ∀ n : Nat, rep (u ++ v) (n + 1) = u ++ (rep (v ++ u) n ++ v)
  | 0 => by rw [rep_1, rep_0, List.nil_append]
  | n + 1 => by
    rw [rep_succ, rep_shift u v n, rep_succ]
    simp only [List.append_assoc]
theorem rt_rep {a b : List Nat} (h : Rt a b) (n : Nat) : Rt (rep a n) (rep b n) := by
  obtain ⟨u, v, rfl, rfl⟩ := h
  cases n with
  | zero => exact Rt.refl _
  | succ n => exact ⟨u, rep (v ++ u) n ++ v, rep_shift u v n, by rw [rep_snoc, List.append_assoc]⟩
/-! the middle -/
def midO (s : List Nat) : List Nat := midK s (coreN s)
theorem mid_nil : midO [] = [] := rfl
theorem mid_self {d : List Nat} (hd : W d) (hne : d ≠ []) (j : Jn d d) : midO d = d := by
  obtain ⟨h1, h2⟩ := core_of (p := []) W.nil hd hne j
  rw [List.nil_append, bkw_nil, List.append_nil] at h1 h2
  unfold midO
  rw [h1]
  exact h2
theorem mid_of {p d : List Nat} (hp : W p) (hd : W d) (hne : d ≠ []) (j : Jn d d) : midO (p ++ d ++ bkw p) = d := by
  obtain ⟨h1, h2⟩ := core_of hp hd hne j
  unfold midO
  rw [h1]
  exact h2
theorem jn_left {a b c : List Nat} (h : Jn (a ++ b) c) (hb : b ≠ []) : Jn b c := fun x y hx hy => by
  refine h x y ?_ hy
  rw [List.getLast?_append, hx]; rfl
theorem jn_right {a b c : List Nat} (h : Jn a (b ++ c)) (hb : b ≠ []) : Jn a b := fun x y hx hy => by
  refine h x y hx ?_
  cases b with
  | nil => exact absurd rfl hb
  | cons z b => exact hy
theorem mid_step {s : List Nat} {x : Nat} (hs : W s) (ts : tidy s = true) (hx : isL x = true) : Rt (midO s) (midO (red ([x] ++ s ++ [bk x]))) := by
  have hbx : isL (bk x) = true := bk_isL hx
  have pair : red [x, bk x] = [] := red_back (W1 hx)
  have pair' : ∀ {u v : List Nat}, W u → W v → red (u ++ [x, bk x] ++ v) = red (u ++ v) := fun {u v} hu hv => by
    rw [← red_mid hu (W.cons hx (W1 hbx)) hv, pair, List.append_nil]
  by_cases ne : s = []
  · subst ne
    have : red ([x] ++ [] ++ [bk x]) = [] := pair
    rw [this]
    exact Rt.refl _
  · obtain ⟨sp, hN⟩ := core_split hs
    obtain ⟨nd, jd⟩ := core_jn hs ts ne
    have hp : W (s.take (coreN s)) := hs.take _
    have hd : W (midK s (coreN s)) := midK_w hs _
    have em : midO s = midK s (coreN s) := rfl
    rw [em]
    generalize s.take (coreN s) = p at *
    generalize midK s (coreN s) = d at *
    have ts' := ts
    rw [← sp] at ts'
    rw [tidy_app (hp.app hd) hp.bkw, tidy_app hp hd] at ts'
    obtain ⟨⟨tp, td, j1⟩, tb, j2⟩ := ts'
    cases p with
    | nil =>
      rw [List.nil_append, bkw_nil, List.append_nil] at sp
      subst sp
      by_cases b1 : d.head? = some (bk x)
      · cases d with
        | nil => cases b1
        | cons y d' =>
          have ey : some y = some (bk x) := b1
          cases ey
          have hd' := hd.tail
          have e : red ([x] ++ (bk x :: d') ++ [bk x]) = red (d' ++ [bk x]) := by
            have := pair' (u := []) (v := d' ++ [bk x]) W.nil (hd'.app (W1 hbx))
            simpa using this
          have td2 : tidy ([bk x] ++ d') = true := td
          rw [tidy_app (W1 hbx) hd'] at td2
          have jr : Jn d' [bk x] := fun u v hu hv e2 => by
            cases hv
            cases d' with
            | nil => cases hu
            | cons z d' =>
              refine jd u (bk x) ?_ rfl e2
              rw [List.getLast?_cons_cons]; exact hu
          have tr : tidy (d' ++ [bk x]) = true := (tidy_app hd' (W1 hbx)).mpr ⟨td2.2.1, rfl, jr⟩
          have wr : W (d' ++ [bk x]) := hd'.app (W1 hbx)
          have jj : Jn (d' ++ [bk x]) (d' ++ [bk x]) := fun u v hu hv e2 => by
            rw [List.getLast?_append] at hu
            have hu : some (bk x) = some u := hu
            cases hu
            cases d' with
            | nil =>
              have hv : some (bk x) = some v := hv
              cases hv
              exact bk_ne hbx e2.symm
            | cons z d' =>
              have hv : some z = some v := hv
              cases hv
              exact td2.2.2 (bk x) _ rfl rfl e2
          rw [e, (red_self wr).mpr tr, mid_self wr (by simp) jj]
          exact ⟨[bk x], d', rfl, rfl⟩
      · by_cases b2 : d.getLast? = some x
        · have dl : d = d.dropLast ++ [x] := by
            have := List.dropLast_concat_getLast nd
            rw [List.getLast?_eq_some_getLast nd] at b2
            have b2 := Option.some.inj b2
            rw [b2] at this
            exact this.symm
          generalize d.dropLast = d' at dl
          subst dl
          have hd' : W d' := hd.l
          have e : red ([x] ++ (d' ++ [x]) ++ [bk x]) = red ([x] ++ d') := by
            have := pair' (u := [x] ++ d') (v := []) ((W1 hx).app hd') W.nil
            simpa using this
          have td2 := (tidy_app hd' (W1 hx)).mp td
          have jr : Jn [x] d' := fun u v hu hv e2 => by
            cases hu
            refine jd x v (by rw [List.getLast?_append]; rfl) ?_ e2
            cases d' with
            | nil => cases hv
            | cons z d' => exact hv
          have wr : W ([x] ++ d') := (W1 hx).app hd'
          have tr : tidy ([x] ++ d') = true := (tidy_app (W1 hx) hd').mpr ⟨rfl, td2.1, jr⟩
          have jj : Jn ([x] ++ d') ([x] ++ d') := fun u v hu hv e2 => by
            have hv : some x = some v := hv
            cases hv
            rw [List.getLast?_append] at hu
            cases q : d'.getLast? with
            | none =>
              rw [q] at hu
              have hu : some x = some u := hu
              cases hu
              exact bk_ne hx e2.symm
            | some z =>
              rw [q] at hu
              have hu : some z = some u := hu
              cases hu
              exact td2.2.2 _ x q rfl e2
          rw [e, (red_self wr).mpr tr, mid_self wr (by simp) jj]
          exact ⟨d', [x], rfl, rfl⟩
        · have wr : W ([x] ++ d ++ bkw [x]) := ((W1 hx).app hd).app (W1 hx).bkw
          have e : bkw [x] = [bk x] := rfl
          have tr : tidy ([x] ++ d ++ [bk x]) = true := by
            rw [tidy_app ((W1 hx).app hd) (W1 hbx), tidy_app (W1 hx) hd]
            refine ⟨⟨rfl, td, fun u v hu hv e2 => ?_⟩, rfl, fun u v hu hv e2 => ?_⟩
            · cases hu
              exact b1 (by rw [hv, e2]; rfl)
            · cases hv
              rw [List.getLast?_append] at hu
              cases q : d.getLast? with
              | none => rw [List.getLast?_eq_none_iff] at q; exact nd q
              | some z =>
                rw [q] at hu
                have hu : some z = some u := hu
                cases hu
                have := bk_inj hx (hd _ (List.mem_of_getLast? q)) e2
                subst this
                exact b2 q
          rw [e] at wr
          rw [(red_self wr).mpr tr, ← e, mid_of (W1 hx) hd nd jd]
          exact Rt.refl _
    | cons y p =>
      have hy : isL y = true := hp.head
      have hp' := hp.tail
      by_cases a1 : y = bk x
      · subst a1
        have w2 : W (p ++ d ++ bkw p) := (hp'.app hd).app hp'.bkw
        have e : red ([x] ++ s ++ [bk x]) = red (p ++ d ++ bkw p) := by
          rw [← sp, bkw_cons, bk_bk hx]
          have a := pair' (u := []) (v := p ++ d ++ bkw p ++ [x, bk x]) W.nil (w2.app (W.cons hx (W1 hbx)))
          have b := pair' (u := p ++ d ++ bkw p) (v := []) w2 W.nil
          rw [List.append_nil, List.append_nil] at b
          rw [List.nil_append, List.nil_append, b] at a
          rw [← a]
          congr 1
          simp
        have tp2 : tidy ([bk x] ++ p) = true := tp
        rw [tidy_app (W1 hbx) hp'] at tp2
        have j1' : Jn p d := by
          cases p with
          | nil => exact fun u v hu => (nomatch hu)
          | cons z p => exact jn_left (a := [bk x]) (b := z :: p) j1 (by simp)
        have tb2 : tidy (bkw p ++ [bk (bk x)]) = true := by rw [← bkw_cons]; exact tb
        rw [tidy_app hp'.bkw (W1 (bk_isL hbx))] at tb2
        have j2' : Jn (p ++ d) (bkw p) := by
          intro u v hu hv
          refine j2 u v ?_ ?_
          · rw [List.getLast?_append] at hu
            show (([bk x] ++ p) ++ d).getLast? = some u
            rw [List.getLast?_append]
            cases q : d.getLast? with
            | none => rw [List.getLast?_eq_none_iff] at q; exact absurd q nd
            | some z => rw [q] at hu; exact hu
          · rw [bkw_cons]
            cases q : bkw p with
            | nil => rw [q] at hv; cases hv
            | cons z r => rw [q] at hv; exact hv
        have t2 : tidy (p ++ d ++ bkw p) = true := by
          rw [tidy_app (hp'.app hd) hp'.bkw, tidy_app hp' hd]
          exact ⟨⟨tp2.2.1, td, j1'⟩, tb2.1, j2'⟩
        rw [e, (red_self w2).mpr t2, mid_of hp' hd nd jd]
        exact Rt.refl _
      · have w2 : W ([x] ++ s ++ [bk x]) := ((W1 hx).app hs).app (W1 hbx)
        have hs0 : s.head? = some y := by rw [← sp]; rfl
        have hl : s.getLast? = some (bk y) := by
          rw [← sp, bkw_cons, List.getLast?_append, List.getLast?_append]; rfl
        have t2 : tidy ([x] ++ s ++ [bk x]) = true := by
          rw [tidy_app ((W1 hx).app hs) (W1 hbx), tidy_app (W1 hx) hs]
          refine ⟨⟨rfl, ts, fun u v hu hv e2 => ?_⟩, rfl, fun u v hu hv e2 => ?_⟩
          · cases hu
            rw [hs0] at hv
            cases hv
            exact a1 e2
          · cases hv
            rw [List.getLast?_append, hl] at hu
            have hu : some (bk y) = some u := hu
            cases hu
            rw [bk_bk hy] at e2
            exact a1 e2.symm
        have e : [x] ++ s ++ [bk x] = (x :: y :: p) ++ d ++ bkw (x :: y :: p) := by
          rw [bkw_cons x, ← sp]
          simp only [List.append_assoc, List.cons_append, List.nil_append]
        rw [(red_self w2).mpr t2, e, mid_of (W.cons hx hp) hd nd jd]
        exact Rt.refl _
theorem mid_conj {s : List Nat} (hs : W s) : ∀ {b : List Nat}, W b → Rt (midO (red s)) (midO (red (b ++ s ++ bkw b)))
  | [], _ => by rw [List.nil_append, bkw_nil, List.append_nil]; exact Rt.refl _
  | x :: b, hb => by
    have hx := hb.head
    have hb' := hb.tail
    have w1 : W (b ++ s ++ bkw b) := (hb'.app hs).app hb'.bkw
    have e : red (x :: b ++ s ++ bkw (x :: b)) = red ([x] ++ red (b ++ s ++ bkw b) ++ [bk x]) := by
      rw [red_mid (W1 hx) w1 (W1 (bk_isL hx)), bkw_cons]
      congr 1
      simp only [List.append_assoc, List.cons_append, List.nil_append]
    rw [e]
    exact (mid_conj hs hb').trans (mid_step (red_w w1) ((red_self (red_w w1)).mp (red_red w1)) hx)
theorem mid_bkw {s : List Nat} (hs : W s) (ts : tidy s = true) : midO (bkw s) = bkw (midO s) := by
  by_cases ne : s = []
  · subst ne; rfl
  · obtain ⟨sp, hN⟩ := core_split hs
    obtain ⟨nd, jd⟩ := core_jn hs ts ne
    have hp : W (s.take (coreN s)) := hs.take _
    have hd : W (midK s (coreN s)) := midK_w hs _
    have em : midO s = midK s (coreN s) := rfl
    rw [em]
    generalize s.take (coreN s) = p at *
    generalize midK s (coreN s) = d at *
    rw [← sp, bkw_app, bkw_app, bkw_bkw hp, ← List.append_assoc]
    refine mid_of hp hd.bkw (fun z => ?_) (jn_bkw hd jd)
    have := congrArg List.length z
    rw [bkw_len] at this
    exact nd (List.length_eq_zero_iff.mp this)
theorem red_bkw' {s : List Nat} (hs : W s) : red (bkw s) = bkw (red s) := by
  rw [← red_bkw hs]
  exact (red_self (red_w hs).bkw).mpr (tidy_bkw (red_w hs) ((red_self (red_w hs)).mp (red_red hs)))
theorem own_back {w : List Nat} (hw : W w) (tw : tidy w = true) (e : bkw w = w) : w = [] := by
  refine Classical.byContradiction fun ne => ?_
  have wp : 0 < w.length := List.length_pos_iff.mpr ne
  have at' : ∀ k, k < w.length → w[k]? = (w[w.length - 1 - k]?).map bk := fun k hk => by
    have := bkw_at hk
    rw [e] at this
    exact this
  rcases Nat.mod_two_eq_zero_or_one w.length with z | z
  · have h := at' (w.length / 2 - 1) (by omega)
    rw [show w.length - 1 - (w.length / 2 - 1) = w.length / 2 - 1 + 1 from by omega] at h
    have hy : w[w.length / 2 - 1 + 1]? = some (w[w.length / 2 - 1 + 1]'(by omega)) := List.getElem?_eq_getElem (by omega)
    have ly : isL (w[w.length / 2 - 1 + 1]'(by omega)) = true := hw _ (List.getElem_mem _)
    generalize w[w.length / 2 - 1 + 1]'(by omega) = y at hy ly
    rw [hy] at h
    exact (tidy_ix hw).mp tw _ _ _ h hy (bk_bk ly).symm
  · have h := at' (w.length / 2) (by omega)
    rw [show w.length - 1 - w.length / 2 = w.length / 2 from by omega] at h
    have hy : w[w.length / 2]? = some (w[w.length / 2]'(by omega)) := List.getElem?_eq_getElem (by omega)
    have ly : isL (w[w.length / 2]'(by omega)) = true := hw _ (List.getElem_mem _)
    generalize w[w.length / 2]'(by omega) = y at hy ly
    rw [hy] at h
    exact bk_ne ly (Option.some.inj h).symm
theorem not_back {c : List Nat} (hc : W c) (tc : tidy c = true) (h : Rt c (bkw c)) : c = [] := by
  obtain ⟨u, v, e1', e2'⟩ := h
  subst e1'
  have hu : W u := hc.l
  have hv : W v := hc.r
  rw [tidy_app hu hv] at tc
  rw [bkw_app] at e2'
  obtain ⟨g1, g2⟩ := List.append_inj e2' (bkw_len v)
  rw [own_back hu tc.1 g2, own_back hv tc.2.1 g1]; rfl
theorem mid_tidy {s : List Nat} (hs : W s) (ts : tidy s = true) : tidy (midO s) = true := by
  obtain ⟨sp, hN⟩ := core_split hs
  have hp : W (s.take (coreN s)) := hs.take _
  have hd : W (midK s (coreN s)) := midK_w hs _
  have em : midO s = midK s (coreN s) := rfl
  rw [em]
  generalize s.take (coreN s) = p at *
  generalize midK s (coreN s) = d at *
  rw [← sp] at ts
  rw [tidy_app (hp.app hd) hp.bkw, tidy_app hp hd] at ts
  exact ts.1.2.1
theorem mid_rep {s : List Nat} (hs : W s) {n : Nat} (hn : 1 ≤ n) : midO (red (rep s n)) = rep (midO (red s)) n := by
  have hr := red_w hs
  have tr := (red_self hr).mp (red_red hs)
  rw [← rep_red hs]
  by_cases ne : red s = []
  · rw [ne]
    have e : ∀ k, rep ([] : List Nat) k = [] := fun k => by unfold rep; simp
    rw [e, mid_nil, e]; rfl
  · obtain ⟨sp, hN⟩ := core_split hr
    obtain ⟨nd, jd⟩ := core_jn hr tr ne
    have hp : W ((red s).take (coreN (red s))) := hr.take _
    have hd : W (midK (red s) (coreN (red s))) := midK_w hr _
    have em : midO (red s) = midK (red s) (coreN (red s)) := rfl
    rw [em]
    have tr' := tr
    generalize (red s).take (coreN (red s)) = p at *
    generalize midK (red s) (coreN (red s)) = d at *
    rw [← sp] at tr'
    rw [tidy_app (hp.app hd) hp.bkw, tidy_app hp hd] at tr'
    obtain ⟨⟨tp, td, j1⟩, tb, j2⟩ := tr'
    have w2 : W (p ++ rep d n ++ bkw p) := (hp.app (rep_w hd n)).app hp.bkw
    have t2 : tidy (p ++ rep d n ++ bkw p) = true := by
      rw [tidy_app (hp.app (rep_w hd n)) hp.bkw, tidy_app hp (rep_w hd n)]
      refine ⟨⟨tp, tidy_rep hd nd td jd n, ?_⟩, tb, ?_⟩
      · unfold Jn at j1 ⊢
        rw [head_rep nd hn]
        exact j1
      · intro u v hu hv
        refine j2 u v ?_ hv
        rw [List.getLast?_append] at hu ⊢
        rw [last_rep nd hn] at hu
        exact hu
    have ndr : rep d n ≠ [] := fun z => by
      have := congrArg List.length z
      rw [rep_len2] at this
      have dp : 0 < d.length := List.length_pos_iff.mpr nd
      have := Nat.mul_pos (show 0 < n by omega) dp
      simp at *; omega
    rw [← sp, conj_rep hp hd, (red_self w2).mpr t2, mid_of hp (rep_w hd n) ndr ((jn_rep nd hn hn).mpr jd)]
/-! letters counted with their signs -/
def cntL (c : Nat) (w : List Nat) : Int := (w.count c : Int) - (w.count (c - 32) : Int)
theorem cntL_app (c : Nat) (u v : List Nat) : cntL c (u ++ v) = cntL c u + cntL c v := by
  unfold cntL
  rw [List.count_append, List.count_append]; omega
theorem cntL_bk {c x : Nat} (hc : 97 ≤ c ∧ c ≤ 102) (hx : isL x = true) : cntL c [bk x] = - cntL c [x] := by
  have := isL_iff.mp hx
  unfold cntL bk
  rw [List.count_singleton, List.count_singleton, List.count_singleton, List.count_singleton]
  by_cases h : 97 ≤ x ∧ x ≤ 102
  · rw [if_pos h]
    by_cases e : x = c
    · subst e
      have h1 : ¬ x - 32 = x := by omega
      have h2 : ¬ x = x - 32 := by omega
      simp [h1, h2]
    · have e1' : ¬ x - 32 = c := by omega
      have e2' : ¬ x - 32 = c - 32 := by omega
      have e3' : ¬ x = c - 32 := by omega
      simp [e, e1', e2', e3']
  · rw [if_neg h]
    by_cases e : x = c - 32
    · subst e
      have e1' : c - 32 + 32 = c := by omega
      have e2' : ¬ c = c - 32 := by omega
      have e3' : ¬ c - 32 = c := by omega
      simp [e1', e2', e3']
    · have e1' : ¬ x + 32 = c := by omega
      have e2' : ¬ x + 32 = c - 32 := by omega
      have e3' : ¬ x = c := by omega
      simp [e, e1', e2', e3']
theorem cntL_run {c : Nat} (hc : 97 ≤ c ∧ c ≤ 102) : ∀ (w s : List Nat), W s → W w → cntL c (run s w) = cntL c s + cntL c w
  | [], s, _, _ => by show cntL c s = _; unfold cntL; simp
  | x :: w, s, hs, hw => by
    have hx := hw.head
    have e : run s (x :: w) = run (step s x) w := rfl
    rw [e, cntL_run hc w (step s x) (step_w hs hx) hw.tail]
    have e2' : cntL c (x :: w) = cntL c [x] + cntL c w := cntL_app c [x] w
    rw [e2']
    have e3' : cntL c (step s x) = cntL c s + cntL c [x] := by
      cases s with
      | nil => show cntL c [x] = cntL c [] + cntL c [x]; unfold cntL; simp
      | cons y s =>
        have e4 : cntL c (y :: s) = cntL c [y] + cntL c s := cntL_app c [y] s
        unfold step
        dsimp only
        by_cases h : y = bk x
        · rw [if_pos h, e4, h, cntL_bk hc hx]; omega
        · rw [if_neg h]
          have e5 : cntL c (x :: y :: s) = cntL c [x] + cntL c (y :: s) := cntL_app c [x] (y :: s)
          rw [e5]; omega
    rw [e3']; omega
theorem cntL_rev (c : Nat) (w : List Nat) : cntL c w.reverse = cntL c w := by unfold cntL; rw [List.count_reverse, List.count_reverse]
theorem cntL_red {c : Nat} (hc : 97 ≤ c ∧ c ≤ 102) {w : List Nat} (hw : W w) : cntL c (red w) = cntL c w := by
  unfold red
  rw [cntL_rev, cntL_run hc w [] W.nil hw]
  unfold cntL; simp
theorem cntL_back {c : Nat} (hc : 97 ≤ c ∧ c ≤ 102) : ∀ {w : List Nat}, W w → cntL c (bkw w) = - cntL c w
  | [], _ => by unfold cntL; simp [bkw_nil]
  | x :: w, hw => by
    rw [bkw_cons, cntL_app, cntL_back hc hw.tail, cntL_bk hc hw.head]
    have e : cntL c (x :: w) = cntL c [x] + cntL c w := cntL_app c [x] w
    rw [e]; omega
theorem cntL_mid {c : Nat} (hc : 97 ≤ c ∧ c ≤ 102) {w : List Nat} (hw : W w) : cntL c w = cntL c (midO (red w)) := by
  rw [← cntL_red hc hw]
  have hr := red_w hw
  obtain ⟨sp, hN⟩ := core_split hr
  have hp : W ((red w).take (coreN (red w))) := hr.take _
  have em : midO (red w) = midK (red w) (coreN (red w)) := rfl
  rw [em]
  generalize (red w).take (coreN (red w)) = p at *
  generalize midK (red w) (coreN (red w)) = d at *
  rw [← sp, cntL_app, cntL_app, cntL_back hc hp]; omega
theorem cntL_rt {c : Nat} {a b : List Nat} (h : Rt a b) : cntL c a = cntL c b := by
  obtain ⟨u, v, rfl, rfl⟩ := h
  rw [cntL_app, cntL_app]; omega
end GB

/-! x or y of any kind; sorted(text) -/
namespace GB
open PySem PySem.Spec PyProof.Rows L2
section
variable {X : Cx} {C : Ct} {a b e : Expr} {fa fb fe : Rho → Rs Opd} {rest : List Expr} {pos p : Pos}
def eOrU (fa fb : Rho → Rs Opd) : Rho → Rs Opd := fun r => (fa r).bind fun o r1 => match res r1 o with
  | some s => (match tru s with | some true => .ok o r1 | some false => fb r1 | none => .st)
  | none => .st
theorem ge_orU (ha : GE X C a fa) (hb : GE X C (.BoolOp .Or (b :: rest) pos) fb) (hK : C.K = X.K := by rfl) : GE X C (.BoolOp .Or (a :: b :: rest) pos) (eOrU fa fb) := by
  refine weakE (pe_orT ha hb) fun σ H Q h => ?_
  obtain ⟨U, r, s, h⟩ := h
  refine tE_then (R := RE C U H σ r Q) s h id (fun _ _ _ z => z) fun o r1 v H1 U1 s1 a1 p1 k1 n1 h1 => ?_
  obtain ⟨t, e, x⟩ := k1.res s1
  simp only [e] at h1
  cases e2 : tru t with
  | none => simp only [e2] at h1; exact (show False from h1).elim
  | some k =>
    refine ⟨k, hK ▸ truV_of x e2, ?_⟩
    cases k with
    | true =>
      simp only [e2] at h1
      rw [if_pos rfl]
      exact h1 _ H1 U1 s1 a1 p1 k1 n1
    | false =>
      simp only [e2] at h1
      rw [if_neg (by decide)]
      exact ⟨U1, r1, s1, RE.before h1 a1 p1⟩
@[simp] theorem s_eOrU {r : Rho} : eOrU fa fb r = (fa r).bind fun o r1 => match res r1 o with
  | some s => (match tru s with | some true => .ok o r1 | some false => fb r1 | none => .st)
  | none => .st := rfl
/-! sorted of a text's signs -/
def rSrtX : List V → Hp → VK → Prop := fun xs H Q => ∃ w : List Nat, xs = [V.str ⟨w.toArray⟩] ∧ w.length < 64 ∧ ∀ (ys : List Str) (p : Addr), ys.Perm (w.map fun c => (⟨#[c]⟩ : Str)) → sortedS ys = true → H p = none → Q (.ref p) (upd H p (.lst (ys.map V.str)))
theorem cr_srtX (hc : X.calm = true) : CallR X (.builtin "sorted") rSrtX := by
  intro pins s σ H xs us Q I r q
  obtain ⟨w, ex, h64, q⟩ := q
  subst ex
  obtain ⟨u, rfl, t, rfl⟩ := vals1 r
  refine Calls.call_function_entry PyProof.Rows.kind_sorted PyProof.Rows.plain_sorted PyProof.Rows.entry_sorted (PyProof.Rows.args_sorted1 _) ?_
  unfold Builtin.«sorted»
  refine wpAny_bind (m := checkCount "sorted" 1 1 _) (wpAny_pure ?_)
  refine wpAny_bind (wpAny_collect_str (A := X.A.in1) (I.ok.hd hc) ⟨w.toArray⟩ t (fun s' acc hk hg hd hos hacc => ?_) (by
    show w.toArray.size ≤ sizeLine
    rw [sizeLine_eq, List.size_toArray]
    omega))
  obtain ⟨h', g', d', tk', os'⟩ := s'
  have e1' : g' = s.gens := hg
  have e2' : d' = s.drawn := hd
  have e3' : os' = s.os := hos
  subst e1' e2' e3'
  have hv := vals_signs (w := w) (by simpa using hacc)
  have hv' : Vals ((w.map fun c => (⟨#[c]⟩ : Str)).map V.str) acc.toList := by rw [List.map_map]; exact hv
  have hS : StrsAre acc.toList (w.map fun c => (⟨#[c]⟩ : Str)) := hv'.strs
  have hal : acc.toList.length = (w.map fun c => (⟨#[c]⟩ : Str)).length := by
    have := hv'.length
    rw [List.length_map] at this
    exact this.symm
  have hk64 : (w.map fun c => (⟨#[c]⟩ : Str)).length < 64 := by rw [List.length_map]; exact h64
  generalize (w.map fun c => (⟨#[c]⟩ : Str)) = ks at *
  have I1 : L2.Inv X pins σ H { s with heap := h', toks := tk' } := I.kept hk
  refine wpAny_bind (wpAny_newList ?_ (by rw [hal, sizeLine_eq]; omega))
  have hoL : (h'.push (seqObj "list" acc.toList.toArray 0)).get? h'.objs.size = some (seqObj "list" acc.toList.toArray 0) := Heap.get?_push_size _ rfl
  show wpAny _ _ _ _ _ { s with heap := h'.push (seqObj "list" acc.toList.toArray 0), toks := tk' }
  refine wpAny_bind (wpAny_holding (wpAny_call_entry PyProof.Rows.slot_list_sort ⟨_, hoL, rfl⟩ PyProof.Rows.entry_list_sort
    (list_sort_treeK strKind_oneLt (s := { s with heap := h'.push (seqObj "list" acc.toList.toArray 0), toks := tk' }) hoL hS.keysOf (fun v₁ v₂ rest e => keyKind_strs (by rw [← e]; exact hS)) (by rw [hal]; exact hk64) fun st' hp hs => ⟨_, rfl, ?_⟩)
    (PyProof.Rows.args_list_sort _)))
  obtain ⟨ys, g1, g2, g3⟩ := sorted_out_str hS hp hs
  obtain ⟨e', he'⟩ := PyProof.Rows.sortedHeap_at (vs := acc.toList) (out := (arrOf st').map (·.2)) hoL
  have hlen : (ys.map V.str).length ≤ sizeLine := by
    rw [List.length_map, g2.length_eq]
    exact Nat.le_trans (Nat.le_of_lt hk64) (by decide)
  refine wpAny_pure ⟨_, rfl, .ref h'.objs.size, upd H h'.objs.size (.lst (ys.map V.str)), I1.laid (t' := tk') (fun b u e => ?_) (Nat.le_refl _)
    (show ObjOk X.prog X.w _ _ _ (.lst (ys.map V.str)) from ⟨hlen, ((arrOf st').map (·.2)).toList, e', vals_of_strs g1, by rw [Array.toArray_toList]; exact he'⟩), rfl, q ys _ g2 g3 (I1.hok.fresh (Nat.le_refl _))⟩
  have hb : b < h'.objs.size := Heap.lt_size e
  rw [PyProof.Rows.sortedHeap_old (Nat.ne_of_lt hb) (by rw [size_push']; exact Nat.lt_succ_of_lt hb)]
  exact Heap.get?_push_of_some _ e
def fSrtU (s : S) : Option S := match s with
  | .fz (.str w) => if decide (w.length < 64) then some (.ol ((sortT (w.map fun c => [c])).map D.str)) else none
  | s => fSrt s
theorem pn_srtU : PN C (fun vs H Q => rSrtX vs H Q ∨ (rSortedI C.K vs H Q ∨ rSrtT C.K vs H Q)) (p1 fSrtU) := by
  intro U W H vs ss s Q lv hs hp q
  match ss, hs, hp with
  | [a], .cons xa .nil, hp =>
    by_cases z : ∃ w, a = .fz (.str w)
    · obtain ⟨w, rfl⟩ := z
      have hp : (if decide (w.length < 64) then some (S.ol ((sortT (w.map fun c => [c])).map D.str)) else none) = some s := hp
      by_cases hl : w.length < 64
      · rw [if_pos (decide_eq_true hl)] at hp; cases hp
        rw [sr_str xa]
        refine .inl ⟨w, rfl, hl, fun ys p hp hs hf => ?_⟩
        have e4 : ys.map (fun y => y.cps.toList) = sortT (w.map fun c => [c]) := by
          refine sortT_of ?_ (List.pairwise_map.mpr (sortedS_pw hs))
          have := hp.map fun y : Str => y.cps.toList
          rw [List.map_map] at this
          exact this.trans (List.Perm.of_eq (List.map_congr_left fun c _ => by simp))
        have e5 : ys = (sortT (w.map fun c => [c])).map fun w => (⟨w.toArray⟩ : Str) := by
          rw [← e4, List.map_map]
          conv => lhs; rw [← List.map_id ys]
          exact List.map_congr_left fun w _ => by simp
        rw [e5]
        exact q _ _ (Got.newL (C := C) lv hf rps_strs)
      · rw [if_neg (by simpa using hl)] at hp; cases hp
    · have hp : fSrt a = some s := by
        cases a with
        | fz d => cases d with
          | str w => exact absurd ⟨_, rfl⟩ z
          | _ => exact hp
        | _ => exact hp
      exact .inr (pn_srt U W H _ [a] s Q lv (.cons xa .nil) hp q)
theorem x_sortedU (hc : X.calm = true) (hm : X.mg "sorted" = none) (ha : GE X C e fe) (hK : C.K = X.K := by rfl) (hg : Gl X "sorted" := by rfl) (hs : starEach [e] X.env = (false, eval e X.env) :: starEach [] X.env := by rfl) : GE X C (.Call (.Name "sorted" p) [e] [] pos) (e1 (p1 fSrtU) fe) :=
  ge_call pn_srtU (by rw [hK]; exact pe_callB (cr_or (cr_srtX hc) (cr_or cr_sortedI cr_srtT)) hg hm PyProof.Rows.boot_sorted (ga_cons ha ga_nil hs) (he := hs))
end
theorem srtX {w : List Nat} (h : w.length < 64) : fSrtU (.fz (.str w)) = some (.ol ((sortT (w.map fun c => [c])).map D.str)) := by
  show (if decide (w.length < 64) then some (S.ol ((sortT (w.map fun c => [c])).map D.str)) else none) = _
  rw [if_pos (decide_eq_true h)]
/-- two lists of texts compared -/
theorem eq_strsL {as bs : List (List Nat)} (ha : ∀ w ∈ as, ∀ c ∈ w, c < 1114112) (hb : ∀ w ∈ bs, ∀ c ∈ w, c < 1114112) : fEq (.ol (as.map D.str)) (.ol (bs.map D.str)) = some (.fz (.bl (decide (as = bs)))) := by
  have f : ∀ {l : List (List Nat)}, (∀ w ∈ l, ∀ c ∈ w, c < 1114112) → ∀ d ∈ l.map D.str, eqL d := fun h d hd => by
    obtain ⟨w, hw, rfl⟩ := List.mem_map.mp hd
    exact eqL_s (h w hw)
  show (if (D.lst (as.map D.str)).fit && (D.lst (bs.map D.str)).fit then some ((D.lst (as.map D.str)).same (.lst (bs.map D.str))) else none).map (fun k => S.fz (.bl k)) = _
  rw [fit_lst (f ha), fit_lst (f hb)]
  show some (S.fz (.bl (PyData.eqv (D.lst (as.map D.str)).py (D.lst (bs.map D.str)).py))) = _
  rw [D.py, D.py, PyData.eqv, eqv_strs]
/-- signs in order are the same just where the signs are -/
theorem sort_signs {a b : List Nat} : sortT (a.map fun c => [c]) = sortT (b.map fun c => [c]) ↔ a.Perm b := by
  constructor
  · intro h
    have p : (a.map fun c => [c]).Perm (b.map fun c => [c]) := (sortT_perm _).symm.trans (h ▸ sortT_perm _)
    have q := p.flatten
    have fl : ∀ l : List Nat, (l.map fun c => [c]).flatten = l := fun l => by
      induction l with
      | nil => rfl
      | cons c l ih => rw [List.map_cons, List.flatten_cons, ih]; rfl
    rw [fl, fl] at q
    exact q
  · intro h
    exact sortT_of ((sortT_perm _).trans (h.map _)) (sortT_pw _)
end GB

/-! repr of {} -/
namespace GB
open PySem PySem.Spec PyProof.Rows L2
section
variable {X : Cx} {C : Ct} {a : Expr} {fa : Rho → Rs Opd} {p pos : Pos}
def rReprE : List V → Hp → VK → Prop := fun xs H Q => ∃ a, xs = [.ref a] ∧ H a = some (.dK []) ∧ Q (.str ⟨[123, 125].toArray⟩) H
theorem call_reprE (hu : X.A.units + 64 < cLine) (gu : X.A.guards = some []) : CallR X (.builtin "repr") rReprE := by
  intro pins s σ H xs us Q I r h
  obtain ⟨a, rfl, e, q⟩ := h
  obtain ⟨u, rfl, r1⟩ := vals1 r
  cases r1
  obtain ⟨_, hs, vs, kv, o, es, ep, ho, hx, hd, hat⟩ := dk_of I.hok e
  cases kv
  have z : es.toList = [] := by
    have l1 := hat.1
    have l2 := hat.2.1
    cases h : es.toList with
    | nil => rfl
    | cons x y => rw [h] at l2; cases l2
  have rd : Reads s.heap (.ref a) (.dict []) (a :: [] ++ []) := Reads.dict ho hx.1 hd (by rw [z]; exact ReadsAll.nil) (by rw [z]; exact ReadsAll.nil)
  have ne : sysModules ∉ (a :: [] ++ []) := fun m => by
    rw [List.append_nil, List.mem_singleton] at m
    subst m
    simp at hs
  refine repr_of_reads' rd rfl (fun _ => ne) gu (by have h : PyData.depth (.dict []) ≤ 2 := (by decide); omega) (fun _ _ z => z) (fun h' u tk hk => ?_) (by decide)
  exact ⟨.str ⟨[123, 125].toArray⟩, H, I.kept hk, ⟨u, rfl⟩, q⟩
def fReprE : S → Option S
  | .fz (.dic [] []) => some (.fz (.str [123, 125]))
  | _ => none
theorem pn_reprE : PN C rReprE (p1 fReprE) := by
  intro U W H vs ss s Q lv hs hp q
  match ss, hs, hp with
  | [y], .cons (a := x) xa .nil, hp =>
    have hp : fReprE y = some s := hp
    unfold fReprE at hp
    split at hp
    · cases hp
      cases xa with
      | fz r =>
        cases r with
        | @dic a xs _ _ e n e1 t =>
          cases xs with
          | nil => exact ⟨a, rfl, e, q _ _ (.same (.str _))⟩
          | cons _ _ => cases e1
    · cases hp
def qReprD : Pr := orP (p1 fReprE) (p1 fRepr)
theorem x_reprD (hr : X.A.units + 64 < cLine) (gu : X.A.guards = some []) (hm : X.mg "repr" = none) (ha : GE X C a fa) (hK : C.K = X.K := by rfl) (hg : Gl X "repr" := by rfl) (hs : starEach [a] X.env = (false, eval a X.env) :: starEach [] X.env := by rfl) : GE X C (.Call (.Name "repr" p) [a] [] pos) (e1 qReprD fa) :=
  ge_orP (ge_call pn_reprE (pe_callB (call_reprE hr gu) hg hm PyProof.Rows.boot_repr (ga_cons ha ga_nil hs) (he := hs))) (x_repr hr gu hm ha hK hg hs)
end
end GB

/-! t[::-1] of tuples; locked functions -/
namespace GB
open PySem PySem.Spec PyProof.Rows L2
/-- a function that is not unfolded by itself -/
noncomputable def lockF {α : Type} (f : α) : α := Classical.choose (⟨f, rfl⟩ : ∃ g, g = f)
theorem lockF_eq {α : Type} (f : α) : lockF f = f := Classical.choose_spec (⟨f, rfl⟩ : ∃ g, g = f)
theorem runF_rt {n : Nat} {f : Rho → Fl} {ss o : List S} {r0 r : Rho} {s : S} (e0 : startR n ss = r0) (h : f r0 = .rt s r) (ho : outsL ss r = o) : runF n f ss = .ok s o := by
  rw [s_runF, e0, h, ← ho]
theorem runF_nx {n : Nat} {f : Rho → Fl} {ss o : List S} {r0 r : Rho} (e0 : startR n ss = r0) (h : f r0 = .nx r) (ho : outsL ss r = o) : runF n f ss = .ok (.fz .non) o := by
  rw [s_runF, e0, h, ← ho]
theorem runF_ex {n : Nat} {f : Rho → Fl} {ss o : List S} {r0 r : Rho} {c : Str} {fs : List (Str × D)} (e0 : startR n ss = r0) (h : f r0 = .ex c fs r) (ho : outsL ss r = o) : runF n f ss = .ex c fs o := by
  rw [s_runF, e0, h, ← ho]
section
variable {prog : Program} {w : World} {A : Around} {E : Value → Shared → Prop} {s : Shared}
theorem sliceApplied_rev {sl : Addr} {t : Tok} {n : Nat} {Q : Int × Int × Nat → Shared → Prop} (hs : s.heap.IsSliceOf sl .none .none (.int (-1) t))
    (h : Q ((n : Int) - 1, -1, n) s) : wpAny (model prog w) A (Builtin.Slice.sliceApplied (.ref sl) (pure (n : Int))) Q E s := by
  obtain ⟨os, hos, hcs, hds⟩ := id hs
  unfold Builtin.Slice.sliceApplied Builtin.Slice.sliceFields
  refine wpAny_bind (wpAny_bind (wpAny_field hos hds (x := .none) rfl (wpAny_bind (wpAny_field hos hds (x := .none) rfl (wpAny_bind (wpAny_field hos hds (x := .int (-1) t) rfl (wpAny_pure ?_)))))))
  refine wpAny_bind (HT.slicePart_ (.int (-1) t) ?_)
  show wpAny _ _ (if ((-1 : Int) == 0) = true then _ else _) _ _ s
  rw [if_neg (by decide)]
  refine wpAny_bind (HT.slicePart_ .none (wpAny_bind (HT.slicePart_ .none (wpAny_bind (wpAny_pure ?_)))))
  have e : Builtin.Slice.sliceAdjust none none (-1) (n : Int) = ((n : Int) - 1, -1) := rfl
  have e2 : Builtin.Slice.slicePlaces ((n : Int) - 1) (-1) (-1) = n := by
    unfold Builtin.Slice.slicePlaces
    have h1 : ¬ (-1 : Int) > 0 := by decide
    rw [if_neg h1]
    by_cases z : (n : Int) - 1 > -1
    · rw [if_pos z, show (-(-1) : Int) = 1 from rfl, Int.ediv_one]; omega
    · rw [if_neg z]; omega
  show wpAny _ _ (match Builtin.Slice.sliceAdjust none none (-1) (n : Int) with | (lo, hi) => pure (lo, (-1 : Int), Builtin.Slice.slicePlaces lo hi (-1))) _ _ s
  rw [e]
  show wpAny _ _ (pure ((n : Int) - 1, (-1 : Int), Builtin.Slice.slicePlaces ((n : Int) - 1) (-1) (-1))) _ _ s
  rw [e2]
  exact wpAny_pure h
theorem pick_rev (xs : Array Value) : ((List.range xs.size).filterMap fun (k : Nat) => xs[((xs.size : Int) - 1 + (k : Int) * -1).toNat]?).toArray = xs.toList.reverse.toArray := by
  rw [← PySem.W.krv_pick]
  unfold slicePick
  rw [PySem.W.krv_bounds]
  show _ = ((sliceRange ((xs.size : Int) - 1) (-1) (-1)).filterMap (xs[·]?)).toArray
  rw [PySem.W.krv_sliceRange, List.filterMap_map]
  have e : (fun (k : Nat) => xs[((xs.size : Int) - 1 + (k : Int) * -1).toNat]?) = ((xs[·]?) ∘ fun k => xs.size - 1 - k) := by
    funext k
    have e : ((xs.size : Int) - 1 + (k : Int) * -1).toNat = xs.size - 1 - k := by omega
    show xs[_]? = xs[_]?
    rw [e]
  rw [e]
theorem getItem_tuple_rev {t sl : Addr} {tk : Tok} {items : Array Value} {Q : Value → Shared → Prop} (ht : IsTup s.heap t items) (hs : s.heap.IsSliceOf sl .none .none (.int (-1) tk))
    (h : Q (.ref s.heap.objs.size) { s with heap := s.heap.push { cls := .type "tuple", data := .seq items.toList.reverse.toArray } })
    (hsz : items.size ≤ sizeLine) : wpAny (model prog w) A (getItem (.ref t) (.ref sl)) Q E s := by
  have htake : sizeOk (.seq items.toList.reverse.toArray) := by
    show items.toList.reverse.toArray.size ≤ sizeLine
    rw [List.size_toArray, List.length_reverse, Array.length_toList]
    exact hsz
  obtain ⟨os, hos, hcs, hds⟩ := id hs
  have hTs : s.TypeIs (.ref sl) "slice" := ⟨os, hos, hcs⟩
  unfold getItem
  try with_reducible refine wpAny_holding ?_
  first | refine wpAny_bind (wpAny_pure ?_) | skip
  refine wpAny_bind (wpAny_sequenceKey ht.typeIs (by decide) ?_)
  refine wpAny_bind (wpAny_callSpecial?_slot (name := Str.ofString "__getitem__") ht.typeIs PyProof.Rows.slot_tuple_getitem
    (wpAny_call_entry PyProof.Rows.slot_tuple_getitem ht.typeIs entry_tuple_getitem ?_ (args_tuple_getitem _ _)))
  show wpAny _ _ (Builtin.Tuple.tupleItemsOf (.ref t) >>= _) _ _ s
  refine wpAny_bind (tupleItemsOf_ ht ?_)
  refine wpAny_bind (wpAny_typeOf hTs ?_)
  rw [if_pos (by decide)]
  refine wpAny_bind (sliceApplied_rev hs ?_)
  have hno : ¬ ((((items.size : Int) - 1) == 0 && (-1 : Int) == 1 && items.size == items.size) = true) := by simp
  show wpAny _ _ (if (((items.size : Int) - 1) == 0 && (-1 : Int) == 1 && items.size == items.size) = true then _ else _) _ _ s
  rw [if_neg hno, pick_rev]
  first
    | exact wpAny_bind (m := Builtin.Tuple.tupleExact _) (wpAny_newObj_type (wpAny_pure ⟨_, rfl, wpAny_pure h⟩) htake)
    | exact wpAny_bind (m := Builtin.Tuple.tupleExact _) (wpAny_newObj_type (wpAny_bind (wpAny_pure (wpAny_pure ⟨_, rfl, wpAny_pure h⟩))) htake)
    | exact wpAny_bind (wpAny_bind (m := Builtin.Tuple.tupleExact _) (wpAny_newObj_type (wpAny_pure (wpAny_pure ⟨_, rfl, wpAny_pure h⟩)) htake))
    | exact wpAny_bind (wpAny_bind (m := Builtin.Tuple.tupleExact _) (wpAny_newObj_type (wpAny_pure ⟨_, rfl, wpAny_pure h⟩) htake))
end
section
variable {X : Cx} {C : Ct} {e : Expr} {fe : Rho → Rs Opd} {te : TE} {k : Nat} {p1' p2' p3' pos : Pos}
def tRevT (K : PySem.W.Frag) (te : TE) : TE := fun σ H Q => te σ H fun x H1 => ∃ a xs, x = .ref a ∧ SqT K H1 a xs ∧ ∀ p, H1 p = none → Q (.ref p) (upd H1 p (.tup xs.reverse))
theorem pe_revT (he : PE X e te) : PE X (.Subscript e (.Slice none none (some (.UnaryOp .USub (.Constant (.int 1) k p1') p2')) p3') pos) (tRevT X.K te) := by
  refine ⟨fun pins s σ H Q I h => Subscript_ (thn (he.run pins s σ H _ I h) fun v s1 ⟨x, H1, I1, r1, a, xs, ex, hx, q⟩ => ?_)⟩
  subst ex
  cases r1
  have step : PO X (some (.UnaryOp .USub (.Constant (.int 1) k p1') p2')) _ := po_some (pe_un un_neg pe_int)
  refine wpAny_Slice (thn ((po_none (X := X)).run pins s1 σ H1 (fun o H2 => o = none ∧ H2 = H1) I1 ⟨rfl, rfl⟩) fun vl s2 z2 => ?_)
  obtain ⟨l, H2, I2, pl, rfl, rfl⟩ := z2
  refine thn ((po_none (X := X)).run pins s2 σ H2 (fun o H3 => o = none ∧ H3 = H2) I2 ⟨rfl, rfl⟩) fun vu s3 z3 => ?_
  obtain ⟨u, H3, I3, pu, rfl, rfl⟩ := z3
  refine thn (step.run pins s3 σ H3 (fun o H4 => o = some (-1) ∧ H4 = H3) I3 ⟨1, rfl, -1, rfl, rfl, rfl⟩) fun vs s4 z4 => ?_
  obtain ⟨o, H4, I4, ps, rfl, rfl⟩ := z4
  cases pl
  cases pu
  cases ps with
  | int i t =>
  have I5 : Inv X pins σ H4 { s4 with heap := s4.heap.push { cls := .type "slice", data := .fields #[.none, .none, .int (-1) t] } } := I4.kept (t' := s4.toks) fun b ob q => Heap.get?_push_of_some _ q
  obtain ⟨its, r, ht, hz⟩ := I5.tuple hx
  have hlen : its.toArray.size = xs.length := by rw [List.size_toArray]; exact r.length.symm
  show wpAny (model X.prog X.w) X.A (subscriptTail e _ (.ref a) (.ref s4.heap.objs.size)) _ X.xe _
  refine tail_any (ops := [.ref a, .ref s4.heap.objs.size]) ht.typeIs PyProof.Rows.slot_tuple_getitem.lookup ?_ (by with_unfolding_all rfl)
  refine getItem_tuple_rev ht (Heap.IsSliceOf.new _ .none .none (.int (-1) t)) ?_ (by rw [hlen]; exact hz)
  refine ⟨.ref _, _, I5.laid (t' := s4.toks) (o := .tup xs.reverse) (fun b ob q => Heap.get?_push_of_some _ q) (Nat.le_refl _) ?_, rfl, q _ (I5.hok.fresh (Nat.le_refl _))⟩
  refine ⟨by rw [List.length_reverse]; exact hz, _, r.reverse, ?_⟩
  exact IsTup.new _ _
def fRevT : S → Option S
  | .fz (.tup ds) => some (.fz (.tup ds.reverse))
  | _ => none
theorem pn_revT : PN C (fun vs H Q => ∃ x, vs = [x] ∧ ∃ a xs, x = .ref a ∧ SqT C.K H a xs ∧ ∀ p, H p = none → Q (.ref p) (upd H p (.tup xs.reverse))) (p1 fRevT) := by
  refine pn1 (rr := fun x H Q => ∃ a xs, x = .ref a ∧ SqT C.K H a xs ∧ ∀ p, H p = none → Q (.ref p) (upd H p (.tup xs.reverse))) fun U W H x a s Q lv xa h q => ?_
  unfold fRevT at h
  split at h
  · rename_i ds
    cases h
    cases xa with
    | fz r =>
      cases r with
      | @tup a xs _ e t => exact ⟨a, xs, rfl, e, fun p hp => q _ _ (Got.newT (C := C) lv hp (rps_rev t))⟩
  · cases h
def qRevU : Pr := orP (p1 fRevT) qRev
theorem x_revU (he : GE X C e fe) (hK : C.K = X.K := by rfl) : GE X C (.Subscript e (.Slice none none (some (.UnaryOp .USub (.Constant (.int 1) k p1') p2')) p3') pos) (e1 qRevU fe) :=
  ge_orP (ge_un pn_revT (by rw [hK]; exact pe_revT he)) (ge_rev he hK)
end
end GB

/-! zip of two tuples -/
namespace GB
open PySem PySem.Spec PyProof.Rows L2 RZ
section
variable {X : Cx} {C : Ct} {e e2 : Expr} {fa : Rho → Rs (List Opd)} {pos p tpos : Pos} {elts : List Expr} {kk : Nat}
theorem walkZT {K : PySem.W.Frag} {a b : Addr} {n m : Nat} : Walk (ItzT K a b) (min n m) (fun H => ∃ xs ys, SqT K H a xs ∧ SqT K H b ys ∧ xs.length = n ∧ ys.length = m) (fun i H v H' => ∃ T x y, v = .ref T ∧ H T = none ∧ H' = upd H T (.tup [x, y]) ∧ (∀ xs, SqT K H a xs → xs[i]? = some x) ∧ ∀ ys, SqT K H b ys → ys[i]? = some y) :=
  ⟨fun i _ hi ⟨xs, ys, q1, q2, z1, z2⟩ => ⟨xs, ys, _, _, q1, q2, List.getElem?_eq_getElem (by omega), List.getElem?_eq_getElem (by omega)⟩, fun _ ⟨xs, ys, q1, q2, z1, z2⟩ => ⟨xs, ys, q1, q2, by omega⟩, fun _ _ _ _ _ _ y => y⟩
def mkZipT : List S → Option (List D)
  | [.fz (.tup a), .fz (.tup b)] => some ((a.zip b).map fun z => .tup [z.1, z.2])
  | _ => none
theorem gi_zipT (hg : Gl X "zip") (hm : X.mg "zip" = none) (ha : GA X C [e, e2] fa) (hK : C.K = X.K := by rfl)
    (hs : starEach [e, e2] X.env = (false, eval e X.env) :: starEach [e2] X.env := by rfl) (hpl : (backTo pos (starEach [e2] X.env)).any (·.1) = false := by rfl) :
    GI X C (.Tuple elts kk tpos) (.Call (.Name "zip" p) [e, e2] [] pos) fa mkZipT := by
  refine ⟨_, ?_, pi_zipA hg hm ha hs hpl⟩
  intro vs H ss ds U W R hs hn hm q
  unfold mkZipT at hm
  split at hm
  · rename_i as bs
    cases hm
    match hs with
    | .cons (a := v) x (.cons (a := v') y .nil) =>
      cases x with
      | fz x =>
      cases y with
      | fz y =>
      cases x with
      | @tup l1 xs _ h1 r1 =>
      cases y with
      | @tup l2 ys _ h2 r2 =>
      refine ⟨l1, l2, xs, ys, rfl, .inr ⟨hK ▸ h1, hK ▸ h2, q _ ⟨_, _, by rw [List.length_map, List.length_zip]; exact walkZT (K := X.K), fun U W H z => ?_, fun i H x H' d U W hd z lv y => ?_⟩⟩⟩
      · cases z with
        | cons z1 z =>
          cases z with
          | cons z2 z =>
            cases z1 with
            | fz z1 =>
            cases z2 with
            | fz z2 =>
            cases z1 with
            | tup g1 g2 =>
            cases z2 with
            | tup g3 g4 => exact ⟨_, _, hK ▸ g1, hK ▸ g3, g2.len, g4.len⟩
      · cases z with
        | cons z1 z =>
          cases z with
          | cons z2 z =>
            cases z1 with
            | fz z1 =>
            cases z2 with
            | fz z2 =>
            cases z1 with
            | @tup _ xs' _ g1 g2 =>
            cases z2 with
            | @tup _ ys' _ g3 g4 =>
            obtain ⟨T, x0, y0, rfl, hT, rfl, f1, f2⟩ := y
            rw [List.getElem?_map] at hd
            cases e3' : (as.zip bs)[i]? with
            | none => rw [e3'] at hd; cases hd
            | some ab =>
              rw [e3'] at hd; cases hd
              obtain ⟨k1, k2⟩ := List.getElem?_zip_eq_some.mp e3'
              obtain ⟨v1, w1, w2⟩ := rps_at g2 k1
              obtain ⟨v2, w3, w4⟩ := rps_at g4 k2
              have j1 := f1 xs' (hK ▸ g1)
              have j2 := f2 ys' (hK ▸ g3)
              rw [w1] at j1; cases j1
              rw [w3] at j2; cases j2
              exact ⟨upd_keep hT, .tup (.inl (.inl upd_same)) (.cons (w2.mono (monoKeep lv (upd_keep hT))) (.cons (w4.mono (monoKeep lv (upd_keep hT))) .nil))⟩
  · cases hm
end
end GB

/-! dicts, plain -/
namespace GB
open PySem PySem.Spec PyProof.Rows L2
theorem getD_put (kvs : List (Key × D)) (k j : Key) (v : D) : getD (putD kvs k v) j = if j = k then some v else getD kvs j := by
  unfold putD
  by_cases h : (kvs.any fun kv => decide (kv.1 = k)) = true
  · rw [if_pos h]
    induction kvs with
    | nil => cases h
    | cons p r ih =>
      rw [List.map_cons]
      unfold getD
      rw [List.find?_cons, List.find?_cons]
      by_cases e : p.1 = k
      · rw [if_pos e]
        by_cases ej : j = k
        · subst ej; simp [e]
        · have n1 : ¬ p.1 = j := fun z => ej (z.symm.trans e)
          simp only [decide_eq_false n1, if_neg ej]
          by_cases h2 : (r.any fun kv => decide (kv.1 = k)) = true
          · have := ih h2; unfold getD at this; rw [if_neg ej] at this; exact this
          · have e3 : (r.map fun kv => if kv.1 = k then (kv.1, v) else kv) = r := by
              have hn : ∀ x ∈ r, (if x.1 = k then (x.1, v) else x) = x := fun x hx => if_neg fun z => h2 (List.any_eq_true.mpr ⟨x, hx, decide_eq_true z⟩)
              conv => rhs; rw [← List.map_id r]
              exact List.map_congr_left hn
            rw [e3]
      · rw [if_neg e]
        have h2 : (r.any fun kv => decide (kv.1 = k)) = true := by
          rw [List.any_cons, decide_eq_false e, Bool.false_or] at h; exact h
        have ih := ih h2
        unfold getD at ih
        by_cases ej : p.1 = j
        · have n2 : ¬ j = k := fun z => e (ej.trans z)
          simp only [decide_eq_true ej, if_neg n2]
        · simp only [decide_eq_false ej]; exact ih
  · rw [if_neg h]
    induction kvs with
    | nil =>
      unfold getD
      by_cases e : j = k
      · subst e; simp
      · have : ¬ k = j := fun z => e z.symm
        simp [e, this]
    | cons p r ih =>
      have h' : ¬ (p.1 = k) ∧ ¬ (r.any fun kv => decide (kv.1 = k)) = true := by
        rw [List.any_cons, Bool.or_eq_true, not_or] at h
        exact ⟨fun z => h.1 (decide_eq_true z), h.2⟩
      have ih := ih h'.2
      unfold getD at ih ⊢
      rw [List.cons_append, List.find?_cons, List.find?_cons]
      by_cases ej : p.1 = j
      · have n2 : ¬ j = k := fun z => h'.1 (ej.trans z)
        simp only [decide_eq_true ej, if_neg n2]
      · simp only [decide_eq_false ej]; exact ih
theorem putD_len (kvs : List (Key × D)) (k : Key) (v : D) : (putD kvs k v).length ≤ kvs.length + 1 := by
  unfold putD
  split
  · rw [List.length_map]; omega
  · rw [List.length_append, List.length_singleton]; omega
@[simp] theorem s_ixD {kvs : List (Key × D)} {k : Int} : qIx [.od kvs, .fz (.int k)] = (getD kvs (.inl k)).map .fz := rfl
@[simp] theorem s_putD {kvs : List (Key × D)} {v : D} {k : Int} : mPut (.od kvs) [v, .int k] = if decide (kvs.length < 16777216) then some (.od (putD kvs (.inl k) v), .non) else none := rfl
/-- k not in a dict of whole numbers -/
theorem notIn_di (i : Int) (kvs : List (Key × D)) : qNotIn [.fz (.int i), .od kvs] = some (.fz (.bl (!(getD kvs (.inl i)).isSome))) := by
  unfold qNotIn
  rw [s_orP]
  rfl
end GB

/-! rounds of a map: plain -/
namespace GB
open PySem PySem.Spec PyProof.Rows L2
/-- from x along s, and then to e -/
def Lk (f : Nat → Nat) : Nat → List Nat → Nat → Prop
  | x, [], e => f x = e
  | x, y :: s, e => f x = y ∧ Lk f y s e
theorem lk_app {f : Nat → Nat} : ∀ {s : List Nat} {x y e : Nat} {t : List Nat}, Lk f x (s ++ y :: t) e ↔ Lk f x s y ∧ Lk f y t e
  | [], x, y, e, t => Iff.rfl
  | z :: s, x, y, e, t => by
    show f x = z ∧ Lk f z (s ++ y :: t) e ↔ (f x = z ∧ Lk f z s y) ∧ _
    rw [lk_app, and_assoc]
theorem lk_one {f : Nat → Nat} : ∀ {s t : List Nat} {x e : Nat}, Lk f x s e → Lk f x t e → e ∉ s → e ∉ t → s = t
  | [], [], _, _, _, _, _, _ => rfl
  | [], y :: t, x, e, h, k, _, ht => absurd (show e ∈ y :: t by rw [← show f x = e from h, k.1]; exact List.mem_cons_self ..) ht
  | y :: s, [], x, e, h, k, hs, _ => absurd (show e ∈ y :: s by rw [← show f x = e from k, h.1]; exact List.mem_cons_self ..) hs
  | y :: s, z :: t, x, e, h, k, hs, ht => by
    obtain ⟨h1, h2⟩ := h
    obtain ⟨k1, k2⟩ := k
    obtain rfl : y = z := h1.symm.trans k1
    rw [lk_one h2 k2 (fun q => hs (List.mem_cons_of_mem _ q)) (fun q => ht (List.mem_cons_of_mem _ q))]
/-- another map, alike but at the begin -/
theorem lk_from {f g : Nat → Nat} {a b : Nat} : ∀ {s : List Nat} {e : Nat}, Lk f a s e → g b = f a → (∀ c ∈ s, g c = f c) → Lk g b s e
  | [], e, h, hb, _ => hb.trans h
  | y :: s, e, h, hb, hs => ⟨hb.trans h.1, lk_from h.2 (hs y (List.mem_cons_self ..)) fun c hc => hs c (List.mem_cons_of_mem _ hc)⟩
theorem lk_map {f g m : Nat → Nat} : ∀ {s : List Nat} {x e : Nat}, Lk f x s e → (∀ c ∈ x :: s, g (m c) = m (f c)) → Lk g (m x) (s.map m) (m e)
  | [], x, e, h, hc => by
    show g (m x) = m e
    rw [hc x (List.mem_cons_self ..), show f x = e from h]
  | y :: s, x, e, h, hc => ⟨by rw [hc x (List.mem_cons_self ..), h.1], lk_map h.2 fun c h' => hc c (List.mem_cons_of_mem _ h')⟩
/-- back again -/
theorem lk_rev {f g : Nat → Nat} : ∀ {s : List Nat} {x e : Nat}, Lk f x s e → (∀ c ∈ x :: s, g (f c) = c) → Lk g e s.reverse x
  | [], x, e, h, hc => by
    show g e = x
    rw [← show f x = e from h]
    exact hc x (List.mem_cons_self ..)
  | y :: s, x, e, h, hc => by
    rw [List.reverse_cons]
    refine lk_app.mpr ⟨lk_rev h.2 fun c h' => hc c (List.mem_cons_of_mem _ h'), ?_⟩
    show g y = x
    rw [← h.1]
    exact hc x (List.mem_cons_self ..)
/-- a round -/
def Orb (f : Nat → Nat) (u : List Nat) : Prop := ∃ x s, u = x :: s ∧ Lk f x s x
theorem Orb.rt {f : Nat → Nat} {u v : List Nat} (h : Orb f u) (r : Rt u v) : Orb f v := by
  obtain ⟨x, s, rfl, h⟩ := h
  obtain ⟨a, b, e, rfl⟩ := r
  cases a with
  | nil => rw [List.append_nil]; exact ⟨x, s, e.symm, h⟩
  | cons y a =>
    cases b with
    | nil =>
      rw [List.append_nil] at e
      exact ⟨x, s, e.symm, h⟩
    | cons z b =>
      cases e
      obtain ⟨h1, h2⟩ := lk_app.mp h
      exact ⟨z, b ++ x :: a, rfl, lk_app.mpr ⟨h2, h1⟩⟩
/-- the rounds of a map of X, each letter in one -/
def CD (f : Nat → Nat) (X : List Nat) (A : List (List Nat)) : Prop := (∀ u ∈ A, Orb f u) ∧ A.flatten.Perm X
theorem flat_perm {A B : List (List Nat)} (h : A.Perm B) : A.flatten.Perm B.flatten := by
  induction h with
  | nil => exact List.Perm.refl _
  | cons x _ ih => rw [List.flatten_cons, List.flatten_cons]; exact ih.append_left x
  | swap x y l =>
    rw [List.flatten_cons, List.flatten_cons, List.flatten_cons, List.flatten_cons, ← List.append_assoc, ← List.append_assoc]
    exact List.perm_append_comm.append_right _
  | trans _ _ h1 h2 => exact h1.trans h2
theorem Rt.perm {a b : List Nat} (h : Rt a b) : a.Perm b := by
  obtain ⟨u, v, rfl, rfl⟩ := h
  exact List.perm_append_comm
theorem CD.perm {f : Nat → Nat} {X : List Nat} {A B : List (List Nat)} (c : CD f X A) (h : A.Perm B) : CD f X B :=
  ⟨fun u hu => c.1 u (h.mem_iff.mpr hu), (flat_perm h.symm).trans c.2⟩
/-- a letter's round, begun with it -/
theorem CD.pick {f : Nat → Nat} {X : List Nat} {A : List (List Nat)} (c : CD f X A) {x : Nat} (hx : x ∈ X) : ∃ u s A1, A.Perm (u :: A1) ∧ Rt u (x :: s) ∧ Lk f x s x ∧ CD f X ((x :: s) :: A1) := by
  obtain ⟨u, hu, hxu⟩ := List.mem_flatten.mp (c.2.mem_iff.mpr hx)
  obtain ⟨A1, hp⟩ : ∃ A1, A.Perm (u :: A1) := ⟨A.erase u, List.perm_cons_erase hu⟩
  obtain ⟨p, q, rfl⟩ := List.append_of_mem hxu
  have r : Rt (p ++ x :: q) (x :: (q ++ p)) := ⟨p, x :: q, rfl, rfl⟩
  have o := (c.1 _ hu).rt r
  obtain ⟨y, t, e, l⟩ := o
  cases e
  refine ⟨_, q ++ p, A1, hp, r, l, fun v hv => ?_, ?_⟩
  · rcases List.mem_cons.mp hv with rfl | hv
    · exact ⟨x, q ++ p, rfl, l⟩
    · exact c.1 v (hp.mem_iff.mpr (List.mem_cons_of_mem _ hv))
  · have := (flat_perm hp).symm.trans c.2
    rw [List.flatten_cons] at this ⊢
    exact (r.perm.symm.append_right _).trans this
theorem perm_cancel {a b c : List Nat} (h : (a ++ b).Perm (a ++ c)) : b.Perm c := (List.perm_append_left_iff a).mp h
/-- the rounds are told by the map, up to turning and their order -/
theorem CD.one {f : Nat → Nat} : ∀ {A B : List (List Nat)} {X : List Nat}, X.Nodup → CD f X A → CD f X B → (A.map leastTurn).Perm (B.map leastTurn)
  | [], B, X, _, ca, cb => by
    have e : X = [] := List.Perm.nil_eq ca.2 |>.symm
    subst e
    have z : B.flatten = [] := cb.2.eq_nil
    cases B with
    | nil => exact List.Perm.refl _
    | cons v B =>
      obtain ⟨x, s, rfl, _⟩ := cb.1 v (List.mem_cons_self ..)
      simp at z
  | u :: A, B, X, nd, ca, cb => by
    obtain ⟨x, s, rfl, l⟩ := ca.1 u (List.mem_cons_self ..)
    have hx : x ∈ X := ca.2.mem_iff.mp (by simp)
    obtain ⟨v, t, B1, hp, r, l2, cb2⟩ := cb.pick hx
    have na : (x :: s ++ A.flatten).Nodup := ca.2.nodup_iff.mpr nd
    have nb : (x :: t ++ B1.flatten).Nodup := by
      have := cb2.2.nodup_iff.mpr nd
      rwa [List.flatten_cons] at this
    have n1 : x ∉ s := (List.nodup_cons.mp (List.nodup_append.mp na).1).1
    have n2 : x ∉ t := (List.nodup_cons.mp (List.nodup_append.mp nb).1).1
    have est : s = t := lk_one l l2 n1 n2
    subst est
    have pa : (x :: s ++ A.flatten).Perm X := ca.2
    have pb : (x :: s ++ B1.flatten).Perm X := by have := cb2.2; rwa [List.flatten_cons] at this
    have pr : B1.flatten.Perm A.flatten := perm_cancel (pb.trans pa.symm)
    have ih := CD.one (f := f) (A := A) (B := B1) (X := A.flatten) (List.nodup_append.mp na).2.1 ⟨fun u hu => ca.1 u (List.mem_cons_of_mem _ hu), List.Perm.refl _⟩ ⟨fun u hu => cb2.1 u (List.mem_cons_of_mem _ hu), pr⟩
    have h1 : (B.map leastTurn).Perm ((v :: B1).map leastTurn) := hp.map _
    rw [List.map_cons, least_iff.mpr r] at h1
    rw [List.map_cons]
    exact (ih.cons _).trans h1.symm
/-- two letters' ways on exchanged: a round more, or a round fewer -/
theorem CD.swap {f g : Nat → Nat} {X : List Nat} (nd : X.Nodup) {A : List (List Nat)} (c : CD f X A) {x y : Nat} (hx : x ∈ X) (hy : y ∈ X) (ne : x ≠ y) (gx : g x = f y) (gy : g y = f x) (go : ∀ c ∈ X, c ≠ x → c ≠ y → g c = f c) :
    ∃ B, CD g X B ∧ (B.length = A.length + 1 ∨ B.length + 1 = A.length) := by
  obtain ⟨u, s, A1, hp, r, l, c1⟩ := c.pick hx
  have la : A.length = A1.length + 1 := by rw [hp.length_eq]; rfl
  have nx' : (x :: s ++ A1.flatten).Nodup := by have := c1.2.nodup_iff.mpr nd; rwa [List.flatten_cons] at this
  have pX : (x :: s ++ A1.flatten).Perm X := by have := c1.2; rwa [List.flatten_cons] at this
  by_cases h : y ∈ s
  · obtain ⟨s1, s2, rfl⟩ := List.append_of_mem h
    obtain ⟨l1, l2⟩ := lk_app.mp l
    have n0 := (List.nodup_append.mp nx').1
    have inX : ∀ c ∈ x :: (s1 ++ y :: s2), c ∈ X := fun c hc => pX.mem_iff.mp (List.mem_append_left _ hc)
    have nx1 : x ∉ s1 ++ y :: s2 := (List.nodup_cons.mp n0).1
    have n3 := (List.nodup_cons.mp n0).2
    have ny1 : y ∉ s1 := fun q => (List.nodup_append.mp n3).2.2 y q y (List.mem_cons_self ..) rfl
    have ny2 : y ∉ s2 := (List.nodup_cons.mp (List.nodup_append.mp n3).2.1).1
    have m1 : Lk g y s1 y := lk_from l1 gy fun c hc => go c (inX c (by simp [hc])) (fun e => nx1 (by simp [← e, hc])) (fun e => ny1 (e ▸ hc))
    have m2 : Lk g x s2 x := lk_from l2 gx fun c hc => go c (inX c (by simp [hc])) (fun e => nx1 (by simp [← e, hc])) (fun e => ny2 (e ▸ hc))
    refine ⟨(x :: s2) :: (y :: s1) :: A1, ⟨fun v hv => ?_, ?_⟩, .inl (by simp [la])⟩
    · rcases List.mem_cons.mp hv with rfl | hv
      · exact ⟨x, s2, rfl, m2⟩
      · rcases List.mem_cons.mp hv with rfl | hv
        · exact ⟨y, s1, rfl, m1⟩
        · obtain ⟨z, t, rfl, lz⟩ := c1.1 v (List.mem_cons_of_mem _ hv)
          have out : ∀ c ∈ z :: t, g c = f c := fun c hc => by
            have mf : c ∈ A1.flatten := List.mem_flatten.mpr ⟨_, hv, hc⟩
            have dj := (List.nodup_append.mp nx').2.2
            exact go c (pX.mem_iff.mp (List.mem_append_right _ mf)) (fun e => dj x (List.mem_cons_self ..) c mf e.symm) (fun e => dj y (by simp) c mf e.symm)
          exact ⟨z, t, rfl, lk_from lz (out z (List.mem_cons_self ..)) fun c hc => out c (List.mem_cons_of_mem _ hc)⟩
    · rw [List.flatten_cons, List.flatten_cons, ← List.append_assoc]
      refine (List.Perm.append_right _ ?_).trans pX
      show (x :: (s2 ++ y :: s1)).Perm (x :: (s1 ++ y :: s2))
      refine List.Perm.cons _ ?_
      refine (List.perm_append_comm (l₁ := s2) (l₂ := y :: s1)).trans ?_
      show (y :: (s1 ++ s2)).Perm _
      exact List.perm_middle.symm
  · have hyA : y ∈ A1.flatten := by
      have := pX.mem_iff.mpr hy
      rcases List.mem_append.mp this with z | z
      · rcases List.mem_cons.mp z with z | z
        · exact absurd z.symm ne
        · exact absurd z h
      · exact z
    have c2 : CD f A1.flatten A1 := ⟨fun v hv => c1.1 v (List.mem_cons_of_mem _ hv), List.Perm.refl _⟩
    obtain ⟨v, t, A2, hp2, r2, l2, c3⟩ := c2.pick hyA
    have p2 : (y :: t ++ A2.flatten).Perm A1.flatten := by have := c3.2; rwa [List.flatten_cons] at this
    have pX2 : (x :: s ++ (y :: t ++ A2.flatten)).Perm X := (p2.append_left _).trans pX
    have nd2 := pX2.nodup_iff.mpr nd
    have n1 := (List.nodup_append.mp nd2).1
    have n2 := (List.nodup_append.mp nd2).2.1
    have d12 := (List.nodup_append.mp nd2).2.2
    have n3 := (List.nodup_append.mp n2).1
    have d23 := (List.nodup_append.mp n2).2.2
    have ms : ∀ c ∈ s, g c = f c := fun c hc => go c (pX2.mem_iff.mp (by simp [hc])) (fun e => (List.nodup_cons.mp n1).1 (e ▸ hc)) (fun e => d12 c (by simp [hc]) y (by simp) e)
    have mt : ∀ c ∈ t, g c = f c := fun c hc => go c (pX2.mem_iff.mp (by simp [hc])) (fun e => d12 x (by simp) c (by simp [hc]) e.symm) (fun e => (List.nodup_cons.mp n3).1 (e ▸ hc))
    have m1 : Lk g x t y := lk_from l2 gx mt
    have m2 : Lk g y s x := lk_from l gy ms
    refine ⟨(x :: (t ++ y :: s)) :: A2, ⟨fun v hv => ?_, ?_⟩, .inr (by rw [la, hp2.length_eq]; simp)⟩
    · rcases List.mem_cons.mp hv with rfl | hv
      · exact ⟨x, t ++ y :: s, rfl, lk_app.mpr ⟨m1, m2⟩⟩
      · obtain ⟨z, q, rfl, lz⟩ := c3.1 v (List.mem_cons_of_mem _ hv)
        have out : ∀ c ∈ z :: q, g c = f c := fun c hc => by
          have mf : c ∈ A2.flatten := List.mem_flatten.mpr ⟨_, hv, hc⟩
          exact go c (pX2.mem_iff.mp (by simp only [List.mem_append]; exact .inr (.inr mf))) (fun e => d12 x (by simp) c (List.mem_append_right _ mf) e.symm) (fun e => d23 y (by simp) c mf e.symm)
        exact ⟨z, q, rfl, lk_from lz (out z (List.mem_cons_self ..)) fun c hc => out c (List.mem_cons_of_mem _ hc)⟩
    · rw [List.flatten_cons]
      refine List.Perm.trans ?_ pX2
      show (x :: (t ++ y :: s) ++ A2.flatten).Perm (x :: s ++ (y :: t ++ A2.flatten))
      rw [← List.append_assoc]
      refine List.Perm.append_right _ ?_
      show (x :: (t ++ y :: s)).Perm (x :: (s ++ y :: t))
      refine List.Perm.cons _ ?_
      refine (List.perm_append_comm (l₁ := t) (l₂ := y :: s)).trans ?_
      show (y :: (s ++ t)).Perm _
      exact List.perm_middle.symm
end GB

/-! try: body, except x as n: a suite that raises out of the try (the name goes while the exception flies) -/
namespace GX
open PySem PySem.Spec PyProof.Rows L2 L2H HotX
section
variable {M : Model} {A : Around} {E : Value → Shared → Prop} {env : Env} {outer l : List Env} {L a : Addr} {Z : Obj → Prop} {B h h' : Heap} {s : Shared}
/-- noted: held -/
theorem sky_held {Q : Unit → Shared → Prop} (hZ : HandSPX.Steady Z) (hfr : A.frames = some (env :: outer)) (hf : env.frame = some L)
    (x : Sky B (env :: outer) a Z L s.heap) (hQ : ∀ h', HandSPX.HeldZ B (env :: outer) a Z L h' → s.heap.UpToSlots h' → Q () { s with heap := h' }) : wpAny M A (noteFrame (.ref a) env) Q E s := by
  rcases x with ⟨hB, hn, hl, oe, vs, he, hz, hd, h1⟩ | fl | hh
  · exact HandSPX.look_newZ hZ hfr hl hf he hB hn hd h1 hz hQ
  · exact HandSPX.looks_onZ hZ hfr hf fl hQ
  · exact HandSPX.againZ hf hh.2.2.2 (hQ s.heap hh (Heap.UpToSlots.refl _))
/-- the frames stand where the one at L is changed -/
theorem frames_but (hs : Heap.SameBut L h h') (hL : ∃ o, h'.get? L = some o ∧ ∀ vs, o.data ≠ .fields vs) : ∀ {l : List Env}, h.FunFrames B l → h'.FunFrames B l
  | [], _ => trivial
  | _ :: _, ⟨hk, ⟨L', o, hf, hn, ho, hd⟩, hr⟩ => by
    refine ⟨hk, ?_, frames_but hs hL hr⟩
    by_cases e : L' = L
    · subst e
      obtain ⟨o', ho', hd'⟩ := hL
      exact ⟨L', o', hf, hn, ho', hd'⟩
    · exact ⟨L', o, hf, hn, (hs.2 L' e).trans ho, hd⟩
theorem held_but (hh : HandSPX.HeldZ B l a Z L h) (hs : Heap.SameBut L h h') (hB : B.get? L = none) (h0 : ∀ o vs, h.get? L = some o → o.data ≠ .fields vs) (hL : ∃ o, h'.get? L = some o ∧ ∀ vs, o.data ≠ .fields vs) : HandSPX.HeldZ B l a Z L h' := by
  obtain ⟨k1, k2, k3, oe, vs, T, oT, ts, he, hz, hd, h1, hnT, hTe, hT, hdT, h3⟩ := hh
  have na : a ≠ L := fun z => h0 oe vs (z ▸ he) hd
  have nT : T ≠ L := fun z => h0 oT ts (z ▸ hT) hdT
  exact ⟨fun b o e => (hs.2 b fun z => by rw [z, hB] at e; cases e).trans (k1 b o e), k2, frames_but hs hL k3, oe, vs, T, oT, ts, (hs.2 a na).trans he, hz, hd, h1, hnT, hTe, (hs.2 T nT).trans hT, hdT, h3⟩
end
section
variable {X : Cx} {pins : List (Addr × Obj)} {σ : L2.St} {H : Hp} {s : Shared} {i : Nat} {n : Str}
/-- the state where the name is gone -/
theorem gone_at {m : Str → Option Value} {h' : Heap} {v : Option Value} {t : Nat} (I : Inv X pins σ H s) (hN : X.N.Nodup) (hi : X.N[i]? = some n) (hn : s.heap.Ns X.env.locals m)
    (hn' : h'.Ns X.env.locals (fun x => if x = n then v else m x)) (hs : Heap.SameBut X.env.locals s.heap h') : Inv X pins (σ.set i none) H { s with heap := h', toks := t } := by
  obtain ⟨m0, hn0, hlk⟩ := id I.loc
  have em : m0 = m := by
    obtain ⟨o, es, ep, e1, d1, _, f1⟩ := hn0
    obtain ⟨o', es', ep', e2, d2, _, f2⟩ := hn
    rw [e1] at e2; cases e2
    rw [d1] at d2; cases d2
    funext x
    rw [← f1 x, ← f2 x]
  subst em
  obtain ⟨oL, _, _, hoL, _⟩ := id hn
  have neL : ∀ b o, X.s_0.heap.get? b = some o → b ≠ X.env.locals := fun b o e => Nat.ne_of_lt (Nat.lt_of_lt_of_le (Heap.lt_size e) I.ok.above)
  refine ⟨I.ok, I.os, I.bare, ⟨fun b o e n hb hx => ?_, fun b o e n hb hx => ?_, I.base.free, fun b o e hx => ?_, I.base.tups, I.base.frzs, I.base.tbls⟩, ⟨_, hn', fun j y v' e1 e2 e3 => ?_⟩, fun y c e => ?_, I.free, I.freeC, fun p hp => ?_, fun b ob e => ?_, by simpa using I.len⟩
  · exact (hs.2 b (neL b o e)).trans (I.base.keep b o e n hb hx)
  · obtain ⟨sl, e1⟩ := I.base.slot b o e n hb hx
    exact ⟨sl, (hs.2 b (neL b o e)).trans e1⟩
  · obtain ⟨o', e1⟩ := I.base.there b o e hx
    exact ⟨o', (hs.2 b (neL b o e)).trans e1⟩
  · by_cases hj : j = i
    · subst hj
      by_cases hlt : j < σ.length
      · rw [List.getElem?_set_self hlt] at e2; cases e2
      · rw [List.getElem?_eq_none (by simpa using hlt)] at e2; cases e2
    · rw [List.getElem?_set_ne (Ne.symm hj)] at e2
      obtain ⟨u', r', q⟩ := hlk j y v' e1 e2 e3
      refine ⟨u', r', ?_⟩
      rcases q with ⟨k, e⟩ | ⟨k, c, e, z⟩
      · have ny : y ≠ n := fun e => hj (nodup_ix hN e1 (e ▸ hi))
        exact .inl ⟨k, (if_neg ny).trans e⟩
      · exact .inr ⟨k, c, e, z.sameBut hs (I.cne y c e)⟩
  · obtain ⟨w', z⟩ := I.cell y c e
    exact ⟨w', z.sameBut hs (I.cne y c e)⟩
  · obtain ⟨e, n, ne, nf, d⟩ := I.pin p hp
    exact ⟨(hs.2 p.1 ne).trans e, n, ne, nf, d⟩
  · refine (I.hok b ob e).stay (fun c w' hc q => (hs.2 c ?_).trans q) (fun _ q => q) fun _ _ q => q
    intro z
    subst z
    rcases hc with hc | hc
    · rw [← hc, I.free] at e; cases e
    · rw [I.free] at hc; cases hc
/-- the name goes while an exception is held -/
theorem air_gone {M : Model} {A : Around} {E : Value → Shared → Prop} {pos : Pos} {sI : Shared} {B : Heap} {a : Addr} {Z : Obj → Prop} {Q : Unit → Shared → Prop}
    (hs : X.stack = X.env :: X.outer) (hf : X.env.frame = some X.env.locals) (hN : X.N.Nodup) (hi : X.N[i]? = some n) (hl : X.env.kindOf n = some .local)
    (I : Inv X pins σ H sI) (nb : ∀ b o, sI.heap.get? b = some o → b ∉ frs X.stack → B.get? b = some o) (up : sI.heap.UpToSlots s.heap) (hh : HandSPX.HeldZ B X.stack a Z X.env.locals s.heap)
    (hQ : ∀ s' sI', Inv X pins (σ.set i none) H sI' → (∀ b o, sI'.heap.get? b = some o → b ∉ frs X.stack → B.get? b = some o) → sI'.heap.UpToSlots s'.heap → HandSPX.HeldZ B X.stack a Z X.env.locals s'.heap → s'.os = s.os → s'.gens = s.gens → sI'.os = sI.os → Q () s') :
    wpAny M A (do bindName X.env n .none; unbindBehindTheSuite X.env n pos) Q E s := by
  obtain ⟨m, hn, _⟩ := id I.loc
  have hcls : (X.env.scope.kind == .class || (X.env.scope.kind == .module && X.env.locals != X.env.globals)) = false := by rw [I.ok.kind]; rfl
  have hLf : X.env.locals ∈ frs X.stack := by rw [hs]; exact List.mem_filterMap.mpr ⟨X.env, List.mem_cons_self, hf⟩
  obtain ⟨o1, es1, ep1, ho1, hd1, hk1, hm1⟩ := id hn
  have nf1 : ∀ vs, o1.data ≠ .fields vs := fun vs z => by rw [hd1] at z; cases z
  obtain ⟨sl, hos⟩ := up _ _ ho1 nf1
  have hnS : s.heap.Ns X.env.locals m := ⟨_, es1, ep1, hos, hd1, hk1, hm1⟩
  refine wpAny_nameGoes_keeps hl hnS hcls fun h' v hn' hsb => ?_
  obtain ⟨o2, es2, ep2, ho2, hd2, hk2, hm2⟩ := hn'
  have nf2 : ∀ vs, o2.data ≠ .fields vs := fun vs z => by rw [hd2] at z; cases z
  have hfree : o2.isFreed = false := (Heap.get?_some_iff.mp ho2).2
  have hself : (sI.heap.update X.env.locals (fun _ => o2)).get? X.env.locals = some o2 := Heap.get?_update_self _ ho1 hfree
  have hBL : B.get? X.env.locals = none := (hh.2.2.1.mem hLf).1
  refine hQ _ { sI with heap := sI.heap.update X.env.locals (fun _ => o2), toks := sI.toks } (gone_at (v := v) I hN hi hn ⟨o2, es2, ep2, hself, hd2, hk2, hm2⟩ (Heap.SameBut.update _ _ _)) (fun b o e hb => ?_) (fun b o e hnf => ?_)
    (held_but hh hsb hBL (fun o vs e => by rw [hos] at e; cases e; exact nf1 vs) ⟨o2, ho2, nf2⟩) rfl rfl rfl
  · have ne : X.env.locals ≠ b := fun z => hb (z ▸ hLf)
    exact nb b o ((Heap.get?_update_other _ _ ne).symm.trans e) hb
  · by_cases z : b = X.env.locals
    · subst z
      have e' : (sI.heap.update X.env.locals (fun _ => o2)).get? X.env.locals = some o := e
      rw [hself] at e'; cases e'
      exact ⟨o2.slots, ho2⟩
    · have e' : sI.heap.get? b = some o := (Heap.get?_update_other _ _ (fun q => z q.symm)).symm.trans e
      obtain ⟨sl2, e2⟩ := up b o e' hnf
      exact ⟨sl2, (hsb.2 b z).trans e2⟩
end
/-- the context of a named except suite that may raise: what a raise in it does -/
def outXe (X : Cx) (a : Addr) (n : Str) (pos' : Pos) : Value → Shared → Prop := fun x s3 =>
  wpAny (model X.prog X.w) (X.A.mark (some (.ref a))) (noteFrame x X.env) (fun _ s3' =>
    wpAny (model X.prog X.w) (X.A.mark (some (.ref a))) (do bindName X.env n .none; unbindBehindTheSuite X.env n pos')
      (fun _ s4 => wpAny (model X.prog X.w) (X.A.mark (some (.ref a))) (PySem.passOn "try.except-as" x X.env : Sem Flow) (fun _ _ => False) (notedBy (model X.prog X.w) (X.A.mark (some (.ref a))) X.env (cameBackBy (model X.prog X.w) X.A X.env X.xe)) s4)
      (fun y s4 => wpAny (model X.prog X.w) (X.A.mark (some (.ref a))) (setFlight x none) (fun _ s5 => (notedBy (model X.prog X.w) (X.A.mark (some (.ref a))) X.env (cameBackBy (model X.prog X.w) X.A X.env X.xe)) y s5) (notedBy (model X.prog X.w) (X.A.mark (some (.ref a))) X.env (cameBackBy (model X.prog X.w) X.A X.env X.xe)) s4) s3')
    (notedBy (model X.prog X.w) (X.A.mark (some (.ref a))) X.env (cameBackBy (model X.prog X.w) X.A X.env X.xe)) s3
abbrev outX (X : Cx) (a : Addr) (n : Str) (pos' : Pos) (pn : List (Addr × Obj)) : Cx := { X with A := X.A.mark (some (.ref a)), calm := false, pn := pn, xe := outXe X a n pos' }
section
variable {X : Cx} {x n : Str} {c : Value} {i : Nat} {body suite : List Stmt} {b₀ : Stmt} {np pos pos' : Pos} {tb : WX → TS} {ts : Addr → Value → Option Addr → TS} {Wout : WX}
/-- a wish behind the name's going -/
def wGone (i : Nat) (W : WX) : WX := fun cls d σ H => W cls d (σ.set i none) H
theorem out_takes {a : Addr} {q : Addr × Obj} {pins : List (Addr × Obj)} (ok : X.Ok) (hs : X.stack = X.env :: X.outer) (hf : X.env.frame = some X.env.locals) (hN : X.N.Nodup) (hi : X.N[i]? = some n) (hln : X.env.kindOf n = some .local)
    (hpa : ∀ hd : Option Value, PassesOwnAt (model X.prog X.w) (X.A.mark hd) X.A X.env X.xe) (tk : L2.Takes X Wout) : L2.Takes (outX X a n pos' (q :: (X.pn ++ pins))) (wGone i Wout) := by
  rintro u s' ⟨a2, B2, sI, pins2, σ2, H2, cls2, d2, rfl, I2, nb2, up2, sky2, na2, os2, ag2, w2⟩
  have I : Inv X pins σ2 H2 sI := Inv.unsuite (X := X) (a := a) (q := q) (pn' := pins2) (show Inv (X.suite a (q :: (X.pn ++ pins))) pins2 σ2 H2 sI from Inv.wish (X := outX X a n pos' (q :: (X.pn ++ pins))) I2 fun _ _ => False) ok
  have hfr : X.A.frames = some (X.env :: X.outer) := by rw [ok.frames, hs]
  have sky' : Sky B2 (X.env :: X.outer) a2 (Zc cls2 d2) X.env.locals s'.heap := by rw [← hs]; exact sky2
  show outXe X a n pos' (.ref a2) s'
  unfold outXe
  refine sky_held Zc.steady (by exact hfr) hf sky' fun h1 hh1 up1 => ?_
  refine air_gone (X := X) (s := { s' with heap := h1 }) (B := B2) (a := a2) (Z := Zc cls2 d2) (sI := sI) (pins := pins) (σ := σ2) (H := H2) (i := i) hs hf hN hi hln I nb2 (up2.trans up1) (by rw [hs]; exact hh1) fun s3 sJ J nb3 up3 hh3 os3 gs3 os4 => ?_
  obtain ⟨k1, k2, k3, oe, vs, T, oT, ts', he, hz, hd, h1', hr⟩ := id hh3
  unfold PySem.passOn
  refine wpAny_bind (wpAny_field he hd h1' ?_)
  rw [if_neg (show ¬ ((Value.ref T == Value.none) = true) from by simp)]
  have fin : wpAny (model X.prog X.w) (X.A.mark (some (.ref a))) (setFlight (.ref a2) X.env.frame) (fun _ s4 => wpAny (model X.prog X.w) (X.A.mark (some (.ref a))) (throw (.ref a2) : Sem Flow) (fun _ _ => False) (notedBy (model X.prog X.w) (X.A.mark (some (.ref a))) X.env (cameBackBy (model X.prog X.w) X.A X.env X.xe)) s4) (notedBy (model X.prog X.w) (X.A.mark (some (.ref a))) X.env (cameBackBy (model X.prog X.w) X.A X.env X.xe)) s3 := by
    rw [hf]
    refine HandSPX.setFlight_onZ hh3 fun h4 hh4 up4 => wpAny_throw (hpa (some (.ref a)) _ _ (tk _ _ ?_))
    exact ⟨a2, B2, sJ, pins, σ2.set i none, H2, cls2, d2, rfl, J, nb3, up3.trans up4, .inr (.inr hh4), na2, by rw [os4]; exact os3.trans os2, by rw [show ({ s3 with heap := h4 } : Shared).gens = s3.gens from rfl, gs3]; exact ag2, w2⟩
  first
    | exact wpAny_bind (wpAny_pure (wpAny_bind fin))
    | exact wpAny_bind fin
theorem ps_try_asX (hs : X.stack = X.env :: X.outer) (hf : X.env.frame = some X.env.locals) (hN : X.N.Nodup) (hi : X.N[i]? = some n) (hln : X.env.kindOf n = some .local) (hc : Names X x c) (hpa : ∀ hd : Option Value, PassesOwnAt (model X.prog X.w) (X.A.mark hd) X.A X.env X.xe) (tk : L2.Takes X Wout)
    (hb : ∀ (W : WX) (pn : List (Addr × Obj)) (xe : Value → Shared → Prop), L2N.Takes (X.tr pn xe) W → L2.Takes (X.tr pn xe) (wPass X.K c Wout) → PassesOwn (model X.prog X.w) X.A X.env xe → PSs (X.tr pn xe) body (tb W))
    (hsu : ∀ (a : Addr) (oe : Obj) (cls : Value) (d : Option Addr) (pn : List (Addr × Obj)), L2N.Zn cls d oe → (∃ vs, oe.data = .fields vs) → L2.Takes (outX X a n pos' ((a, oe) :: pn)) (wGone i Wout) → HotC (outX X a n pos' ((a, oe) :: pn)) →
      PSs (outX X a n pos' ((a, oe) :: pn)) (b₀ :: suite) (ts a cls d)) :
    PS X (.Try body [.ExceptHandler (some (.Name x np)) (some n) (b₀ :: suite) pos'] [] [] pos) (fun D σ H => tb (wAs X.K c i ts Wout D) D σ H) := by
  refine ⟨fun pins s σ H D I h => ?_⟩
  have ok := I.ok
  have hfr : X.A.frames = some (X.env :: X.outer) := by rw [ok.frames, hs]
  have hloc : Loc X.env.scope n := .inl hln
  have notFr : ∀ {B h : Heap} {a : Addr} {o : Obj} {vs : Array Value}, h.FunFrames B (X.env :: X.outer) → h.get? a = some o → o.data = .fields vs → a ∉ frs (X.env :: X.outer) := fun {B h a o vs} ff e dd hm => by
    obtain ⟨_, o', e', hnf⟩ := ff.mem hm
    rw [e] at e'; cases e'
    exact hnf _ dd
  have flyOn : ∀ {a : Addr} {B : Heap} {sI s' : Shared} {σ' : L2.St} {H' : Hp} {cls : Value} {d : Option Addr} {h3 : Heap}, Inv X pins σ' H' sI → (∀ b o, sI.heap.get? b = some o → b ∉ frs X.stack → B.get? b = some o) → sI.heap.UpToSlots h3 →
      HandSPX.FlyingZ B (X.env :: X.outer) a (Zc cls d) h3 → H' a = none → s'.os = sI.os → AllBare s'.gens → Wout cls d σ' H' → wpAny (model X.prog X.w) X.A (handleBy (.ref a) X.env []) (SP X pins D) X.xe { s' with heap := h3 } := by
    intro a B sI s' σ' H' cls d h3 J nb up fl3 na os ag w
    refine wpAny_handleBy_nil ?_
    obtain ⟨k1, k2, k3, oe, vs, T, oT, ts', he, hz, hd, h1, hr⟩ := id fl3
    unfold PySem.passOn
    refine wpAny_bind (wpAny_field he hd h1 ?_)
    rw [if_neg (show ¬ ((Value.ref T == Value.none) = true) from by simp)]
    have fin : wpAny (model X.prog X.w) X.A (setFlight (.ref a) X.env.frame) (fun _ s4 => wpAny (model X.prog X.w) X.A (throw (.ref a) : Sem Flow) (SP X pins D) X.xe s4) X.xe { s' with heap := h3 } := by
      rw [hf]
      refine HandSPX.setFlight_upZ fl3 fun h4 hh4 up4 => wpAny_throw (tk _ _ ?_)
      exact ⟨a, B, sI, pins, σ', H', cls, d, rfl, J, nb, up.trans up4, .inr (.inr (by rw [hs]; exact hh4)), na, os, ag, w⟩
    first
      | exact wpAny_bind (wpAny_pure (wpAny_bind fin))
      | exact wpAny_bind fin
  refine wpAny_Try_except ?_
  refine wpAny_mono ((hb (wAs X.K c i ts Wout D) (X.pn ++ pins) (fun e s₁ => wpAny (model X.prog X.w) X.A (noteFrame e X.env) (fun _ s₂ => wpAny (model X.prog X.w) X.A (setFlight e none) (fun _ s₃ =>
    wpAny (model X.prog X.w) X.A (handleBy e X.env [.ExceptHandler (some (.Name x np)) (some n) (b₀ :: suite) pos']) (SP X pins D) X.xe s₃) X.xe s₂) X.xe s₁) (fun u s' xx => ?_) (fun u s' xx => ?_) PassesOwn.looking).run [] s σ H D (I.toTry _) h) (fun f s1 hsp => ?_) (fun e s1 he => he)
  · -- an exception whose context is None
    obtain ⟨a, B, sI, pins', σ', H', cls, d, rfl, J', nb, up, sky, na, os, ag, b, hb1, hyes, hno⟩ := xx
    have J : Inv X pins σ' H' sI := J'.ofTry ok
    have sky' : Sky B (X.env :: X.outer) a (L2N.Zn cls d) X.env.locals s'.heap := by rw [← hs]; exact sky
    show wpAny (model X.prog X.w) X.A (noteFrame (.ref a) X.env) _ _ _
    refine L2N.Sky.land L2N.Zn.steady hfr hf sky' fun h3 fl3 up3 => ?_
    have J3 : Inv X pins σ' H' { s' with heap := h3 } := J.landed nb fl3.1 (up.trans up3) os ag
    obtain ⟨oe3, vs3, he3, hz3, hd3⟩ := fl3.there
    have nfr : a ∉ frs (X.env :: X.outer) := notFr fl3.2.2.1 he3 hd3
    have nL : a ≠ X.env.locals := fun z => nfr (List.mem_filterMap.mpr ⟨X.env, List.mem_cons_self, by rw [hf, z]⟩)
    have nF : a ∉ X.fs := fun hm => by
      obtain ⟨e, he, q⟩ := List.mem_filterMap.mp hm
      exact nfr (List.mem_filterMap.mpr ⟨e, List.mem_cons_of_mem _ he, q⟩)
    have S3 := J3.suite he3 hd3 na nL nF
    refine wpAny_handleBy_cons (codeAny_handlers_test ?_) (by intro q; cases q)
    have LT : PySem.W.Looks (model X.prog X.w) h3 (typeOf (.ref a)) cls := fun A Q E s k q => wpAny_typeOf_ref (k _ _ he3) (by rw [hz3.1]; exact q)
    have LM := PySem.W.exm_one (M := model X.prog X.w) (J3.kIn) LT hb1
    have test : ∀ {Q : Value → Shared → Prop} {E : Value → Shared → Prop}, Q c { s' with heap := h3 } → wpAny (model X.prog X.w) (X.A.mark (some (.ref a))) (eval (.Name x np) X.env) Q E { s' with heap := h3 } := fun {Q E} q => by
      obtain ⟨hg, hdbg, hm | ⟨hm, hv, hnn⟩⟩ := hc
      · exact ld_glob (X := X.suite a ((a, oe3) :: (X.pn ++ pins))) S3 hg hm q hdbg
      · exact ld_blt (X := X.suite a ((a, oe3) :: (X.pn ++ pins))) S3 hg hm hv q hnn hdbg
    refine test (LM.here ?_)
    cases b with
    | true =>
      refine codeAny_handlers_suite_as ?_
      refine HandSPX.lands_againZ fl3 fun h4 fl4 up4 => ?_
      have J4 : Inv X pins σ' H' { s' with heap := h4 } := J.landed nb fl4.1 ((up.trans up3).trans up4) os ag
      obtain ⟨oe4, vs4, he4, hz4, hd4⟩ := fl4.there
      have S4 : Inv (outX X a n pos' ((a, oe4) :: (X.pn ++ pins))) [] σ' H' { s' with heap := h4 } := Inv.unwish (X := outX X a n pos' ((a, oe4) :: (X.pn ++ pins))) (E := fun _ _ => False) (J4.suite he4 hd4 na nL nF)
      have tkS := out_takes (X := X) (a := a) (q := (a, oe4)) (pins := pins) (pos' := pos') (i := i) (n := n) ok hs hf hN hi hln hpa tk
      have hot : HotC (outX X a n pos' ((a, oe4) :: (X.pn ++ pins))) := ⟨(a, oe4), ⟨rfl, vs4, hd4, hz4.2.2 vs4 hd4⟩, List.mem_cons_self⟩
      refine store_ok (X := outX X a n pos' ((a, oe4) :: (X.pn ++ pins))) (v := .ref a) S4 hN hi hloc rfl (fun s5 S5 => ?_) (.inr hln)
      refine wpAny_mono ((hsu a oe4 cls d (X.pn ++ pins) hz4 ⟨_, hd4⟩ tkS hot).run [] s5 _ H' _ S5 (hyes rfl a na)) (fun f s6 hsp => ?_) (fun e6 s6 z => z)
      have end_ : ∀ {σ6 : L2.St} {H6 : Hp} {Q : Shared → Prop}, Inv (outX X a n pos' ((a, oe4) :: (X.pn ++ pins))) [] σ6 H6 s6 → (∀ s7, Inv X pins (σ6.set i none) H6 s7 → Q s7) →
          wpAny (model X.prog X.w) X.A (do bindName X.env n .none; unbindBehindTheSuite X.env n pos') (fun _ s7 => Q s7) X.xe s6 := fun {σ6 H6 Q} S6 hq =>
        gone_ok (Inv.unsuite (X := X) (a := a) (q := (a, oe4)) (pn' := []) (show Inv (X.suite a ((a, oe4) :: (X.pn ++ pins))) [] σ6 H6 s6 from Inv.wish (X := outX X a n pos' ((a, oe4) :: (X.pn ++ pins))) S6 fun _ _ => False) ok) hN hi hln hq
      cases f with
      | next =>
        obtain ⟨σ6, H6, S6, q6⟩ := hsp
        exact end_ S6 fun s7 J7 => ⟨_, _, J7, q6⟩
      | brk =>
        obtain ⟨σ6, H6, S6, q6⟩ := hsp
        exact end_ S6 fun s7 J7 => ⟨_, _, J7, q6⟩
      | cont =>
        obtain ⟨σ6, H6, S6, q6⟩ := hsp
        exact end_ S6 fun s7 J7 => ⟨_, _, J7, q6⟩
      | ret u =>
        obtain ⟨v6, σ6, H6, S6, r6, q6⟩ := hsp
        exact end_ S6 fun s7 J7 => ⟨_, _, _, J7, r6, q6⟩
    | false =>
      show wpAny _ X.A (handleBy (.ref a) X.env []) _ _ _
      exact flyOn J nb (up.trans up3) (flyingZ_imp (fun o z => z.zc) fl3) na os ag (hno rfl)
  · -- any other: the clause doesn't name it
    obtain ⟨a, B, sI, pins', σ', H', cls, d, rfl, J', nb, up, sky, na, os, ag, hb1, hno⟩ := xx
    have J : Inv X pins σ' H' sI := J'.ofTry ok
    have sky' : Sky B (X.env :: X.outer) a (Zc cls d) X.env.locals s'.heap := by rw [← hs]; exact sky
    show wpAny (model X.prog X.w) X.A (noteFrame (.ref a) X.env) _ _ _
    refine L2.Sky.land Zc.steady hfr hf sky' fun h3 fl3 up3 => ?_
    have J3 : Inv X pins σ' H' { s' with heap := h3 } := J.landed nb fl3.1 (up.trans up3) os ag
    obtain ⟨oe3, vs3, he3, hz3, hd3⟩ := fl3.there
    have nfr : a ∉ frs (X.env :: X.outer) := notFr fl3.2.2.1 he3 hd3
    have nL : a ≠ X.env.locals := fun z => nfr (List.mem_filterMap.mpr ⟨X.env, List.mem_cons_self, by rw [hf, z]⟩)
    have nF : a ∉ X.fs := fun hm => by
      obtain ⟨e, he, q⟩ := List.mem_filterMap.mp hm
      exact nfr (List.mem_filterMap.mpr ⟨e, List.mem_cons_of_mem _ he, q⟩)
    have S3 := J3.suite he3 hd3 na nL nF
    refine wpAny_handleBy_cons (codeAny_handlers_test ?_) (by intro q; cases q)
    have LT : PySem.W.Looks (model X.prog X.w) h3 (typeOf (.ref a)) cls := fun A Q E s k q => wpAny_typeOf_ref (k _ _ he3) (by rw [hz3.1]; exact q)
    have LM := PySem.W.exm_one (M := model X.prog X.w) (J3.kIn) LT hb1
    have test : ∀ {Q : Value → Shared → Prop} {E : Value → Shared → Prop}, Q c { s' with heap := h3 } → wpAny (model X.prog X.w) (X.A.mark (some (.ref a))) (eval (.Name x np) X.env) Q E { s' with heap := h3 } := fun {Q E} q => by
      obtain ⟨hg, hdbg, hm | ⟨hm, hv, hnn⟩⟩ := hc
      · exact ld_glob (X := X.suite a ((a, oe3) :: (X.pn ++ pins))) S3 hg hm q hdbg
      · exact ld_blt (X := X.suite a ((a, oe3) :: (X.pn ++ pins))) S3 hg hm hv q hnn hdbg
    refine test (LM.here ?_)
    show wpAny _ X.A (handleBy (.ref a) X.env []) _ _ _
    exact flyOn J nb (up.trans up3) fl3 na os ag hno
  · cases f with
    | next =>
      obtain ⟨σ', H', J', q⟩ := hsp
      exact wpAny_execs_nil ⟨σ', H', J'.ofTry ok, q⟩
    | brk =>
      obtain ⟨σ', H', J', q⟩ := hsp
      exact ⟨σ', H', J'.ofTry ok, q⟩
    | cont =>
      obtain ⟨σ', H', J', q⟩ := hsp
      exact ⟨σ', H', J'.ofTry ok, q⟩
    | ret u =>
      obtain ⟨v, σ', H', J', r, q⟩ := hsp
      exact ⟨v, σ', H', J'.ofTry ok, r, q⟩
end
end GX

/-! defs whose exceptions bear no context; raise in a named except suite -/
namespace GB
open PySem PySem.Spec PyProof.Rows L2
/-- what doesn't raise -/
def noX (f : Rho → Rs Opd) : Rho → Rs Opd := fun r => match f r with | .ok o r1 => .ok o r1 | _ => .st
@[simp] theorem noX_def {f : Rho → Rs Opd} {r : Rho} : noX f r = (match f r with | .ok o r1 => .ok o r1 | _ => .st) := rfl
theorem ge_noX {X : Cx} {C : Ct} {e : Expr} {f : Rho → Rs Opd} (h : GE X C.quiet e f) : GE X C e (noX f) := by
  refine weakE h fun σ H Q q => ?_
  obtain ⟨U, r, s, q⟩ := q
  refine ⟨U, r, Sit.cast (C := C) (C' := C.quiet) rfl s, ?_⟩
  rw [noX_def] at q
  cases e : f r with
  | ok o r1 =>
    rw [e] at q
    intro v H' U' s' a' p' k n
    exact q v H' U' (Sit.cast (C := C.quiet) (C' := C) rfl s') a' p' k n
  | ex c fs r1 => rw [e] at q; exact (show False from q).elim
  | st => rw [e] at q; exact (show False from q).elim
/-! ### defs, calls -/
structure FnGN (P : Program) (w : World) (K : PySem.W.Frag) (mg : Str → Option Value) (base : Heap) (k : Nat) (f : Addr) (fd : FuncData) (ps : List Str) (sp : Sp) : Prop where
  len : ∀ vs H Q E, sp vs H Q E → vs.length = ps.length
  go : ∀ (A : Around) (l : List Env) (t : Shared) (H : Hp) (args : Args) (us : List Value) (vs : List V) (Q : VK) (E : XK), Room k A → A.guards = some [] → Env0 P w K mg base A l t H →
    BindsTo t fd args (ps.zip us) → Vals vs us → sp vs H Q E → codeAny (model P w) A (.call (.ref f) args) (CR (L2N.CX P w) l P w H t Q E) t
section
variable {P : Program} {w : World} {K : PySem.W.Frag} {mg : Str → Option Value} {base : Heap}
theorem cx_plain {l : List Env} {H : Hp} {s : Shared} {E : XK} {u : Value} {s' : Shared} (h : L2N.CX P w l H s E u s') : L2.CX P w l H s E u s' := by
  obtain ⟨a, B, H', cls, d, e, fl, r⟩ := h
  exact ⟨a, B, H', cls, d, e, L2H.flyingZ_imp (fun o z => z.zc) fl, r⟩
theorem FnGN.plain {k : Nat} {f : Addr} {fd : FuncData} {ps : List Str} {sp : Sp} (F : FnGN P w K mg base k f fd ps sp) : FnG P w K mg base k f fd ps sp :=
  ⟨F.len, fun A l t H args us vs Q E hr gu e b r q => codeAny_mono (F.go A l t H args us vs Q E hr gu e b r q) fun res t' z => by
    cases res with
    | error ex => exact cx_plain z
    | ok fl => cases fl <;> exact z⟩
abbrev bodyCxN (P : Program) (w : World) (K : PySem.W.Frag) (mg : Str → Option Value) (base : Heap) (N : List Str) (qual : Str) (st : Stmt) (f : Addr) (cdv : Value) (A : Around) (l : List Env) (t : Shared) (H : Hp) (E : XK) : Cx :=
  cxOf (L2N.CX P w) P w K mg base N qual (defScope st) f cdv A l t H E
/-- THE RULE for a def: its body's function -/
theorem def_okN {x qual : Str} {st : Stmt} {f : Addr} {fd : FuncData} {N ps : List Str} {k : Nat} {body : Rho → Fl} (F : Fun K x qual st f fd) (Sc : FnScope N ps (defScope st))
    (hb : ∀ (cdv : Value) (A : Around) (l : List Env) (t : Shared) (H : Hp) (E : XK), Room k (A.deeper (envOfC qual (defScope st) t.heap.objs.size f cdv)) → A.guards = some [] → GSs (bodyCxN P w K mg base N qual st f cdv A l t H E) (bodyCt K mg E) (defBody st) body) :
    FnGN P w K mg base (k + 1) f fd ps (spF (ct0 K mg) ps.length (runF N.length body)) := by
  obtain ⟨oc, od, kV, doc, pm, an, cdv, ct, osl, rfl, lk, hcd⟩ := F.ex
  refine ⟨fun vs H Q E h => h.1, fun A l t H args us vs Q E room gu e0 bnd rel q => ?_⟩
  have hvl := q.1
  have inK : K.In t.heap := e0.mod.kin.keeps fun b o e => (e0.bs b o e).1
  have nolim : t.heap.NoLimit := e0.mod.nolimit.keeps fun b o e => (e0.bs b o e).1
  refine codeAny_call_function room.depth (inK _ _ lk) rfl Sc.co Sc.gen rfl (PySem.W.codeRec_of inK hcd) (bnd _ _ _ _ ?_)
  refine wpAny_newFunctionEnv_cells Sc.kind (fun y hy => ?_) fun env he s1 ic => ?_
  · obtain ⟨n, v⟩ := y
    rcases Sc.par n (List.of_mem_zip hy).1 with z | z
    · exact Or.inl z
    · exact Or.inr ⟨z, PySem.W.cellsFrom_some _ _ _ (.inl z)⟩
  subst he
  refine ⟨nolim.keeps ic.toInCall.keep, codeAny_func ?_⟩
  have I : Inv (bodyCxN P w K mg base N qual st f cdv A l t H E) [] (L2.start N vs) H s1 := inv_start Sc room.hd e0 hvl rel ic
  obtain ⟨_, U, ss, hh, sit, q⟩ := q
  have hl : vs.length = ss.length := by have := sit.len; simpa [slots, words] using this
  have hpl : vs.length ≤ N.length := by
    have z := congrArg List.length Sc.pre
    rw [List.length_take] at z
    omega
  obtain ⟨st0, own⟩ := start_sit sit hl hpl
  have fin : ∀ {σ' : St} {H' : Hp} {v : V} {u : Value} {s' : Shared}, Inv (bodyCxN P w K mg base N qual st f cdv A l t H E) [] σ' H' s' → RelV v u → Q v H' → CE l P w H t Q u s' :=
    fun {σ' H' v u s'} J r z => ⟨v, H', J.os, J.bare, J.base, J.hok, r, z⟩
  have want : tS (bodyCt K mg E) body { nx := fun _ H' => Q .non H', rt := Q } (L2.start N vs) H := by
    refine ⟨U, startR N.length ss, Sit.cast (C := ct0 K mg) (C' := bodyCt K mg E) rfl st0, ?_⟩
    unfold runF at q
    have val : ∀ {s : S} {v : V} {σ' : St} {H' : Hp} {U' : Addr → Prop} {r' : Rho}, (match (FR.ok s (outsL ss r')) with
        | .ok s outs => ∀ v H' U', Sit (ct0 K mg) U' H' (slots vs) (words outs) → Aft U H (slots vs) (words ss) U' H' (slots vs) (words outs) → OpOk (ct0 K mg) U' H' (slots vs) (words outs) (.val s) v → New H (.val s) v → Q v H'
        | .ex c fs outs => ∀ cls d H' U', Sit (ct0 K mg) U' H' (slots vs) (words outs) → Aft U H (slots vs) (words ss) U' H' (slots vs) (words outs) → XRp (ct0 K mg) (Wn U' (slots vs) (words outs)) c fs cls d H' → E cls d H'
        | .st => False) → Sit (bodyCt K mg E) U' H' σ' r' → Aft U H (L2.start N vs) (startR N.length ss) U' H' σ' r' → OpOk (bodyCt K mg E) U' H' σ' r' (.val s) v → NewO H (L2.start N vs) (startR N.length ss) s v → Q v H' := fun {s v σ' H' U' r'} z s' a' k n => by
      obtain ⟨U2, s2, a2, w2, u2⟩ := end_sit sit hl hpl hh (Sit.cast (C := bodyCt K mg E) (C' := ct0 K mg) rfl s') a'
      refine z v H' U2 s2 a2 ⟨k.1.less w2 (fun p z1 z2 => by have := k.2.2; rw [lkd_hard z1] at this; cases this), fun p z1 z2 => u2 p (k.2.1 p z1 z2), k.2.2⟩ fun t p z1 z2 z3 => ?_
      cases z1
      rcases n p z2 z3 with z | z
      · -- an argument's own thing is not handed back
        have z := (own p).mp z
        obtain ⟨i, t, h1, h2, h3⟩ := z
        have hd := hh t (List.mem_of_getElem? (words_at.mp h1)) h2
        obtain ⟨t', g1, g2, g3⟩ := a'.pin i t (by unfold startR; rw [List.getElem?_append_left (lt_of_at h1)]; exact h1) hd
        have ho : t'.own = true := by
          cases t <;> simp [S.hard] at hd <;> simp [S.own] at h2 <;> simp [Sl] at g2 <;> (obtain ⟨_, rfl⟩ := g2; rfl)
        have e3 : (L2.start N vs)[i]? = some (some (V.ref p)) := by
          unfold L2.start
          rw [List.getElem?_append_left (lt_of_at h3)]; exact h3
        exact (s'.dis p ⟨i, t', g1, ho, by rw [g3]; exact e3⟩ (k.2.1 p z2 z3)).elim
      · exact z
    cases e : body (startR N.length ss) with
    | st => rw [e] at q; exact q
    | bk r' => rw [e] at q; exact (show False from q).elim
    | ct r' => rw [e] at q; exact (show False from q).elim
    | nx r' =>
      rw [e] at q
      exact fun σ' H' U' s' a' => val (s := .fz .non) (v := .non) q s' a' ⟨.fz .non, fun p z => (nomatch z), rfl⟩ fun p z => (nomatch z)
    | rt s r' =>
      rw [e] at q
      exact fun v σ' H' U' s' a' k n => val q s' a' k n
    | ex c fs r' =>
      rw [e] at q
      intro cls d σ' H' U' s' a' x
      obtain ⟨U2, s2, a2, w2, u2⟩ := end_sit sit hl hpl hh (Sit.cast (C := bodyCt K mg E) (C' := ct0 K mg) rfl s') a'
      obtain ⟨b, dx, fv, e1, e2, e3, e4, e5⟩ := x
      exact q cls d H' U2 s2 a2 ⟨b, dx, fv, e1, e2, e3, e4, e5.less w2⟩
  refine wpAny_mono ((hb cdv A l t H E (room.deeper _) gu).run [] s1 (L2.start N vs) H _ I want) (fun fl s' z => ?_) fun e s' z => z
  cases fl with
  | next => obtain ⟨σ', H', J, z⟩ := z; exact fin (v := V.non) (u := Value.none) J rfl z
  | ret u => obtain ⟨v, σ', H', J, r, z⟩ := z; exact fin J r z
  | brk => obtain ⟨_, _, _, z⟩ := z; exact z.elim
  | cont => obtain ⟨_, _, _, z⟩ := z; exact z.elim
end
section
variable {X : Cx} {C : Ct} {k n : Nat} {f : Addr} {fd : FuncData} {ps : List Str} {x : Str} {p pos : Pos} {e : Expr} {es : List Expr} {F : Fs} {fa fs : Rho → Rs (List Opd)}
theorem run_defN {pins : List (Addr × Obj)} {σ : St} {H : Hp} {t : Shared} {Q : VK} {us : List Value} {vs : List V} {sp : Sp} {E : XK} {W : WX} (G : FnGN X.prog X.w X.K X.mg X.base k f fd ps sp) (hr : Room k X.A) (gu : X.A.guards = some []) (hb : Binds X.K fd ps []) (tk : L2N.Takes X W) (hE : ∀ cls d H', E cls d H' → W cls d σ H')
    (I : Inv X pins σ H t) (r : Vals vs us) (h : sp vs H Q E) : wpAny (model X.prog X.w) X.A (call (.ref f) us) (EP X pins σ Q) X.xe t := by
  have le : us.length = ps.length := by rw [← r.length]; exact G.len _ _ _ _ h
  have bnd := hb t us I.kIn (by rw [List.append_nil]; exact le)
  rw [List.append_nil] at bnd
  refine wpAny_call (codeAny_mono (G.go X.A X.stack t H ⟨us, []⟩ us vs Q E hr gu I.env0 bnd r h) fun res t' z => ?_)
  cases res with
  | error ex => exact tk ex t' (L2N.XE.of_call I (fun cls d H' q => hE cls d H' q) z)
  | ok fl =>
    cases fl with
    | ret u => exact I.after z
    | next => exact z.elim
    | brk => exact z.elim
    | cont => exact z.elim
theorem ge_callFN (G : FnGN X.prog X.w X.K X.mg X.base k f fd ps (spF (ct0 X.K X.mg) n F)) (hr : Room k X.A) (gu : X.A.guards = some []) (hg : Gl X x) (hm : X.mg x = some (.ref f)) (hk : PySem.W.keepIn X.K (.ref f) = true) (hb : Binds X.K fd ps [])
    (tk : L2N.Takes X C.W) (ha : GA X C (e :: es) fa) (ar : Ar fa n) (hK : C.K = X.K := by rfl) (hM : C.mg = X.mg := by rfl) (hdb : (x == ("__debug__" : Str)) = false := by decide)
    (he : starEach (e :: es) X.env = (false, eval e X.env) :: starEach es X.env := by rfl) (hpl : (backTo pos (starEach es X.env)).any (·.1) = false := by rfl) : GE X C (.Call (.Name x p) (e :: es) [] pos) (eFn F fa) := by
  refine ⟨fun pins t σ H Q I h => ?_⟩
  have h := fn_reading (E := fun cls d H2 => C.W cls d σ H2) ar (fun _ _ _ z => z) h
  refine wpAny_Call_Name_kw (ld_glob I hg hm ?_ hdb)
  refine PySem.W.callWith_K (h₀ := X.base) I.ok.mod.kin hk (thn (ha.run pos pins t σ H _ I h) fun us t1 ⟨vs, H1, I1, r, q⟩ => ⟨I1.kIn, ?_⟩) he hpl
  have q : spF C n F (vs ++ []) H1 Q (fun cls d H2 => C.W cls d σ H2) := q
  rw [List.append_nil] at q
  exact run_defN G hr gu hb tk (fun _ _ _ z => z) I1 r (spF_cast hK hM q)
/-- a def of the module whose exceptions bear no context -/
def DefOkN (P : Program) (w : World) (K : PySem.W.Frag) (mg : Str → Option Value) (base : Heap) (k : Nat) (x : Str) (ps : List Str) (F : Fs) : Prop :=
  ∃ f fd, FnGN P w K mg base k f fd ps (spF (ct0 K mg) ps.length F) ∧ mg x = some (.ref f) ∧ PySem.W.keepIn K (.ref f) = true ∧ Binds K fd ps []
theorem DefOkN.plain {P : Program} {w : World} {K : PySem.W.Frag} {mg : Str → Option Value} {base : Heap} (h : DefOkN P w K mg base k x ps F) : DefOk P w K mg base k x ps F := by
  obtain ⟨f, fd, G, r⟩ := h
  exact ⟨f, fd, G.plain, r⟩
theorem x_fnN {k j : Nat} {ps : List Str} {F : Fs} (c : DefOkN X.prog X.w X.K X.mg X.base j x ps F) (hr : Room k X.A) (hj : j ≤ k) (gu : X.A.guards = some []) (tk : L2N.Takes X C.W) (ha : GA X C (e :: es) fs) (ar : Ar fs ps.length) (hK : C.K = X.K := by rfl) (hM : C.mg = X.mg := by rfl) (hg : Gl X x := by rfl) (hdb : (x == ("__debug__" : Str)) = false := by decide)
    (he : starEach (e :: es) X.env = (false, eval e X.env) :: starEach es X.env := by rfl) (hpl : (backTo pos (starEach es X.env)).any (·.1) = false := by rfl) : GE X C (.Call (.Name x p) (e :: es) [] pos) (eFn F fs) := by
  obtain ⟨f, fd, G, hm, hk, hb⟩ := c
  exact ge_callFN G (hr.mono hj) gu hg hm hk hb tk ha ar hK hM hdb he hpl
theorem def_atN {P : Program} {w : World} {K : PySem.W.Frag} {mg : Str → Option Value} {base : Heap} {x : Str} {st : Stmt} {N ps : List Str} {k : Nat} {body : Rho → Fl} (d : DefAt K mg x ps st) (Sc : FnScope N ps (defScope st))
    (hb : ∀ (f : Addr) (cdv : Value) (A : Around) (l : List Env) (t : Shared) (H : Hp) (E : XK), Room k (A.deeper (envOfC x (defScope st) t.heap.objs.size f cdv)) → A.guards = some [] → GSs (bodyCxN P w K mg base N x st f cdv A l t H E) (bodyCt K mg E) (defBody st) body) :
    DefOkN P w K mg base (k + 1) x ps (runF N.length body) := by
  obtain ⟨f, fd, F, hm, b⟩ := d
  exact ⟨f, fd, def_okN F Sc (hb f), hm, F.kp, b⟩
end
section
variable {P : Program} {w : World} {K : PySem.W.Frag} {mg : Str → Option Value} {base : Heap} {N : List Str} {qual : Str} {st : Stmt} {f : Addr} {cdv : Value} {A : Around} {l : List Env} {t : Shared} {H : Hp} {E : XK}
theorem tkBN : L2N.Takes (bodyCxN P w K mg base N qual st f cdv A l t H E) (bodyCt K mg E).W := L2N.takes_of rfl rfl rfl rfl
theorem psBN : PassesOwn (model (bodyCxN P w K mg base N qual st f cdv A l t H E).prog (bodyCxN P w K mg base N qual st f cdv A l t H E).w) (bodyCxN P w K mg base N qual st f cdv A l t H E).A (bodyCxN P w K mg base N qual st f cdv A l t H E).env (bodyCxN P w K mg base N qual st f cdv A l t H E).xe := passes_of rfl
theorem psAt (hd : Option Value) : PassesOwnAt (model (bodyCx P w K mg base N qual st f cdv A l t H E).prog (bodyCx P w K mg base N qual st f cdv A l t H E).w) ((bodyCx P w K mg base N qual st f cdv A l t H E).A.mark hd) (bodyCx P w K mg base N qual st f cdv A l t H E).A (bodyCx P w K mg base N qual st f cdv A l t H E).env (bodyCx P w K mg base N qual st f cdv A l t H E).xe := L2H.passesAt_of rfl hd
end
section
variable {X : Cx} {C : Ct} {e : Expr} {es : List Expr} {fa : Rho → Rs (List Opd)} {x : Str} {fields : List Str} {fm : Rho → Rs Opd} {k : Nat} {p pos pos2 : Pos}
theorem raise_reading {CA : Addr} (T : OexC X.K CA) (hm : X.mg x = some (.ref CA)) (hn : ∀ f ∈ fields, PySem.W.findIn X.K (.ref CA) f = some none) (hK : C.K = X.K) (hM : C.mg = X.mg) {D : Ends} {σ : St} {H : Hp} (h : tS C (fRaise x (mkX fields fm) fa) D σ H) :
    tMkO CA (spInit X.K fields fm) [] (tA C fa) σ H fun cls d H' => C.W cls d σ H' := by
  obtain ⟨U, r, s, h⟩ := h
  refine ⟨U, r, s, ?_⟩
  unfold fRaise at h
  cases e : fa r with
  | st => rw [e] at h; exact h
  | ex c fs r1 => rw [e] at h; exact h
  | ok os r1 =>
    rw [e] at h
    intro vs H1 U1 s1 a1 p1 k1 n1
    cases e2 : frzAll os r1 with
    | none => simp only [e2] at h; exact (show False from h).elim
    | some q =>
      obtain ⟨ds, r2⟩ := q
      simp only [e2] at h
      by_cases hl : os.length ≤ 1000
      · rw [if_pos hl] at h
        cases e3 : mkX fields fm ds with
        | none => simp only [e3] at h; exact (show False from h).elim
        | some fs =>
          simp only [e3] at h
          have h : XWant C U H σ r x fs r2 := h
          obtain ⟨U2, s2, a2, u2, k2⟩ := ops_drop s s1 a1 k1 n1
          obtain ⟨s3, a3, p3, x3⟩ := frzAll_ok s2 k2 e2
          have fin : ds.length = fields.length ∧ (∃ o r, fm (initR ds) = .ok o r) ∧ fs = (fields.zip ds).reverse := by
            unfold mkX at e3
            by_cases q : ds.length = fields.length
            · rw [if_pos q] at e3
              cases e4 : fm (initR ds) with
              | ok o r => simp only [e4] at e3; cases e3; exact ⟨q, ⟨_, _, rfl⟩, rfl⟩
              | ex c fs r => simp only [e4] at e3; cases e3
              | st => simp only [e4] at e3; cases e3
            · rw [if_neg q] at e3; cases e3
          obtain ⟨q1, q2, rfl⟩ := fin
          refine ⟨by rw [← Paired.length k1]; exact hl, fun a ha => ?_⟩
          rw [List.append_nil]
          have kp : ∀ b o, H1 b = some o → upd H1 a (exo a CA none) b = some o := upd_keep ha
          have x3' : Rps X.K (Wn U2 σ r2) H1 vs ds := by rw [← hK]; exact x3
          refine ⟨a, CA, vs, ds, Wn U2 σ r2, rfl, by rw [x3.len, q1], T, hn, upd_same, fun b hb => (s3.wlv b hb).grow kp, x3'.mono (monoKeep s3.wlv kp), q2, fun d H2 hd hda xd => ?_⟩
          have hd1 : H1 d = none := by rw [upd_ne hda] at hd; exact hd
          refine ⟨rfl, d, _, xd.obj, xd.dic, hd1, ?_⟩
          have kp2 : ∀ b o, H1 b = some o → upd (del H2 a) d (.xd (fields.zip vs).reverse) b = some o := fun b o hb => by
            have n1 : b ≠ a := ne_of_none hb ha
            have n2 : b ≠ d := ne_of_none hb hd1
            rw [upd_ne n2, del_ne n1]
            exact xd.keep b o n1 n2 (kp b o hb)
          obtain ⟨s4, a4⟩ := s3.ext kp2 (fun _ h => h) (fun _ h => .inl h) fun b hb => (s3.uok b hb).grow kp2
          refine h _ _ σ _ U2 s4 ((a2.trans a3).trans a4) ⟨CA, d, _, rfl, by rw [hM]; exact hm, rfl, upd_same, ?_⟩
          exact paired_rev (kr_zip fields (x3.mono (monoKeep s3.wlv kp2)))
      · rw [if_neg hl] at h; exact (show False from h).elim
end
end GB

/-! own exceptions made where one is handled; the named suite that raises -/
namespace GB
open PySem PySem.Spec PyProof.Rows L2 HotX
/-- THE RULE for an own exception's __init__: the message by its function, then the fields -/
theorem init_okH {P : Program} {w : World} {K : PySem.W.Frag} {mg : Str → Option Value} {base : Heap} {qual : Str} {st : Stmt} {fI : Addr} {fd : FuncData} {N fields : List Str} {fm : Rho → Rs Opd} (F : L2.Fun K "__init__" qual st fI fd) (Sc : FnScope N N (defScope st)) (hN : N.length = fields.length + 1) (hf : fields ≠ []) (hfl : fields.length ≤ 900)
    (hb : ∀ (cdv : Value) (A : Around) (l : List Env) (t : Shared) (H : Hp) (E : XK) (p : Addr × Obj), PSs (L2H.cxH (L2.CX P w) P w K mg base N qual (defScope st) fI cdv A l t H E p) (defBody st) (tSeq (tDrop (tVeI K (tCons (tVar 0) (tCons (tE (bodyCt K mg E) fm) tNil)))) (tAsgs K (fields.zip (List.range' 1 fields.length))))) :
    L2H.FnH P w K mg base (L2.CX P w) 1 fI fd N (spInit K fields fm) := by
  obtain ⟨oc, od, kV, doc, pm, an, cdv, ct, osl, rfl, lk, hcd⟩ := F.ex
  refine L2H.fn_ofH (k := 0) lk hcd Sc (fun vs H Q E h => ?_) (fun A l t H vs Q E p hot hr h => ⟨_, hb cdv A l t H E p, ?_⟩)
  · obtain ⟨a, C, ws, ds, W, rfl, hl, _⟩ := h
    rw [List.length_cons, hl, hN]
  · obtain ⟨a, C, ws, ds, W, rfl, hl, T, hn, ea, lv, rps, ⟨o, ro, hm⟩, k⟩ := h
    have es : L2.start N (V.ref a :: ws) = some (V.ref a) :: ws.map some := by
      unfold L2.start
      rw [hN, List.length_cons, hl, Nat.sub_self]
      simp
    rw [es]
    have noOwn : ∀ b, ¬ Own (some (V.ref a) :: ws.map some) (initR ds) b := by
      rintro b ⟨i, s, h1, h2, _⟩
      match i, h1 with
      | 0, h1 => cases h1
      | i + 1, h1 =>
        simp only [initR, List.getElem?_cons_succ, List.getElem?_map, Option.map_eq_some_iff] at h1
        obtain ⟨d, _, e⟩ := h1
        cases e; cases h2
    have wn : Wn W (some (V.ref a) :: ws.map some) (initR ds) = W := by
      funext b
      exact propext ⟨fun z => z.elim (fun z => (noOwn b z).elim) id, .inr⟩
    have sit : Sit (bodyCt K mg E) W H (some (V.ref a) :: ws.map some) (initR ds) := by
      refine ⟨by simp [initR, rps.len], fun i s h => ?_, fun i j s u v h1 q1 => ?_, fun b h => (noOwn b h).elim, lv⟩
      · match i, h with
        | 0, h => cases h
        | i + 1, h =>
          simp only [initR, List.getElem?_cons_succ, List.getElem?_map, Option.map_eq_some_iff] at h
          obtain ⟨d, hd, e⟩ := h
          cases e
          rw [wn]
          have key : ∀ (i : Nat) (ws : List V) (ds : List D), Rps K W H ws ds → ds[i]? = some d → ∃ v, ws[i]? = some v ∧ Rp K W H v d := by
            intro i
            induction i with
            | zero => intro ws ds r hd; cases r with | nil => cases hd | cons x t => cases hd; exact ⟨_, rfl, x⟩
            | succ i ih => intro ws ds r hd; cases r with | nil => cases hd | cons x t => exact ih _ _ t (by simpa using hd)
          obtain ⟨v, hv, x⟩ := key i ws ds rps hd
          exact ⟨v, by simp [hv], .fz x⟩
      · match i, h1 with
        | 0, h1 => cases h1
        | i + 1, h1 =>
          simp only [initR, List.getElem?_cons_succ, List.getElem?_map, Option.map_eq_some_iff] at h1
          obtain ⟨d, _, e⟩ := h1
          cases e; cases q1
    refine ⟨V.ref a, rfl, W, initR ds, sit, ?_⟩
    rw [hm]
    intro v H1 U1 s1 a1 p1 o1 n1
    refine ⟨a, C, [v], rfl, by simp, T, a1.keep a _ ea (noOwn a), ?_⟩
    refine asgs_all T rfl _ (fields.zip ws) H1 (fun z => ?_) (vals_zip fields ws 1 hl.symm fun i v e => by rw [Nat.add_comm]; simp [e]) (fun p hp => hn _ (zip_fst_mem _ _ _ hp)) (by rw [List.length_zip, List.length_range']; omega) (a1.keep a _ ea (noOwn a)) fun d H2 hd hda x => ?_
    · have z := congrArg List.length z
      rw [List.length_zip, List.length_range', Nat.min_self] at z
      exact hf (List.length_eq_zero_iff.mp z)
    · exact k d H2 (a1.back hd) hda ⟨fun b o n1 n2 h => x.keep b o n1 n2 (a1.keep b o h (noOwn b)), x.obj, x.dic⟩
/-- what is needed of an own class that is raised in a suite -/
structure XClsH (P : Program) (w : World) (K : PySem.W.Frag) (mg : Str → Option Value) (base : Heap) (x : Str) (fields : List Str) (fm : Rho → Rs Opd) : Prop where
  ex : ∃ (C fI : Addr) (fd : FuncData), mg x = some (.ref C) ∧ OexC K C ∧ PySem.W.findIn K (.ref C) "__init__" = some (some (.ref fI)) ∧ PySem.W.typeIn K (.ref fI) = some (.type "function") ∧
    (∀ f ∈ fields, PySem.W.findIn K (.ref C) f = some none) ∧ L2H.FnH P w K mg base (L2.CX P w) 1 fI fd ("self" :: fields) (spInit K fields fm) ∧ Binds K fd ("self" :: fields) []
theorem xclsH_of {P : Program} {w : World} {K : PySem.W.Frag} {mg : Str → Option Value} {base : Heap} {x qual : Str} {st : Stmt} {fields : List Str} {fm : Rho → Rs Opd} (a : XAt K mg x fields qual st) (Sc : FnScope ("self" :: fields) ("self" :: fields) (defScope st)) (hf : fields ≠ []) (hfl : fields.length ≤ 900)
    (hb : ∀ (fI : Addr) (cdv : Value) (A : Around) (l : List Env) (t : Shared) (H : Hp) (E : XK) (p : Addr × Obj), PSs (L2H.cxH (L2.CX P w) P w K mg base ("self" :: fields) qual (defScope st) fI cdv A l t H E p) (defBody st) (tSeq (tDrop (tVeI K (tCons (tVar 0) (tCons (tE (bodyCt K mg E) fm) tNil)))) (tAsgs K (fields.zip (List.range' 1 fields.length))))) :
    XClsH P w K mg base x fields fm := by
  obtain ⟨C, fI, fd, hm, o, i1, t1, nf, F, b⟩ := a.ex
  exact ⟨C, fI, fd, hm, o, i1, t1, nf, init_okH F Sc rfl hf hfl (hb fI), b⟩
theorem pmk_oexN {X : Cx} {CX : CXT} {x : Str} {e : Expr} {es : List Expr} {ta : TA} {p pos : Pos} {C fI : Addr} {k : Nat} {fd : FuncData} {ps : List Str} {sp : Sp} (T : OexC X.K C) (iC : PySem.W.findIn X.K (.ref C) "__init__" = some (some (.ref fI))) (tI : PySem.W.typeIn X.K (.ref fI) = some (.type "function"))
    (F1 : FnOk X.prog X.w X.K X.mg X.base CX k fI fd ps sp) (hr : Room (k + 1) X.A) (hb : Binds X.K fd ps []) (hx : Passes CX X (fun _ _ _ => False)) (hg : Gl X x) (hm : X.mg x = some (.ref C)) (ha : PA X (e :: es) ta)
    (hdb : (x == ("__debug__" : Str)) = false := by decide) (he : starEach (e :: es) X.env = (false, eval e X.env) :: starEach es X.env := by rfl) (hpl : (backTo pos (starEach es X.env)).any (·.1) = false := by rfl) :
    L2N.PMk X (.Call (.Name x p) (e :: es) [] pos) (tMkO C sp [] ta) := by
  intro pins s σ H Q I h
  obtain ⟨nm, q, N, bs, bm, sn, sub, ab, col, dd, k0, k1, k2, k3, k5, hC, hbm⟩ := T.cls
  refine wpAny_Call_Name_kw (ld_glob I hg hm ?_ hdb)
  refine PySem.W.callWith_K (h₀ := X.base) I.ok.mod.kin T.kC (thn (ha.run pos pins s σ H _ I h) fun us s1 ⟨vs, H1, I1, r1, hz, q1⟩ => ⟨I1.kIn, ?_⟩) he hpl
  show wpAny _ _ (call (.ref C) us) _ _ _
  obtain ⟨hp, g, dr, tk, os⟩ := s1
  have hsz : hp.objs.size ≤ hp.objs.size + 1 := Nat.le_succ _
  have hn : H1 (hp.objs.size + 1) = none := I1.hok.fresh hsz
  have hq := q1 (hp.objs.size + 1) hn
  rw [List.append_nil] at hq
  have kk : ∀ b o, hp.get? b = some o → ((hp.push (PySem.W.kdv_tup us)).push (PySem.HandSPX.excO C hp.objs.size)).get? b = some o := fun b o e => Heap.get?_push_of_some _ (Heap.get?_push_of_some _ e)
  have hget : ((hp.push (PySem.W.kdv_tup us)).push (PySem.HandSPX.excO C hp.objs.size)).get? (hp.objs.size + 1) = some (PySem.HandSPX.excO C hp.objs.size) := by heap_get
  have I2 : Inv X pins σ (upd H1 (hp.objs.size + 1) (exo (hp.objs.size + 1) C none)) ⟨(hp.push (PySem.W.kdv_tup us)).push (PySem.HandSPX.excO C hp.objs.size), g, dr, tk, os⟩ :=
    I1.laid (t' := tk) (a := hp.objs.size + 1) (o := exo (hp.objs.size + 1) C none) (h' := (hp.push (PySem.W.kdv_tup us)).push (PySem.HandSPX.excO C hp.objs.size)) kk hsz (exo_ok hget)
  have r2 : Vals (V.ref (hp.objs.size + 1) :: vs) (Value.ref (hp.objs.size + 1) :: us) := .cons rfl r1
  have hl : (Value.ref (hp.objs.size + 1) :: us ++ []).length = ps.length := by
    have e := r2.length
    rw [F1.len _ _ _ _ hq] at e
    rw [List.append_nil]
    exact e.symm
  have hus : us.length ≤ sizeLine := by
    rw [← Paired.length r1, sizeLine_eq]
    omega
  have b2 := hb _ (Value.ref (hp.objs.size + 1) :: us) I2.kIn hl
  rw [List.append_nil] at b2
  refine wpAny_call (PySem.HandSPX.call_own F.excBase_ValueError (fun Y => PySem.HandSPX.refsVE_contains Y bm hbm) (I1.kIn _ _ hC) (PySem.W.looks_findIn I1.kIn iC) (fun self => PySem.W.bind_fn I1.kIn self tI) hus
    (codeAny_mono (F1.run _ X.stack _ _ ⟨Value.ref (hp.objs.size + 1) :: us, []⟩ (Value.ref (hp.objs.size + 1) :: us) _ _ (fun _ _ _ => False) (hr.make C us []) (I2.env0.make C us []) b2 r2 hq) fun r s' hq' => ?_))
  cases r with
  | error er => exact hx pins σ _ _ er s' I2 hq'
  | ok fl =>
    cases fl with
    | ret u =>
      obtain ⟨v, H2, os2, bare2, un2, hok2, rv, ev, d, fs, ea, ed, hd1, q2⟩ := hq'
      subst ev
      obtain ⟨h2, g2, d2, t2, os'⟩ := s'
      obtain ⟨t0, G, J, kG, ge, hoe, na⟩ := mk_end0 (d2 := d2) (t2 := t2) I1 hsz kk un2 hok2 os2 bare2 ea ed hd1
      exact ⟨rv, ⟨hp.objs.size + 1, _, _, ⟨G, g2, d2, t2, os'⟩, _, .ref C, some d, rfl, J, kG, ge, hoe, ⟨rfl, rfl, fun vs hv => by cases hv; rfl⟩, rfl, rfl, na, rfl, bare2, raises_own T.exC T.tyC, q2⟩⟩
    | next => exact False.elim hq'
    | brk => exact False.elim hq'
    | cont => exact False.elim hq'
section
variable {X : Cx} {C : Ct} {e : Expr} {es : List Expr} {fa : Rho → Rs (List Opd)} {x : Str} {fields : List Str} {fm : Rho → Rs Opd} {k : Nat} {p pos pos2 : Pos}
theorem gs_raiseN (c : XCls X.prog X.w X.K X.mg X.base x fields fm) (hc : X.calm = true) (hr : Room k X.A) (hk : 2 ≤ k) (tk : L2N.Takes X C.W) (ha : GA X C (e :: es) fa) (hK : C.K = X.K := by rfl) (hM : C.mg = X.mg := by rfl) (hg : Gl X x := by rfl) (hdb : (x == ("__debug__" : Str)) = false := by decide)
    (he : starEach (e :: es) X.env = (false, eval e X.env) :: starEach es X.env := by rfl) (hpl : (backTo pos (starEach es X.env)).any (·.1) = false := by rfl) :
    GS X C (.Raise (some (.Call (.Name x p) (e :: es) [] pos)) none pos2) (fRaise x (mkX fields fm) fa) := by
  obtain ⟨CA, fI, fd, hm, T, iC, tI, hn, F1, hb⟩ := c.ex
  exact weakS (L2N.ps_raise hc tk (pmk_oexN (CX := L2.CX X.prog X.w) T iC tI F1 (hr.mono hk) hb passL hg hm ha hdb he hpl)) fun D σ H h => raise_reading T hm hn hK hM h
theorem gs_raiseH (c : XClsH X.prog X.w X.K X.mg X.base x fields fm) (hc : L2H.HotC X) (hr : L2H.RoomH k X.A) (hk : 2 ≤ k) (tk : L2.Takes X C.W) (ha : GA X C (e :: es) fa) (hK : C.K = X.K := by rfl) (hM : C.mg = X.mg := by rfl) (hg : Gl X x := by rfl) (hdb : (x == ("__debug__" : Str)) = false := by decide)
    (he : starEach (e :: es) X.env = (false, eval e X.env) :: starEach es X.env := by rfl) (hpl : (backTo pos (starEach es X.env)).any (·.1) = false := by rfl) :
    GS X C (.Raise (some (.Call (.Name x p) (e :: es) [] pos)) none pos2) (fRaise x (mkX fields fm) fa) := by
  obtain ⟨CA, fI, fd, hm, T, iC, tI, hn, F1, hb⟩ := c.ex
  exact weakS (L2H.ps_raiseH hc tk (L2H.pmk5_oexH (CX := L2.CX X.prog X.w) T iC tI F1 (hr.mono hk) hc hb passL hg hm ha hdb he hpl).pmk) fun D σ H h => raise_reading T hm hn hK hM h
end
/-! ### the named suite -/
/-- behind the suite its name is unbound -/
def unxR (i : Nat) : Fl → Fl
  | .ex c fs r => if isEx r i then .ex c fs (r.set i none) else .st
  | z => unx i z
noncomputable def fTryR (i : Nat) (catch' : Str → Option Bool) (fb : Rho → Fl) (fh : Addr → Addr → Str → Rho → Fl) : Rho → Fl := fun r => match fb r with
  | .ex c fs r1 => (match catch' c with
    | some true => if free r1 i then oneF (fun a dx => unxR i (fh a dx c (r1.set i (some (.exc a dx c fs))))) else .st
    | some false => .ex c fs r1
    | none => .st)
  | z => z
/-- the ways out of the suite -/
abbrev Ct.gone (C : Ct) (i : Nat) : Ct := ⟨C.K, C.mg, GX.wGone i C.W⟩
section
variable {X : Cx} {C : Ct} {x n : Str} {cv : Value} {i : Nat} {body suite : List Stmt} {b₀ : Stmt} {np pos pos' : Pos} {catch' : Str → Option Bool} {fb : Rho → Fl} {fh : Addr → Addr → Str → Rho → Fl}
def tsR (C : Ct) (i : Nat) (fh : Addr → Addr → Str → Rho → Fl) : Addr → Value → Option Addr → TS := fun a cls d D σ H => ∃ CA dx c, cls = .ref CA ∧ d = some dx ∧ C.mg c = some (.ref CA) ∧ tS (C.gone i) (fh a dx c) D σ H
theorem gs_tryR (nd : X.N.Nodup) (hi : X.N[i]? = some n) (hc : Names X x cv) (hpa : ∀ hd : Option Value, PassesOwnAt (model X.prog X.w) (X.A.mark hd) X.A X.env X.xe) (tk : Takes X C.W)
    (htb : ∀ c b, catch' c = some b → ∃ CA, C.mg c = some (.ref CA) ∧ PySem.W.exmOne X.K (.ref CA) cv = some b)
    (hb : ∀ (W : WX) (pn : List (Addr × Obj)) (xe : Value → Shared → Prop), L2N.Takes (X.tr pn xe) W → PassesOwn (model X.prog X.w) X.A X.env xe → GSs (X.tr pn xe) ⟨C.K, C.mg, W⟩ body fb)
    (hsu : ∀ (a : Addr) (oe : Obj) (CA dx : Addr) (c : Str) (pn : List (Addr × Obj)), C.mg c = some (.ref CA) → Zc (.ref CA) (some dx) oe → (∃ vs, oe.data = .fields vs) → L2.Takes (GX.outX X a n pos' ((a, oe) :: pn)) (C.gone i).W → L2H.HotC (GX.outX X a n pos' ((a, oe) :: pn)) → GSs (GX.outX X a n pos' ((a, oe) :: pn)) (C.gone i) (b₀ :: suite) (fh a dx c))
    (hs : X.stack = X.env :: X.outer := by rfl) (hf : X.env.frame = some X.env.locals := by rfl) (hln : X.env.kindOf n = some .local := by rfl) :
    GS X C (.Try body [.ExceptHandler (some (.Name x np)) (some n) (b₀ :: suite) pos'] [] [] pos) (fTryR i catch' fb fh) := by
  refine weakS (GX.ps_try_asX hs hf nd hi hln hc hpa tk (tb := fun W => tS ⟨C.K, C.mg, W⟩ fb) (ts := tsR C i fh) (fun W pn xe h1 _ h2 => hb W pn xe h1 h2) (fun a oe cls d pn hz hf ht hot => ⟨fun pins s σ H D I q => ?_⟩)) fun D σ H h => ?_
  · obtain ⟨CA, dx, c, rfl, rfl, hm, q⟩ := q
    exact (hsu a oe CA dx c pn hm hz.zc hf ht hot).run pins s σ H D I q
  · obtain ⟨U, r, s, h⟩ := h
    refine ⟨U, r, Sit.cast (C := C) (C' := ⟨C.K, C.mg, wAs X.K cv i (tsR C i fh) C.W D⟩) rfl s, ?_⟩
    unfold fTryR at h
    cases e : fb r with
    | ex c fs r1 =>
      rw [e] at h
      dsimp only at h
      intro cls d σ' H' U' s' a' x
      obtain ⟨CA, dx, fv, rfl, hm, rfl, hd, kr⟩ := x
      show wAs X.K cv i (tsR C i fh) C.W D (.ref CA) (some dx) σ' H'
      have hm : C.mg c = some (.ref CA) := hm
      have kr : KR C.K (Wn U' σ' r1) H' fv fs := kr
      have s' : Sit C U' H' σ' r1 := Sit.cast (C := ⟨C.K, C.mg, wAs X.K cv i (tsR C i fh) C.W D⟩) (C' := C) rfl s'
      cases ec : catch' c with
      | none => rw [ec] at h; exact (show False from h).elim
      | some b =>
        rw [ec] at h
        obtain ⟨CA', hm', hx⟩ := htb c b ec
        rw [hm] at hm'; cases hm'
        refine ⟨b, hx, fun hb' a ha => ?_, fun hb' => ?_⟩
        · subst hb'
          dsimp only at h
          by_cases hfr : free r1 i = true
          · rw [if_pos hfr] at h
            refine ⟨CA, dx, c, rfl, rfl, hm, ?_⟩
            have op : OpOk C U' H' σ' r1 (.val (.exc a dx c fs)) (.ref a) := ⟨.exc hd kr, (fun p z => nomatch z), rfl⟩
            obtain ⟨U2, s2, a2⟩ := store_aft s' s' Aft.refl hfr op (fun t p z1 z2 z3 => by cases z1; cases z2)
            refine ⟨U2, r1.set i (some (.exc a dx c fs)), Sit.cast (C := C) (C' := C.gone i) rfl s2, ?_⟩
            by_cases hst : oneF (fun a dx => unxR i (fh a dx c (r1.set i (some (.exc a dx c fs))))) = .st
            · rw [hst] at h; exact (show False from h).elim
            · have e1 := oneF_at hst a dx
              rw [← e1] at h
              have aa := a'.trans a2
              cases e2 : fh a dx c (r1.set i (some (.exc a dx c fs))) with
              | nx r3 =>
                rw [e2] at h; unfold unxR unx at h; dsimp only at h
                by_cases z : isEx r3 i = true
                · rw [if_pos z] at h
                  exact fun σ3 H3 U3 s3 a3 => h _ _ U3 ((Sit.cast (C := C.gone i) (C' := C) rfl s3).unset z) ((aa.trans a3).unset z)
                · rw [if_neg z] at h; exact (show False from h).elim
              | bk r3 =>
                rw [e2] at h; unfold unxR unx at h; dsimp only at h
                by_cases z : isEx r3 i = true
                · rw [if_pos z] at h
                  exact fun σ3 H3 U3 s3 a3 => h _ _ U3 ((Sit.cast (C := C.gone i) (C' := C) rfl s3).unset z) ((aa.trans a3).unset z)
                · rw [if_neg z] at h; exact (show False from h).elim
              | ct r3 =>
                rw [e2] at h; unfold unxR unx at h; dsimp only at h
                by_cases z : isEx r3 i = true
                · rw [if_pos z] at h
                  exact fun σ3 H3 U3 s3 a3 => h _ _ U3 ((Sit.cast (C := C.gone i) (C' := C) rfl s3).unset z) ((aa.trans a3).unset z)
                · rw [if_neg z] at h; exact (show False from h).elim
              | rt t r3 =>
                rw [e2] at h; unfold unxR unx at h; dsimp only at h
                by_cases z : isEx r3 i = true
                · rw [if_pos z] at h
                  exact fun v σ3 H3 U3 s3 a3 o3 n3 => h v _ _ U3 ((Sit.cast (C := C.gone i) (C' := C) rfl s3).unset z) ((aa.trans a3).unset z) (OpOk.unset (C := C) o3 z) fun p z1 z2 => (n3 p z1 z2).elim (fun q => aa.grow p q) fun q => .inr (aa.back q)
                · rw [if_neg z] at h; exact (show False from h).elim
              | ex c3 fs3 r3 =>
                rw [e2] at h; unfold unxR at h; dsimp only at h
                by_cases z : isEx r3 i = true
                · rw [if_pos z] at h
                  intro cls3 d3 σ3 H3 U3 s3 a3 x3
                  refine (show XWant C U H σ r c3 fs3 (r3.set i none) from h) cls3 d3 (σ3.set i none) H3 U3 ((Sit.cast (C := C.gone i) (C' := C) rfl s3).unset z) ((aa.trans a3).unset z) ?_
                  rw [wn_unset z]
                  exact x3
                · rw [if_neg z] at h; exact (show False from h).elim
              | st => rw [e2] at h; exact (show False from h).elim
          · rw [if_neg hfr] at h; exact (show False from h).elim
        · subst hb'
          exact (show XWant C U H σ r c fs r1 from h) _ _ σ' H' U' s' a' ⟨CA, dx, fv, rfl, hm, rfl, hd, kr⟩
    | nx r1 => rw [e] at h; exact RS.cast (C := C) ⟨C.K, C.mg, wAs X.K cv i (tsR C i fh) C.W D⟩ rfl (show RS C U H σ r D (.nx r1) from h) (fun _ _ _ z => nomatch z)
    | bk r1 => rw [e] at h; exact RS.cast (C := C) ⟨C.K, C.mg, wAs X.K cv i (tsR C i fh) C.W D⟩ rfl (show RS C U H σ r D (.bk r1) from h) (fun _ _ _ z => nomatch z)
    | ct r1 => rw [e] at h; exact RS.cast (C := C) ⟨C.K, C.mg, wAs X.K cv i (tsR C i fh) C.W D⟩ rfl (show RS C U H σ r D (.ct r1) from h) (fun _ _ _ z => nomatch z)
    | rt t r1 => rw [e] at h; exact RS.cast (C := C) ⟨C.K, C.mg, wAs X.K cv i (tsR C i fh) C.W D⟩ rfl (show RS C U H σ r D (.rt t r1) from h) (fun _ _ _ z => nomatch z)
    | st => rw [e] at h; exact (show False from h).elim
end
end GB

/-! short rules for gen.py -/
namespace GB
open PySem PySem.Spec PyProof.Rows L2
section
variable {X : Cx} {C : Ct} {a CA dx : Addr} {oe : Obj} {pn : List (Addr × Obj)} {c x y n f : Str} {i : Nat} {tbl : Str → Option Bool} {p q1 q2 pos pos2 : Pos} {np pos' : Pos} {catch' : Str → Option Bool} {fb : Rho → Fl} {fh : Addr → Addr → Str → Rho → Fl} {body suite : List Stmt} {b₀ : Stmt}
theorem noX_fXf : noX (fXf a dx c i f tbl) = fXf a dx c i f tbl := by
  funext r
  rw [noX_def]
  unfold fXf
  split
  · rename_i h; exact h.symm
  · rename_i h
    revert h
    split
    · split
      · intro h; exact (h _ _ rfl).elim
      · intro _; rfl
    · intro _; rfl
/-- e.f where a raise may follow -/
theorem x_xfO (hm : C.mg c = some (.ref CA)) (hz : Zc (.ref CA) (some dx) oe) (hf : ∃ vs, oe.data = .fields vs) (ht : ∀ c b, tbl c = some b → AskF X.K X.mg c ∧ FldF X.K X.mg c f) (hy : X.N[i]? = some y) (hv : Vis X.env.scope y) (hK : C.K = X.K := by rfl) (hM : C.mg = X.mg := by rfl)
    (hd : (y == ("__debug__" : Str)) = false := by decide) (hcd : (y == ("__classdict__" : Str)) = false := by decide) (hb : attributeBase (.Name y q1) f X.env (eval (.Name y q1) X.env) = eval (.Name y q1) X.env := by rfl) :
    GE (GX.outX X a n pos' ((a, oe) :: pn)) C (.Attribute (.Name y q1) f pos) (fXf a dx c i f tbl) := by
  have h := x_xf (X := X) (C := C) (a := a) (dx := dx) (oe := oe) (pn := pn) (pos := pos) (q1 := q1) hm hz hf ht hy hv hK hM hd hcd hb
  have h2 : GE (GX.outX X a n pos' ((a, oe) :: pn)) C.quiet (.Attribute (.Name y q1) f pos) (fXf a dx c i f tbl) := PE.nox (X := GX.outX X a n pos' ((a, oe) :: pn)) h
  rw [← noX_fXf]
  exact ge_noX h2
theorem gs_tryRN (nd : X.N.Nodup) (hi : X.N[i]? = some n) (k : ClsF X.K X.mg x) (hpa : ∀ hd : Option Value, PassesOwnAt (model X.prog X.w) (X.A.mark hd) X.A X.env X.xe) (tk : Takes X C.W) (htb : ∀ c b, catch' c = some b → SubF X.K X.mg c x b)
    (hb : ∀ (W : WX) (pn : List (Addr × Obj)) (xe : Value → Shared → Prop), L2N.Takes (X.tr pn xe) W → PassesOwn (model X.prog X.w) X.A X.env xe → GSs (X.tr pn xe) ⟨C.K, C.mg, W⟩ body fb)
    (hsu : ∀ (a : Addr) (oe : Obj) (CA dx : Addr) (c : Str) (pn : List (Addr × Obj)), C.mg c = some (.ref CA) → Zc (.ref CA) (some dx) oe → (∃ vs, oe.data = .fields vs) → L2.Takes (GX.outX X a n pos' ((a, oe) :: pn)) (C.gone i).W → L2H.HotC (GX.outX X a n pos' ((a, oe) :: pn)) → GSs (GX.outX X a n pos' ((a, oe) :: pn)) (C.gone i) (b₀ :: suite) (fh a dx c))
    (hM : C.mg = X.mg := by rfl) (hg : Gl X x := by rfl) (hdb : (x == ("__debug__" : Str)) = false := by decide) (hs : X.stack = X.env :: X.outer := by rfl) (hf : X.env.frame = some X.env.locals := by rfl) (hln : X.env.kindOf n = some .local := by rfl) :
    GS X C (.Try body [.ExceptHandler (some (.Name x np)) (some n) (b₀ :: suite) pos'] [] [] pos) (fTryR i catch' fb fh) := by
  obtain ⟨B, m, h1, h2, h0, _⟩ := k.ex
  refine gs_tryR nd hi ⟨hg, hdb, .inl m⟩ hpa tk (fun c b e => ?_) hb hsu hs hf hln
  obtain ⟨A, B', m1, m2, h3⟩ := (htb c b e).ex
  rw [m] at m2; cases m2
  exact ⟨A, by rw [hM]; exact m1, exm_of h0 h1 h2 h3⟩
end
end GB

/-! tuple * int; slices of tuples from both sides -/
namespace GB
open PySem PySem.Spec PyProof.Rows L2
section
variable {X : Cx} {C : Ct} {a b : Expr} {fa fb : Rho → Rs Opd} {pos : Pos}
def fMulT : S → S → Option S
  | .fz (.tup ds), .fz (.int k) => if ds ≠ [] ∧ 2 ≤ k ∧ k ≤ 1000 ∧ ds.length ≤ 1000 then some (.fz (.tup (List.replicate k.toNat ds).flatten)) else none
  | _, _ => none
theorem pn_mulT : PN C (fun vs H Q => ∃ x y, vs = [x, y] ∧ rRepT C.K x y H Q) (p2 fMulT) := by
  refine pn2 fun U W H x y a b s Q lv xa xb h q => ?_
  unfold fMulT at h
  split at h
  · rename_i ds k
    rw [sr_int xb]
    by_cases z : ds ≠ [] ∧ 2 ≤ k ∧ k ≤ 1000 ∧ ds.length ≤ 1000
    · rw [if_pos z] at h
      cases h
      cases xa with
      | fz r =>
        cases r with
        | @tup a xs _ e t =>
          refine ⟨a, k, xs, rfl, rfl, e, fun n => z.1 ?_, z.2.1, z.2.2.1, by rw [t.len]; exact z.2.2.2, fun p hp => q _ _ (Got.newT (C := C) lv hp (rps_rep t _))⟩
          have := t.len
          rw [n] at this
          exact List.length_eq_zero_iff.mp this.symm
    · rw [if_neg z] at h; cases h
  · cases h
def qMulU : Pr := orP qMul (p2 fMulT)
theorem x_mulU (ha : GE X C a fa) (hb : GE X C b fb) (hK : C.K = X.K := by rfl) : GE X C (.BinOp a .Mult b pos) (e2 qMulU fa fb) :=
  ge_orP (x_mulA ha hb) (ge_op pn_mulT (by rw [hK]; exact pe_op op_repT ha hb))
end
theorem orP_some {p q : Pr} {ss : List S} {s : S} (h : p ss = some s) : orP p q ss = some s := by
  unfold orP
  rw [h]
theorem orP_none {p q : Pr} {ss : List S} (h : p ss = none) : orP p q ss = q ss := by
  unfold orP
  rw [h]
theorem mulU_s {l : List Nat} {k : Nat} (h2 : k ≤ 1000000) (hl : l.length * k ≤ 16777216) : qMulU [.fz (.str l), .fz (.int (k : Nat))] = some (.fz (.str (List.replicate k l).flatten)) := orP_some (mulS_n h2 hl)
theorem fMulT_eq {ds : List D} {k : Int} (h0 : ds ≠ []) (h1 : 2 ≤ k) (h2 : k ≤ 1000) (h3 : ds.length ≤ 1000) : fMulT (.fz (.tup ds)) (.fz (.int k)) = some (.fz (.tup (List.replicate k.toNat ds).flatten)) := by
  unfold fMulT
  exact if_pos ⟨h0, h1, h2, h3⟩
theorem qMul_tn {ds : List D} {k : Int} : qMul [.fz (.tup ds), .fz (.int k)] = none := by
  have h1 : fMul (.fz (.tup ds)) (.fz (.int k)) = none := rfl
  have h2 : fMulS (.fz (.tup ds)) (.fz (.int k)) = none := rfl
  exact (orP_none (p := p2 fMul) (q := p2 fMulS) (ss := [.fz (.tup ds), .fz (.int k)]) h1).trans h2
theorem mulU_t {ds : List D} {k : Nat} (h0 : ds ≠ []) (h1 : 2 ≤ k) (h2 : k ≤ 1000) (h3 : ds.length ≤ 1000) : qMulU [.fz (.tup ds), .fz (.int (k : Nat))] = some (.fz (.tup (List.replicate k ds).flatten)) :=
  (orP_none (p := qMul) (q := p2 fMulT) (ss := [.fz (.tup ds), .fz (.int (k : Nat))]) qMul_tn).trans (fMulT_eq h0 (by omega) (by omega) h3)
end GB

/-! what no script reaches: told by nothing -/
namespace GB
open PySem PySem.Spec PyProof.Rows L2
def eStk : Rho → Rs Opd := fun _ => .st
theorem x_stk {X : Cx} {C : Ct} {e : Expr} : GE X C e eStk := stuck fun _ => rfl
end GB

/-! text.split(text), int(text) -/
namespace GB
open PySem PySem.Spec PyProof.Rows L2
def splitT (l q : List Nat) : List (List Nat) := (Txt.split ⟨l.toArray⟩ ⟨q.toArray⟩).map fun s => s.cps.toList
def fSplit : S → S → Option S
  | .fz (.str l), .fz (.str q) => if q ≠ [] ∧ l.length ≤ 1000000 then some (.ol ((splitT l q).map D.str)) else none
  | _, _ => none
def intT (l : List Nat) : Option Int := PySem.intText? ⟨l.toArray⟩
def fIntT : S → Option S
  | .fz (.str l) => if l.length ≤ 640 then (intT l).map fun n => .fz (.int n) else none
  | _ => none
def qInt : Pr := orP (p1 fInt1) (p1 fIntT)
section
variable {X : Cx} {C : Ct} {a e o : Expr} {fa fo fe : Rho → Rs Opd} {p pos apos cpos : Pos}
theorem rps_split {K : PySem.W.Frag} {W : Addr → Prop} {H : Hp} : ∀ ys : List Str, Rps K W H (ys.map V.str) ((ys.map fun s => s.cps.toList).map D.str)
  | [] => .nil
  | y :: ys => .cons (.str y.cps.toList) (rps_split ys)
theorem pn_split : PN C (fun vs H Q => ∃ x xs, vs = x :: xs ∧ ∃ a b, x = .str a ∧ xs = [.str b] ∧ (b.length == 0) = false ∧ a.length + 2 ≤ sizeLine ∧ rNewStrs (Txt.split a b) H Q) (p2 fSplit) := by
  refine pnm1 (rr := fun x xs H Q => ∃ a b, x = .str a ∧ xs = [.str b] ∧ (b.length == 0) = false ∧ a.length + 2 ≤ sizeLine ∧ rNewStrs (Txt.split a b) H Q) fun U W H x y a b s Q lv xa xb h q => ?_
  unfold fSplit at h
  split at h
  · rename_i l g
    by_cases z : g ≠ [] ∧ l.length ≤ 1000000
    · rw [if_pos z] at h
      cases h
      rw [sr_str xa, sr_str xb]
      refine ⟨_, _, rfl, rfl, ?_, ?_, fun p hp => q _ _ (Got.newL (C := C) lv hp (rps_split _))⟩
      · have : (⟨g.toArray⟩ : Str).length = g.length := by show g.toArray.size = _; simp
        rw [this]
        have n : g.length ≠ 0 := fun n => z.1 (List.length_eq_zero_iff.mp n)
        exact beq_eq_false_iff_ne.mpr n
      · have : (⟨l.toArray⟩ : Str).length = l.length := by show l.toArray.size = _; simp
        rw [this, sizeLine_eq]
        omega
    · rw [if_neg z] at h; cases h
  · cases h
theorem x_split (ho : GE X C o fo) (ha : GE X C e fe) (mc : MCall X o "split" apos e [] cpos) : GE X C (.Call (.Attribute o "split" apos) [e] [] cpos) (eMeth isStr (p2 fSplit) fo (eCons fe eNil)) :=
  ge_meth (pe_bm PySem.F.plainAttrs_str PySem.F.slot_str_split PySem.F.type_str_split mt_split ho (ga_cons ha ga_nil mc.star) mc.base mc.few mc.line mc.star mc.plain) isStr_ty pn_split
theorem pn_intT : PN C (fun xs H Q => ∃ a n, xs = [.str a] ∧ PySem.intText? a = some n ∧ a.length ≤ 640 ∧ Q (.int n) H) (p1 fIntT) := by
  intro U W H vs ss s Q lv hs hp q
  match ss, hs, hp with
  | [a], .cons xa .nil, hp =>
    cases a with
    | fz a =>
      cases a with
      | str l =>
        have hp : (if l.length ≤ 640 then (intT l).map fun n => S.fz (.int n) else none) = some s := hp
        by_cases z : l.length ≤ 640
        · rw [if_pos z] at hp
          cases e : intT l with
          | none => rw [e] at hp; cases hp
          | some n =>
            rw [e] at hp
            cases hp
            rw [sr_str xa]
            exact ⟨_, n, rfl, e, by show l.toArray.size ≤ 640; simpa using z, q _ _ (.same (.int n))⟩
        · rw [if_neg z] at hp; cases hp
      | _ => cases hp
    | _ => cases hp
theorem x_intT (hm : X.mg "int" = none) (ha : GE X C a fa) (hg : Gl X "int" := by rfl) (hs : starEach [a] X.env = (false, eval a X.env) :: starEach [] X.env := by rfl) : GE X C (.Call (.Name "int" p) [a] [] pos) (e1 qInt fa) :=
  ge_orP (x_int1 hm ha hg hs) (ge_call pn_intT (pe_callTy call_int_str hg hm PyProof.Rows.boot_int (ga_cons ha ga_nil hs) (he := hs)))
end
end GB

/-! a dict of the module: text keys, tuples of texts -/
namespace GB
open PySem PySem.Spec PyProof.Rows L2
abbrev Tab := List (List Nat × List (List Nat))
structure KTab (K : PySem.W.Frag) (mg : Str → Option Value) (w : World) (x : Str) (tbl : Tab) : Prop where
  ex : ∃ (a : Addr) (es : Array DictEntry) (n : Nat), mg x = some (.ref a) ∧ K.lookup a = some ⟨.type "dict", none, .dict es n, #[]⟩ ∧ PySem.W.KeysLit w.params es.toList ∧ (a == sysModules) = false ∧
    (∀ k, ∃ r, PySem.W.nsIn K a ⟨k.toArray⟩ = some r ∧ r.isSome = (tbl.lookup k).isSome) ∧
    (∀ k ts, tbl.lookup k = some ts → ∃ v, KDct K w a ⟨k.toArray⟩ v ∧ ∀ W H, Rp K W H v (.tup (ts.map D.str)))
def fKd (tbl : Tab) : S → Option S
  | .fz (.str k) => (tbl.lookup k).map fun ts => .fz (.tup (ts.map D.str))
  | _ => none
def fKin (tbl : Tab) : S → Option S
  | .fz (.str k) => some (.fz (.bl (tbl.lookup k).isSome))
  | _ => none
def fKnin (tbl : Tab) : S → Option S
  | .fz (.str k) => some (.fz (.bl (!(tbl.lookup k).isSome)))
  | _ => none
def rInK (K : PySem.W.Frag) (w : World) (b : Bool) : R2 := fun x y H Q => ∃ z p es n r, x = .str z ∧ y = .ref p ∧ K.lookup p = some ⟨.type "dict", none, .dict es n, #[]⟩ ∧ PySem.W.KeysLit w.params es.toList ∧ (p == sysModules) = false ∧ PySem.W.nsIn K p z = some r ∧ Q (.bl (if b then !r.isSome else r.isSome)) H
section
variable {X : Cx} {C : Ct} {e : Expr} {fe : Rho → Rs Opd} {x : Str} {tbl : Tab} {p pos : Pos}
theorem op_inK : OpR X (compareOp .In) (rInK X.K X.w false) := by
  intro pins s σ H x y v u Q I rx ry h
  obtain ⟨z, p, es, n, r, rfl, rfl, hl, hk, lo, e, q⟩ := h
  obtain ⟨t, rfl⟩ := rx
  obtain rfl : u = Value.ref p := ry
  exact wpAny_in_of (strKind_is X.prog X.w z t) lo (PySem.W.mapOf_K (prog := X.prog) (w := X.w) I.kIn hl hk) (by rw [PySem.W.find_K hl e]; exact ⟨.bl r.isSome, H, I.tok _, rfl, q⟩)
theorem op_notInK : OpR X (compareOp .NotIn) (rInK X.K X.w true) := by
  intro pins s σ H x y v u Q I rx ry h
  obtain ⟨z, p, es, n, r, rfl, rfl, hl, hk, lo, e, q⟩ := h
  obtain ⟨t, rfl⟩ := rx
  obtain rfl : u = Value.ref p := ry
  exact wpAny_notIn_of (strKind_is X.prog X.w z t) lo (PySem.W.mapOf_K (prog := X.prog) (w := X.w) I.kIn hl hk) (by rw [PySem.W.find_K hl e]; exact ⟨.bl (!r.isSome), H, I.tok _, rfl, q⟩)
theorem pn_inK {K : PySem.W.Frag} {w : World} {a : Addr} {es : Array DictEntry} {n : Nat} {b : Bool} (hl : K.lookup a = some ⟨.type "dict", none, .dict es n, #[]⟩) (hk : PySem.W.KeysLit w.params es.toList) (lo : (a == sysModules) = false)
    (hin : ∀ k, ∃ r, PySem.W.nsIn K a ⟨k.toArray⟩ = some r ∧ r.isSome = (tbl.lookup k).isSome) (f : S → Option S) (hf : ∀ k, f (.fz (.str k)) = some (.fz (.bl (if b then !(tbl.lookup k).isSome else (tbl.lookup k).isSome)))) (hn : ∀ s, (∀ k, s ≠ .fz (.str k)) → f s = none) :
    PN C (fun vs H Q => ∃ x, vs = [x] ∧ rInK K w b x (.ref a) H Q) (p1 f) := by
  refine pn1 (rr := fun x H Q => rInK K w b x (.ref a) H Q) fun U W H x s o Q lv xa h q => ?_
  by_cases z : ∃ k, s = .fz (.str k)
  · obtain ⟨k, rfl⟩ := z
    rw [hf] at h
    cases h
    rw [sr_str xa]
    obtain ⟨r, e, er⟩ := hin k
    refine ⟨_, a, es, n, r, rfl, rfl, hl, hk, lo, e, ?_⟩
    rw [er]
    exact q _ _ (.same (.bl _))
  · rw [hn s fun k e => z ⟨k, e⟩] at h
    cases h
theorem x_inK (c : KTab X.K X.mg X.w x tbl) (he : GE X C e fe) (hg : Gl X x := by rfl) (hd : (x == ("__debug__" : Str)) = false := by decide) (hm : behindInMarks .In (.Name x p) = false := by with_unfolding_all rfl) : GE X C (.Compare e [.In] [.Name x p] pos) (e1 (p1 (fKin tbl)) fe) := by
  obtain ⟨a, es, n, h0, hl, hk, lo, hin, _⟩ := c.ex
  refine ge_un (rr := fun y H Q => rInK X.K X.w false y (.ref a) H Q) (pn_inK (b := false) hl hk lo hin (fKin tbl) (fun k => rfl) fun s h => ?_) ?_
  · unfold fKin; split
    · exact (h _ rfl).elim
    · rfl
  · exact weakE (pe_cmpR op_inK he (pe_glob hg h0 (v := .ref a) rfl hd) hm) fun σ H Q q => q
theorem x_notInK (c : KTab X.K X.mg X.w x tbl) (he : GE X C e fe) (hg : Gl X x := by rfl) (hd : (x == ("__debug__" : Str)) = false := by decide) (hm : behindInMarks .NotIn (.Name x p) = false := by with_unfolding_all rfl) : GE X C (.Compare e [.NotIn] [.Name x p] pos) (e1 (p1 (fKnin tbl)) fe) := by
  obtain ⟨a, es, n, h0, hl, hk, lo, hin, _⟩ := c.ex
  refine ge_un (rr := fun y H Q => rInK X.K X.w true y (.ref a) H Q) (pn_inK (b := true) hl hk lo hin (fKnin tbl) (fun k => rfl) fun s h => ?_) ?_
  · unfold fKnin; split
    · exact (h _ rfl).elim
    · rfl
  · exact weakE (pe_cmpR op_notInK he (pe_glob hg h0 (v := .ref a) rfl hd) hm) fun σ H Q q => q
/-- a test of one part: by its value -/
theorem gt_un {e' : Expr} {rr : V → Hp → VK → Prop} {pr : Pr} (hp : PN C (fun vs H Q => ∃ x, vs = [x] ∧ rr x H Q) pr) (ht : PT X e' (fun σ H Q => tE C fe σ H fun x H' => rr x H' fun y H2 => ∃ k, y = .bl k ∧ Q k H2)) : GT X C e' (eBl (eCall pr (eCons fe eNil))) := by
  refine weakT ht fun σ H Q h => ?_
  obtain ⟨U, r, s, h⟩ := h
  refine tE_then (g := fun o r1 => (eP pr [o] r1).bind tBl) (R := RT C U H σ r Q) s ?_ id (fun _ _ _ z => z) ?_
  · refine cast ?_ h
    unfold eBl eCall eCons eNil Rs.bind
    cases fe r <;> rfl
  intro o r1 v H1 U1 s1 a1 p1 k1 n1 h1
  obtain ⟨ss, e, x⟩ := OpsOk.res s1 (.cons k1 .nil)
  unfold eP at h1
  simp only [e] at h1
  cases e2 : pr ss with
  | none => simp only [e2, Rs.bind] at h1; exact (show False from h1).elim
  | some t =>
    simp only [e2, Rs.bind] at h1
    obtain ⟨x1, e3, q⟩ := hp U1 _ H1 [v] ss t (fun x H' => ∃ k, x = .bl k ∧ Q k H') s1.wlv x e2 fun w H3 g => by
      obtain ⟨U3, s3, a3, k3, n3⟩ := g.fin s1
      cases t with
      | fz d =>
        cases d with
        | bl k' =>
          have fin : RT C U H σ r Q (.ok k' r1) := h1
          cases k3.1 with | fz y => cases y; exact ⟨_, rfl, fin H3 U3 s3 (a1.trans a3) p1⟩
        | _ => exact (show False from h1).elim
      | _ => exact (show False from h1).elim
    cases e3
    exact q
theorem t_inK (c : KTab X.K X.mg X.w x tbl) (he : GE X C e fe) (hg : Gl X x := by rfl) (hd : (x == ("__debug__" : Str)) = false := by decide) (hm : behindInMarks .In (.Name x p) = false := by with_unfolding_all rfl) : GT X C (.Compare e [.In] [.Name x p] pos) (eBl (e1 (p1 (fKin tbl)) fe)) := by
  obtain ⟨a, es, n, h0, hl, hk, lo, hin, _⟩ := c.ex
  refine gt_un (rr := fun y H Q => rInK X.K X.w false y (.ref a) H Q) (pn_inK (b := false) hl hk lo hin (fKin tbl) (fun k => rfl) fun s h => ?_) ?_
  · unfold fKin; split
    · exact (h _ rfl).elim
    · rfl
  · exact weakT (pt_cmpR op_inK he (pe_glob hg h0 (v := .ref a) rfl hd) hm) fun σ H Q q => q
theorem t_notInK (c : KTab X.K X.mg X.w x tbl) (he : GE X C e fe) (hg : Gl X x := by rfl) (hd : (x == ("__debug__" : Str)) = false := by decide) (hm : behindInMarks .NotIn (.Name x p) = false := by with_unfolding_all rfl) : GT X C (.Compare e [.NotIn] [.Name x p] pos) (eBl (e1 (p1 (fKnin tbl)) fe)) := by
  obtain ⟨a, es, n, h0, hl, hk, lo, hin, _⟩ := c.ex
  refine gt_un (rr := fun y H Q => rInK X.K X.w true y (.ref a) H Q) (pn_inK (b := true) hl hk lo hin (fKnin tbl) (fun k => rfl) fun s h => ?_) ?_
  · unfold fKnin; split
    · exact (h _ rfl).elim
    · rfl
  · exact weakT (pt_cmpR op_notInK he (pe_glob hg h0 (v := .ref a) rfl hd) hm) fun σ H Q q => q
theorem x_ixK (c : KTab X.K X.mg X.w x tbl) (he : GE X C e fe) (hK : C.K = X.K := by rfl) (hg : Gl X x := by rfl) (hd : (x == ("__debug__" : Str)) = false := by decide) (hs : PlainIx e := by intro _ _; rfl) : GE X C (.Subscript (.Name x p) e pos) (e1 (p1 (fKd tbl)) fe) := by
  obtain ⟨a, es, n, h0, hl, hk, lo, _, hv⟩ := c.ex
  refine ge_un (rr := fun y H Q => rIxD X.K X.w (.ref a) y H Q) ?_ ?_
  · refine pn1 (rr := fun y H Q => rIxD X.K X.w (.ref a) y H Q) fun U W H y s o Q lv xa h q => ?_
    unfold fKd at h
    split at h
    · rename_i k
      cases el : tbl.lookup k with
      | none => rw [el] at h; cases h
      | some ts =>
        rw [el] at h
        cases h
        rw [sr_str xa]
        obtain ⟨v, kd, rp⟩ := hv k ts el
        exact ⟨a, _, v, rfl, rfl, kd, q _ _ (.same (by rw [hK]; exact rp _ _))⟩
    · cases h
  · exact weakE (pe_ix ix_kdict (pe_glob hg h0 (v := .ref a) rfl hd) he hs) fun σ H Q q => q
end
end GB

/-! the head of a dict of the module -/
namespace GB
open PySem PySem.Spec PyProof.Rows L2
theorem strBeqD {a b : List Nat} : ((⟨a.toArray⟩ : Str) == (⟨b.toArray⟩ : Str)) = decide (a = b) := by
  by_cases h : a = b
  · subst h; simp
  · rw [decide_eq_false h]
    refine beq_eq_false_iff_ne.mpr fun z => h ?_
    have := congrArg (fun s : Str => s.cps.toList) z
    simpa using this
theorem ns_tab {R : Value → List (List Nat) → Prop} : ∀ {l : List DictEntry} {tbl : Tab}, Paired (fun e z => (∃ t, e.key = .str ⟨z.1.toArray⟩ t) ∧ R e.val z.2) l tbl → ∀ k : List Nat,
    (match tbl.lookup k with
      | some ts => ∃ e, l.find? (fun e => e.key.isStr ⟨k.toArray⟩) = some e ∧ R e.val ts
      | none => l.find? (fun e => e.key.isStr ⟨k.toArray⟩) = none ∧ l.any (fun e => e.refKey) = false)
  | [], [], .nil, k => ⟨rfl, rfl⟩
  | e :: l, (a, ts) :: tbl, .cons ⟨⟨t, he⟩, r⟩ p, k => by
    have ih := ns_tab p k
    have hs : e.key.isStr ⟨k.toArray⟩ = decide (a = k) := by rw [he]; exact strBeqD
    have hr : e.refKey = false := by
      unfold DictEntry.refKey
      rw [he]
    by_cases c : a = k
    · subst c
      rw [List.lookup_cons_self]
      exact ⟨e, by rw [List.find?_cons, hs]; simp, r⟩
    · have n : (k == a) = false := by simpa using fun z => c z.symm
      rw [List.lookup_cons, n, List.find?_cons, hs, decide_eq_false c, List.any_cons, hr, Bool.false_or]
      exact ih
/-- a constant tuple of texts -/
def TupC (K : PySem.W.Frag) (v : Value) (ts : List (List Nat)) : Prop :=
  ∃ (b : Addr) (o : Obj) (its : Array Value) (n : Nat), v = .ref b ∧ K.lookup b = some o ∧ o.cls = .type "tuple" ∧ o.data = .seq its n ∧ its.size ≤ sizeLine ∧ Vals (ts.map fun t => V.str ⟨t.toArray⟩) its.toList
theorem rps_txts {K : PySem.W.Frag} {W : Addr → Prop} {H : Hp} : ∀ ts : List (List Nat), Rps K W H (ts.map fun t => V.str ⟨t.toArray⟩) (ts.map D.str)
  | [] => .nil
  | t :: ts => .cons (.str t) (rps_txts ts)
theorem tab_mk {K : PySem.W.Frag} {mg : Str → Option Value} {w : World} {x : Str} {tbl : Tab} {a : Addr} {es : Array DictEntry} {n : Nat} (hm : mg x = some (.ref a)) (hl : K.lookup a = some ⟨.type "dict", none, .dict es n, #[]⟩) (hk : PySem.W.KeysLit w.params es.toList) (lo : (a == sysModules) = false)
    (p : Paired (fun (e : DictEntry) (z : List Nat × List (List Nat)) => (∃ t, e.key = .str ⟨z.1.toArray⟩ t) ∧ TupC K e.val z.2) es.toList tbl) : KTab K mg w x tbl := by
  refine ⟨a, es, n, hm, hl, hk, lo, fun k => ?_, fun k ts h => ?_⟩
  · have q := ns_tab p k
    unfold PySem.W.nsIn
    rw [hl]
    dsimp only
    cases e : tbl.lookup k with
    | none =>
      rw [e] at q
      obtain ⟨q1, q2⟩ := q
      rw [q1]
      dsimp only
      rw [q2]
      exact ⟨none, rfl, rfl⟩
    | some ts =>
      rw [e] at q
      obtain ⟨d, q1, q2⟩ := q
      rw [q1]
      exact ⟨some d.val, rfl, rfl⟩
  · have q := ns_tab p k
    rw [h] at q
    obtain ⟨d, q1, b, o, its, m, ev, h1, h2, h3, h4, h5⟩ := q
    refine ⟨.ref b, ⟨es, n, .ref b, hl, hk, ?_, rfl⟩, fun W H => .tup (.inr ⟨o, its, m, h1, h2, h3, h4, h5⟩) (rps_txts ts)⟩
    unfold PySem.W.nsIn
    rw [hl]
    dsimp only
    rw [q1]
    dsimp only
    rw [ev]
end GB

/-! texts of steps: split undoes join; numbers written and read -/
namespace GB
open PySem PySem.Spec PyProof.Rows L2
theorem splitT_spl {l : List Nat} {s : Nat} {S : List Nat} (hk : ∀ c ∈ s :: S, c < 256) : splitT l (s :: S) = TL.spl (s :: S) 0 [] l := by
  have h := TL.split_spl (⟨l.toArray⟩ : Str) (⟨(s :: S).toArray⟩ : Str) (by show (s :: S).toArray.toList ≠ []; simp) (TL.kind_ok (by show (s :: S).toArray.all (· < 256) = true; simpa using hk))
  have e1 : TL.tl (⟨(s :: S).toArray⟩ : Str) = s :: S := rfl
  have e2 : TL.tl (⟨l.toArray⟩ : Str) = l := rfl
  rw [e1, e2] at h
  exact h
theorem splitT_join {s : Nat} {S : List Nat} {ps : List (List Nat)} (hk : ∀ c ∈ s :: S, c < 256) (hne : ps ≠ []) (hp : ∀ p ∈ ps, s ∉ p) : splitT (joinN (s :: S) ps) (s :: S) = ps := by
  rw [splitT_spl hk]
  exact TL.spl_join hne hp
theorem spl_ne {S : List Nat} : ∀ {l acc : List Nat} {k : Nat}, TL.spl S k acc l ≠ []
  | [], acc, k => by cases k <;> (unfold TL.spl; simp)
  | c :: r, acc, 0 => by
    unfold TL.spl
    split
    · simp
    · exact spl_ne
  | c :: r, acc, k + 1 => by
    unfold TL.spl
    exact spl_ne
theorem splitT_ne {l : List Nat} {s : Nat} {S : List Nat} (hk : ∀ c ∈ s :: S, c < 256) : splitT l (s :: S) ≠ [] := by
  rw [splitT_spl hk]
  exact spl_ne
theorem s_fSplit {l : List Nat} {s : Nat} {S : List Nat} (h : l.length ≤ 1000000) : fSplit (.fz (.str l)) (.fz (.str (s :: S))) = some (.ol ((splitT l (s :: S)).map D.str)) := by
  show (if _ then _ else _) = _
  rw [if_pos ⟨by simp, h⟩]
/-- what a text of at most four figures writes -/
def numO (w : List Nat) : Option Nat :=
  if (1 ≤ w.length ∧ w.length ≤ 4) ∧ (∀ c ∈ w, 48 ≤ c ∧ c ≤ 57) ∧ ¬ (w.head? = some 48 ∧ w ≠ [48]) then some (NumText.digitsVal w) else none
theorem intTxt_num (n : Nat) : intTxt (n : Nat) = TL.numL n := TL.tl_num n
theorem intT_digits {w : List Nat} (h : NumText.AllDigits w) (hne : w ≠ []) (hl : w.length ≤ 4300) : intT w = some ((NumText.digitsVal w : Nat) : Int) := by
  unfold intT
  exact PySem.intText_digits (x := ⟨w.toArray⟩) h hne (by show w.toArray.size ≤ 4300; simpa using hl)
theorem numL_head (n : Nat) : (TL.numL n).head? = some 48 → n = 0 := by
  induction n using Nat.strongRecOn with
  | _ n ih =>
    by_cases h : n < 10
    · rw [TL.numL_lt h]
      intro e
      have e : 48 + n = 48 := by simpa using e
      omega
    · rw [TL.numL_step (by omega)]
      intro e
      have ne := TL.numL_ne (n / 10)
      have : (TL.numL (n / 10)).head? = some 48 := by
        cases q : TL.numL (n / 10) with
        | nil => exact absurd q ne
        | cons a l => rw [q] at e; simpa using e
      have := ih (n / 10) (by omega) this
      omega
theorem numO_num {n : Nat} (h : n < 10000) : numO (TL.numL n) = some n := by
  unfold numO
  rw [if_pos, TL.numL_val]
  refine ⟨⟨?_, TL.numL_len (k := 4) (by omega) (by omega)⟩, fun c hc => TL.numL_digits n c hc, fun z => ?_⟩
  · have := TL.numL_ne n
    cases q : TL.numL n with
    | nil => exact absurd q this
    | cons a l => simp
  · have := numL_head n z.1
    subst this
    exact z.2 (TL.numL_lt (by omega))
theorem numO_lt {w : List Nat} {n : Nat} (h : numO w = some n) : n < 10000 := by
  unfold numO at h
  split at h
  · rename_i g
    cases h
    have key : ∀ (w : List Nat) (a : Nat), (∀ c ∈ w, 48 ≤ c ∧ c ≤ 57) → w.foldl (fun acc c => acc * 10 + (c - 48)) a < (a + 1) * 10 ^ w.length := by
      intro w
      induction w with
      | nil => intro a _; simp
      | cons c w ih =>
        intro a hw
        have hc := hw c (List.mem_cons_self ..)
        have := ih (a * 10 + (c - 48)) fun c h => hw c (List.mem_cons_of_mem _ h)
        rw [List.foldl_cons, List.length_cons, Nat.pow_succ]
        have h2 : (a * 10 + (c - 48) + 1) * 10 ^ w.length ≤ ((a + 1) * 10) * 10 ^ w.length := Nat.mul_le_mul_right _ (by omega)
        calc _ < _ := this
          _ ≤ _ := h2
          _ = _ := by rw [Nat.mul_assoc, Nat.mul_comm 10]
    have k := key w 0 g.2.1
    have : (0 + 1) * 10 ^ w.length ≤ 10 ^ 4 := by
      rw [Nat.zero_add, Nat.one_mul]
      exact Nat.pow_le_pow_right (by omega) g.1.2
    unfold NumText.digitsVal
    exact Nat.lt_of_lt_of_le k this
  · cases h
theorem s_qIntT {w : List Nat} (h : NumText.AllDigits w) (hne : w ≠ []) (hl : w.length ≤ 640) : qInt [.fz (.str w)] = some (.fz (.int ((NumText.digitsVal w : Nat) : Int))) := by
  unfold qInt
  have e1 : fInt1 (.fz (.str w)) = none := rfl
  have e2 : fIntT (.fz (.str w)) = some (.fz (.int ((NumText.digitsVal w : Nat) : Int))) := by
    unfold fIntT
    dsimp only
    rw [if_pos hl, intT_digits h hne (by omega)]
    rfl
  rw [s_orP, s_p1, e1]
  dsimp only
  rw [s_p1, e2]
theorem neT_nil {ds : List D} (h : ∀ d ∈ ds, eqT d) : fNe (.fz (.tup ds)) (.fz (.tup [])) = some (.fz (.bl (!ds.isEmpty))) := by
  obtain ⟨h1, h2, h3⟩ := eqT_all h
  have f : (D.tup ds).fit = true := by
    have e1' : (D.tup ds).py.canLay0 = true := by rw [D.py, PyData.canLay0]; exact h1
    have e2' : (D.tup ds).py.depth ≤ 64 := by rw [D.py, PyData.depth]; omega
    have e3' : (D.tup ds).py.hasDict = false := by rw [D.py, PyData.hasDict]; exact h3
    show (((D.tup ds).py.canLay0 && decide ((D.tup ds).py.depth ≤ 64)) && !(D.tup ds).py.hasDict) = true
    rw [e1', e3', decide_eq_true e2']; rfl
  show (if (D.tup ds).fit && (D.tup []).fit then some ((D.tup ds).same (.tup [])) else none).map (fun k => S.fz (.bl (!k))) = _
  rw [f, show (D.tup []).fit = true from by decide]
  show some (S.fz (.bl (!PyData.eqv (D.tup ds).py (D.tup []).py))) = _
  rw [D.py, D.py, PyData.eqv]
  cases ds <;> rfl
theorem adS {a b : List Nat} (h : a.length + b.length ≤ 1000000) : fAdd (.fz (.str a)) (.fz (.str b)) = some (.fz (.str (a ++ b))) := by rw [s_addS, if_pos (big_of (by omega))]
theorem lnS {a : List Nat} (h : a.length ≤ 1000000) : fLen (.fz (.str a)) = some (.fz (.int (a.length : Int))) := by rw [s_lenS]; exact if_pos (big_of (by omega))
end GB

/-! the defs of ringwords_k11_steps_written_and_read, printed by gen.py -/
namespace W_k11
open PySem PySem.Spec PyProof.Rows L2 GB
def topS (i : Nat) : Stmt := PySem.Challenge.pw_ringwords_k11_steps_written_and_read.main.body.getD i (.Pass ⟨0, 0, 0, 0⟩)
def tab_PARTS : Tab := [([111, 117, 116], [[110, 117, 109, 98, 101, 114]]), ([105, 110], [[110, 117, 109, 98, 101, 114], [108, 101, 116, 116, 101, 114]]), ([114, 105, 110, 103], [[110, 117, 109, 98, 101, 114], [116, 117, 114, 110], [110, 117, 109, 98, 101, 114]])]
abbrev st_NoText : Stmt := clsS 0 (topS 2)
abbrev n_NoText : List Str := ["self", "step", "word"]
theorem sc_NoText : FnScope n_NoText n_NoText (defScope st_NoText) := ⟨rfl, rfl, rfl, by decide +kernel, rfl, by decide +kernel, by decide +kernel⟩
noncomputable def m_NoText : Rho → Rs Opd :=
  (e2 (p2 fAdd) (e2 (p2 fAdd) (e2 (p2 fAdd) (eC (.str [110, 111, 32, 115, 116, 101, 112, 32])) (e1 (p1 fStr) (eVar 1))) (eC (.str [44, 32, 119, 111, 114, 100, 32]))) (e1 (p1 fStr) (eVar 2)))
noncomputable abbrev X_NoText : List D → Option (List (Str × D)) := mkX ["step", "word"] m_NoText
abbrev st_is_letter : Stmt := topS 6
abbrev n_is_letter : List Str := ["thing"]
abbrev p_is_letter : List Str := ["thing"]
theorem sc_is_letter : FnScope n_is_letter p_is_letter (defScope st_is_letter) := ⟨rfl, rfl, rfl, by decide +kernel, rfl, by decide +kernel, by decide +kernel⟩
noncomputable def b_is_letter : Rho → Fl :=
  (fRet (eAnd (e1 (p1 (fIsA .str)) (eVar 0)) (eAnd (e2 (p2 fEq) (e1 (p1 fLen) (eVar 0)) (eC (.int 1))) (eOr (e2 qIn (eVar 0) (eC (.str [97, 98, 99, 100, 101, 102]))) (e2 qIn (eVar 0) (eC (.str [65, 66, 67, 68, 69, 70])))))))
noncomputable def F_is_letter : Fs := lockF (runF 1 b_is_letter)
theorem F_is_letter_eq : F_is_letter = runF 1 b_is_letter := lockF_eq _
abbrev st_number_of : Stmt := topS 7
abbrev n_number_of : List Str := ["letter"]
abbrev p_number_of : List Str := ["letter"]
theorem sc_number_of : FnScope n_number_of p_number_of (defScope st_number_of) := ⟨rfl, rfl, rfl, by decide +kernel, rfl, by decide +kernel, by decide +kernel⟩
noncomputable def b_number_of : Rho → Fl :=
  (fRet (eMeth isStr (p2 fSIndex) (eC (.str [97, 98, 99, 100, 101, 102])) (eCons (eMeth isStr (p1 fLower) (eVar 0) eNil) eNil)))
noncomputable def F_number_of : Fs := lockF (runF 1 b_number_of)
theorem F_number_of_eq : F_number_of = runF 1 b_number_of := lockF_eq _
abbrev st_shown_steps : Stmt := topS 15
abbrev n_shown_steps : List Str := ["steps", "part", "step"]
abbrev p_shown_steps : List Str := ["steps"]
theorem sc_shown_steps : FnScope n_shown_steps p_shown_steps (defScope st_shown_steps) := ⟨rfl, rfl, rfl, by decide +kernel, rfl, by decide +kernel, by decide +kernel⟩
noncomputable def ce_shown_steps_1 : Rho → Rs Opd :=
  (e1 (p1 fStr) (eVar 1))
noncomputable def ce_shown_steps_2 : Rho → Rs Opd :=
  (eMeth isStr (p2 fJoin) (eC (.str [32])) (eCons (eLc (eCons (eVar 2) eNil) mkSeq (gNm 1) eYes ce_shown_steps_1 [1]) eNil))
noncomputable def b_shown_steps : Rho → Fl :=
  (fSeq (fIf (eBl (e2 (p2 fEq) (e1 (p1 fLen) (eVar 0)) (eC (.int 0)))) (fRet (eC (.str [45])))
  fNil)
  (fRet (eMeth isStr (p2 fJoin) (eC (.str [59, 32])) (eCons (eLc (eCons (eVar 0) eNil) mkSeq (gNm 2) eYes ce_shown_steps_2 [2]) eNil))))
noncomputable def F_shown_steps : Fs := lockF (runF 3 b_shown_steps)
theorem F_shown_steps_eq : F_shown_steps = runF 3 b_shown_steps := lockF_eq _
abbrev st_number_in : Stmt := topS 16
abbrev n_number_in : List Str := ["word", "sign"]
abbrev p_number_in : List Str := ["word"]
theorem sc_number_in : FnScope n_number_in p_number_in (defScope st_number_in) := ⟨rfl, rfl, rfl, by decide +kernel, rfl, by decide +kernel, by decide +kernel⟩
noncomputable def ce_number_in_1 : Rho → Rs Opd :=
  (e2 qIn (eVar 1) (eC (.str [48, 49, 50, 51, 52, 53, 54, 55, 56, 57])))
noncomputable def b_number_in : Rho → Fl :=
  (fSeq (fIf (eOrT (eNotT (eBl (eChain qLe qLe (eC (.int 1)) (e1 (p1 fLen) (eVar 0)) (eC (.int 4))))) (eNotT (eTru (e1 (p1 fAll) (eLc (eCons (eVar 0) eNil) mkSeq (gNm 1) eYes ce_number_in_1 [1]))))) (fRet (eC .non))
  fNil)
  (fSeq (fIf (eAndT (eBl (e2 (p2 fEq) (e2 qIx (eVar 0) (eC (.int 0))) (eC (.str [48])))) (eBl (e2 (p2 fNe) (eVar 0) (eC (.str [48]))))) (fRet (eC .non))
  fNil)
  (fRet (e1 qInt (eVar 0)))))
noncomputable def F_number_in : Fs := lockF (runF 2 b_number_in)
theorem F_number_in_eq : F_number_in = runF 2 b_number_in := lockF_eq _
abbrev st__law_feed : Stmt := topS 21
abbrev n__law_feed : List Str := ["_law_script"]
abbrev p__law_feed : List Str := ["_law_script"]
theorem sc__law_feed : FnScope n__law_feed p__law_feed (defScope st__law_feed) := ⟨rfl, rfl, rfl, by decide +kernel, rfl, by decide +kernel, by decide +kernel⟩
noncomputable def b__law_feed : Rho → Fl :=
  (fRet (eDisp [((eC (.str [99, 101, 108, 108, 115])), (e2 (p2 fAdd) (e1 (p1 fListU) (eSl (eVar 0) none (some (eC (.int 63))))) (e2 qMul (eLst (eCons (eC (.int 0)) eNil)) (e1 (p1 fInt1) (e2 (p2 fEq) (e1 (p1 fLen) (eVar 0)) (eC (.int 0))))))), ((eC (.str [97, 116])), (eC (.int 0))), ((eC (.str [108, 101, 102, 116])), (eC (.int 0))), ((eC (.str [116, 117, 114, 110])), (eC (.int 0)))]))
noncomputable def F__law_feed : Fs := lockF (runF 1 b__law_feed)
theorem F__law_feed_eq : F__law_feed = runF 1 b__law_feed := lockF_eq _
abbrev st__law_draw : Stmt := topS 22
abbrev n__law_draw : List Str := ["_law_feed_here", "_law_many", "_law_cell", "_law_mixed", "_law_found"]
abbrev p__law_draw : List Str := ["_law_feed_here", "_law_many"]
theorem sc__law_draw : FnScope n__law_draw p__law_draw (defScope st__law_draw) := ⟨rfl, rfl, rfl, by decide +kernel, rfl, by decide +kernel, by decide +kernel⟩
noncomputable def b__law_draw : Rho → Fl :=
  (fSeq (fPut 0 mPut (e2 (p2 fAdd) (e2 qIx (eVar 0) (eC (.str [116, 117, 114, 110]))) (eC (.int 1))) (eC (.str [116, 117, 114, 110])))
  (fSeq (fIf (eBl (e2 (p2 fEq) (e2 qIx (eVar 0) (eC (.str [108, 101, 102, 116]))) (eC (.int 0)))) (fSeq (fSet 2 (e2 qIx (e2 qIx (eVar 0) (eC (.str [99, 101, 108, 108, 115]))) (e2 (p2 (fInts fModI)) (e2 qIx (eVar 0) (eC (.str [97, 116]))) (e1 (p1 fLen) (e2 qIx (eVar 0) (eC (.str [99, 101, 108, 108, 115])))))))
  (fSeq (fPut 0 mPut (e2 (p2 fAdd) (e2 qIx (eVar 0) (eC (.str [97, 116]))) (eC (.int 1))) (eC (.str [97, 116])))
  (fSeq (fIf (eBl (e2 qLt (eVar 2) (e2 (p2 (fInts fPowI)) (eC (.int 10)) (eC (.int 18))))) (fSeq (fSet 3 (e2 (p2 (fInts fModI)) (e2 qMul (e2 (p2 fAdd) (e2 (p2 (fInts fModI)) (eVar 2) (eC (.int 2147483629))) (e2 qMul (eC (.int 1013)) (e2 qIx (eVar 0) (eC (.str [116, 117, 114, 110]))))) (eC (.int 48271))) (eC (.int 2147483647))))
  (fSeq (fSet 3 (e2 (p2 (fInts fModI)) (e2 qMul (e2 (p2 fAdd) (e2 (p2 (fInts fDivI)) (eVar 3) (eC (.int 11))) (e2 qMul (eC (.int 41)) (e2 qIx (eVar 0) (eC (.str [116, 117, 114, 110]))))) (eC (.int 69621))) (eC (.int 2147483587))))
  (fRet (e2 (p2 (fInts fModI)) (e2 (p2 (fInts fDivI)) (eVar 3) (eC (.int 7))) (eVar 1)))))
  fNil)
  (fPut 0 mPut (eVar 2) (eC (.str [108, 101, 102, 116]))))))
  fNil)
  (fSeq (fSet 4 (e2 (p2 (fInts fModI)) (e2 qIx (eVar 0) (eC (.str [108, 101, 102, 116]))) (eVar 1)))
  (fSeq (fPut 0 mPut (e2 (p2 (fInts fDivI)) (e2 qIx (eVar 0) (eC (.str [108, 101, 102, 116]))) (eVar 1)) (eC (.str [108, 101, 102, 116])))
  (fRet (eVar 4))))))
noncomputable def F__law_draw : Fs := lockF (runF 5 b__law_draw)
theorem F__law_draw_eq : F__law_draw = runF 5 b__law_draw := lockF_eq _
abbrev st__law_text : Stmt := topS 26
abbrev n__law_text : List Str := ["_law_steps", "_law_text_here", "_law_step", "_law_part"]
abbrev p__law_text : List Str := ["_law_steps"]
theorem sc__law_text : FnScope n__law_text p__law_text (defScope st__law_text) := ⟨rfl, rfl, rfl, by decide +kernel, rfl, by decide +kernel, by decide +kernel⟩
noncomputable def fb__law_text_1 : Rho → Fl :=
  (fSet 1 (e2 (p2 fAdd) (e2 (p2 fAdd) (eVar 1) (eC (.str [32]))) (e1 (p1 fStr) (eVar 3))))
noncomputable def fb__law_text_2 : Rho → Fl :=
  (fSeq (fIf (eBl (e2 (p2 fNe) (eVar 1) (eC (.str [])))) (fSet 1 (e2 (p2 fAdd) (eVar 1) (eC (.str [59, 32]))))
  fNil)
  (fSeq (fSet 1 (e2 (p2 fAdd) (eVar 1) (e2 qIx (eVar 2) (eC (.int 0)))))
  (fFor (eCons (eSl (eVar 2) (some (eC (.int 1))) none) eNil) mkSeq (gNm 3) fb__law_text_1)))
noncomputable def b__law_text : Rho → Fl :=
  (fSeq (fSet 1 (eC (.str [])))
  (fSeq (fFor (eCons (eVar 0) eNil) mkSeq (gNm 2) fb__law_text_2)
  (fRet (eIf (eBl (e2 (p2 fNe) (eVar 0) (eTup eNil))) (eVar 1) (eC (.str [45]))))))
noncomputable def F__law_text : Fs := lockF (runF 4 b__law_text)
theorem F__law_text_eq : F__law_text = runF 4 b__law_text := lockF_eq _
abbrev st_is_word : Stmt := topS 8
abbrev n_is_word : List Str := ["many", "thing", "sign"]
abbrev p_is_word : List Str := ["many", "thing"]
theorem sc_is_word : FnScope n_is_word p_is_word (defScope st_is_word) := ⟨rfl, rfl, rfl, by decide +kernel, rfl, by decide +kernel, by decide +kernel⟩
noncomputable def ce_is_word_1 : Rho → Rs Opd :=
  (eAnd (eFn F_is_letter (eCons (eVar 2) eNil)) (e2 qLt (eFn F_number_of (eCons (eVar 2) eNil)) (eVar 0)))
noncomputable def b_is_word : Rho → Fl :=
  (fSeq (fIf (eNotT (eTru (e1 (p1 (fIsA .str)) (eVar 1)))) (fRet (eC (.bl false)))
  fNil)
  (fRet (e1 (p1 fAll) (eLc (eCons (eVar 1) eNil) mkSeq (gNm 2) eYes ce_is_word_1 [2]))))
noncomputable def F_is_word : Fs := lockF (runF 3 b_is_word)
theorem F_is_word_eq : F_is_word = runF 3 b_is_word := lockF_eq _
abbrev st__law_some : Stmt := topS 23
abbrev n__law_some : List Str := ["_law_feed_here", "_law_many", "_law_most", "_law_signs", "_law_k"]
abbrev p__law_some : List Str := ["_law_feed_here", "_law_many", "_law_most"]
theorem sc__law_some : FnScope n__law_some p__law_some (defScope st__law_some) := ⟨rfl, rfl, rfl, by decide +kernel, rfl, by decide +kernel, by decide +kernel⟩
noncomputable def ce__law_some_1 : Rho → Rs Opd :=
  (e2 qIx (eVar 3) (eFn F__law_draw (eCons (eVar 0) (eCons (e2 qMul (eC (.int 2)) (eVar 1)) eNil))))
noncomputable def b__law_some : Rho → Fl :=
  (fSeq (fSet 3 (e2 (p2 fAdd) (eSl (eC (.str [97, 98, 99, 100, 101, 102])) none (some (eVar 1))) (eSl (eC (.str [65, 66, 67, 68, 69, 70])) none (some (eVar 1)))))
  (fRet (eMeth isStr (p2 fJoin) (eC (.str [])) (eCons (eLc (eCons (eFn F__law_draw (eCons (eVar 0) (eCons (e2 (p2 fAdd) (eVar 2) (eC (.int 1))) eNil))) eNil) mkR1 (gNm 4) eYes ce__law_some_1 [4]) eNil))))
noncomputable def F__law_some : Fs := lockF (runF 5 b__law_some)
theorem F__law_some_eq : F__law_some = runF 5 b__law_some := lockF_eq _
abbrev st__law_number : Stmt := topS 24
abbrev n__law_number : List Str := ["_law_feed_here"]
abbrev p__law_number : List Str := ["_law_feed_here"]
theorem sc__law_number : FnScope n__law_number p__law_number (defScope st__law_number) := ⟨rfl, rfl, rfl, by decide +kernel, rfl, by decide +kernel, by decide +kernel⟩
noncomputable def b__law_number : Rho → Fl :=
  (fRet (e2 qIx (eLst (eCons (eC (.int 0)) (eCons (eC (.int 1)) (eCons (eC (.int 9)) (eCons (eC (.int 10)) (eCons (eC (.int 99)) (eCons (eC (.int 100)) (eCons (eC (.int 1000)) (eCons (eC (.int 9999)) (eCons (eFn F__law_draw (eCons (eVar 0) (eCons (eC (.int 10000)) eNil))) eNil)))))))))) (eFn F__law_draw (eCons (eVar 0) (eCons (eC (.int 9)) eNil)))))
noncomputable def F__law_number : Fs := lockF (runF 1 b__law_number)
theorem F__law_number_eq : F__law_number = runF 1 b__law_number := lockF_eq _
abbrev st_part_in : Stmt := topS 17
abbrev n_part_in : List Str := ["kind", "word"]
abbrev p_part_in : List Str := ["kind", "word"]
theorem sc_part_in : FnScope n_part_in p_part_in (defScope st_part_in) := ⟨rfl, rfl, rfl, by decide +kernel, rfl, by decide +kernel, by decide +kernel⟩
noncomputable def b_part_in : Rho → Fl :=
  (fSeq (fIf (eBl (e2 (p2 fEq) (eVar 0) (eC (.str [110, 117, 109, 98, 101, 114])))) (fRet (eFn F_number_in (eCons (eVar 1) eNil)))
  fNil)
  (fSeq (fIf (eBl (e2 (p2 fEq) (eVar 0) (eC (.str [108, 101, 116, 116, 101, 114])))) (fRet (eIf (eTru (eFn F_is_letter (eCons (eVar 1) eNil))) (eVar 1) (eC .non)))
  fNil)
  (fRet (eIf (eAndT (eBl (e2 (p2 fNe) (eVar 1) (eC (.str [])))) (eTru (eFn F_is_word (eCons (eC (.int 6)) (eCons (eVar 1) eNil))))) (eVar 1) (eC .non)))))
noncomputable def F_part_in : Fs := lockF (runF 2 b_part_in)
theorem F_part_in_eq : F_part_in = runF 2 b_part_in := lockF_eq _
abbrev st__law_next : Stmt := topS 25
abbrev n__law_next : List Str := ["_law_feed_here", "_law_sign", "_law_way"]
abbrev p__law_next : List Str := ["_law_feed_here"]
theorem sc__law_next : FnScope n__law_next p__law_next (defScope st__law_next) := ⟨rfl, rfl, rfl, by decide +kernel, rfl, by decide +kernel, by decide +kernel⟩
noncomputable def b__law_next : Rho → Fl :=
  (fSeq (fSet 1 (e2 qIx (eC (.str [97, 98, 99, 100, 101, 102, 65, 66, 67, 68, 69, 70])) (eFn F__law_draw (eCons (eVar 0) (eCons (eC (.int 12)) eNil)))))
  (fSeq (fSet 2 (eFn F__law_draw (eCons (eVar 0) (eCons (eC (.int 3)) eNil))))
  (fSeq (fIf (eBl (e2 (p2 fEq) (eVar 2) (eC (.int 0)))) (fRet (eTup (eCons (eC (.str [111, 117, 116])) (eCons (eFn F__law_number (eCons (eVar 0) eNil)) eNil))))
  fNil)
  (fSeq (fIf (eBl (e2 (p2 fEq) (eVar 2) (eC (.int 1)))) (fRet (eTup (eCons (eC (.str [105, 110])) (eCons (eFn F__law_number (eCons (eVar 0) eNil)) (eCons (eVar 1) eNil)))))
  fNil)
  (fRet (eTup (eCons (eC (.str [114, 105, 110, 103])) (eCons (eFn F__law_number (eCons (eVar 0) eNil)) (eCons (e2 (p2 fAdd) (eVar 1) (eFn F__law_some (eCons (eVar 0) (eCons (eC (.int 6)) (eCons (eC (.int 11)) eNil))))) (eCons (eFn F__law_number (eCons (eVar 0) eNil)) eNil))))))))))
noncomputable def F__law_next : Fs := lockF (runF 3 b__law_next)
theorem F__law_next_eq : F__law_next = runF 3 b__law_next := lockF_eq _
abbrev st_step_in : Stmt := topS 18
abbrev n_step_in : List Str := ["number", "words", "kinds", "found", "place", "kind", "part"]
abbrev p_step_in : List Str := ["number", "words"]
theorem sc_step_in : FnScope n_step_in p_step_in (defScope st_step_in) := ⟨rfl, rfl, rfl, by decide +kernel, rfl, by decide +kernel, by decide +kernel⟩
noncomputable def fb_step_in_1 : Rho → Fl :=
  (fSeq (fIf (eBl (e2 qGe (e2 (p2 fAdd) (eVar 4) (eC (.int 1))) (e1 (p1 fLen) (eVar 1)))) (fRaise "NoText" X_NoText (eCons (eVar 0) (eCons (e1 (p1 fLen) (eVar 1)) eNil)))
  fNil)
  (fSeq (fSet 6 (eFn F_part_in (eCons (eVar 5) (eCons (e2 qIx (eVar 1) (e2 (p2 fAdd) (eVar 4) (eC (.int 1)))) eNil))))
  (fSeq (fIf (eBl (e2 (p2 fIs) (eVar 6) (eC .non))) (fRaise "NoText" X_NoText (eCons (eVar 0) (eCons (e2 (p2 fAdd) (eVar 4) (eC (.int 1))) eNil)))
  fNil)
  (fExpr (eMut isOL (mOf fApp) 3 (eCons (eVar 6) eNil))))))
noncomputable def b_step_in : Rho → Fl :=
  (fSeq (fIf (eBl (e1 (p1 (fKnin tab_PARTS)) (e2 qIx (eVar 1) (eC (.int 0))))) (fRaise "NoText" X_NoText (eCons (eVar 0) (eCons (eC (.int 0)) eNil)))
  fNil)
  (fSeq (fSet 2 (e1 (p1 (fKd tab_PARTS)) (e2 qIx (eVar 1) (eC (.int 0)))))
  (fSeq (fSet 3 (eLst (eCons (e2 qIx (eVar 1) (eC (.int 0))) eNil)))
  (fSeq (fFor (eCons (eVar 2) eNil) mkEnumU (gTp 2 (gsCons (gNm 4) (gsCons (gNm 5) gsNil))) fb_step_in_1)
  (fSeq (fIf (eBl (e2 qGt (e1 (p1 fLen) (eVar 1)) (e1 (p1 fLen) (eVar 3)))) (fRaise "NoText" X_NoText (eCons (eVar 0) (eCons (e1 (p1 fLen) (eVar 3)) eNil)))
  fNil)
  (fRet (e1 (p1 fTupU) (eVar 3))))))))
noncomputable def F_step_in : Fs := lockF (runF 7 b_step_in)
theorem F_step_in_eq : F_step_in = runF 7 b_step_in := lockF_eq _
abbrev st_read_steps : Stmt := topS 19
abbrev n_read_steps : List Str := ["text", "number", "one"]
abbrev p_read_steps : List Str := ["text"]
theorem sc_read_steps : FnScope n_read_steps p_read_steps (defScope st_read_steps) := ⟨rfl, rfl, rfl, by decide +kernel, rfl, by decide +kernel, by decide +kernel⟩
noncomputable def ce_read_steps_1 : Rho → Rs Opd :=
  (eFn F_step_in (eCons (eVar 1) (eCons (eMeth isStr (p2 fSplit) (eVar 2) (eCons (eC (.str [32])) eNil)) eNil)))
noncomputable def b_read_steps : Rho → Fl :=
  (fSeq (fIf (eBl (e2 (p2 fEq) (eVar 0) (eC (.str [45])))) (fRet (eTup eNil))
  fNil)
  (fRet (e1 (p1 fTupU) (eLc (eCons (eMeth isStr (p2 fSplit) (eVar 0) (eCons (eC (.str [59, 32])) eNil)) eNil) mkEnum (gTp 2 (gsCons (gNm 1) (gsCons (gNm 2) gsNil))) eYes ce_read_steps_1 [1, 2]))))
noncomputable def F_read_steps : Fs := lockF (runF 3 b_read_steps)
theorem F_read_steps_eq : F_read_steps = runF 3 b_read_steps := lockF_eq _
abbrev st_law : Stmt := topS 27
abbrev n_law : List Str := ["_law_script", "_law_feed_here", "_law_k", "_law_steps", "_law_text_here", "_law_j"]
abbrev p_law : List Str := ["_law_script"]
theorem sc_law : FnScope n_law p_law (defScope st_law) := ⟨rfl, rfl, rfl, by decide +kernel, rfl, by decide +kernel, by decide +kernel⟩
noncomputable def ce_law_1 : Rho → Rs Opd :=
  (eFn F__law_next (eCons (eVar 1) eNil))
noncomputable def fb_law_2 : Rho → Fl :=
  (fSeq (fSet 3 (e1 (p1 fTupU) (eLc (eCons (eFn F__law_draw (eCons (eVar 1) (eCons (eC (.int 11)) eNil))) eNil) mkR1 (gNm 5) eYes ce_law_1 [5])))
  (fSeq (fSet 4 (eFn F__law_text (eCons (eVar 3) eNil)))
  (fSeq (fIf (eOrT (eBl (e2 (p2 fNe) (e1 (p1 fRepr) (eFn F_shown_steps (eCons (eVar 3) eNil))) (e1 (p1 fRepr) (eVar 4)))) (eBl (e2 (p2 fNe) (e1 (p1 fRepr) (eFn F_read_steps (eCons (eVar 4) eNil))) (e1 (p1 fRepr) (eVar 3))))) (fRet (eC (.bl false)))
  fNil)
  (fSeq (fIf (eBl (e2 (p2 fNe) (e1 (p1 fRepr) (eFn F_shown_steps (eCons (e1 (p1 fListU) (eVar 3)) eNil))) (e1 (p1 fRepr) (eVar 4)))) (fRet (eC (.bl false)))
  fNil)
  (fIf (eAndT (eBl (e2 (p2 fNe) (eVar 3) (eTup eNil))) (eBl (e2 (p2 fNe) (e1 (p1 fRepr) (eFn F_read_steps (eCons (eFn F__law_text (eCons (eSl (eVar 3) none (some (eC (.int 1)))) eNil)) eNil))) (e1 (p1 fRepr) (eSl (eVar 3) none (some (eC (.int 1)))))))) (fRet (eC (.bl false)))
  fNil)))))
noncomputable def b_law : Rho → Fl :=
  (fSeq (fSet 1 (eFn F__law_feed (eCons (eVar 0) eNil)))
  (fSeq (fFor (eCons (eC (.int 8)) eNil) mkR1 (gNm 2) fb_law_2)
  (fRet (eAnd (e2 (p2 fEq) (eLst (eCons (eFn F_shown_steps (eCons (eTup eNil) eNil)) (eCons (eFn F_shown_steps (eCons (eLst eNil) eNil)) eNil))) (eLst (eCons (eC (.str [45])) (eCons (eC (.str [45])) eNil)))) (e2 (p2 fEq) (e1 (p1 fRepr) (eFn F_read_steps (eCons (eC (.str [45])) eNil))) (eC (.str [40, 41])))))))
noncomputable def F_law : Fs := lockF (runF 6 b_law)
theorem F_law_eq : F_law = runF 6 b_law := lockF_eq _
structure Top (K : PySem.W.Frag) (mg : Str → Option Value) (w : World) : Prop where
  d_is_letter : DefAt K mg "is_letter" p_is_letter st_is_letter
  d_number_of : DefAt K mg "number_of" p_number_of st_number_of
  d_shown_steps : DefAt K mg "shown_steps" p_shown_steps st_shown_steps
  d_number_in : DefAt K mg "number_in" p_number_in st_number_in
  d__law_feed : DefAt K mg "_law_feed" p__law_feed st__law_feed
  d__law_draw : DefAt K mg "_law_draw" p__law_draw st__law_draw
  d__law_text : DefAt K mg "_law_text" p__law_text st__law_text
  d_is_word : DefAt K mg "is_word" p_is_word st_is_word
  d__law_some : DefAt K mg "_law_some" p__law_some st__law_some
  d__law_number : DefAt K mg "_law_number" p__law_number st__law_number
  d_part_in : DefAt K mg "part_in" p_part_in st_part_in
  d__law_next : DefAt K mg "_law_next" p__law_next st__law_next
  d_step_in : DefAt K mg "step_in" p_step_in st_step_in
  d_read_steps : DefAt K mg "read_steps" p_read_steps st_read_steps
  x_NoText : XAt K mg "NoText" ["step", "word"] "NoText.__init__" st_NoText
  b_RingError : BaseC K mg "RingError"
  z_all : mg "all" = none
  z_enumerate : mg "enumerate" = none
  z_int : mg "int" = none
  z_isinstance : mg "isinstance" = none
  z_len : mg "len" = none
  z_list : mg "list" = none
  z_range : mg "range" = none
  z_repr : mg "repr" = none
  z_str : mg "str" = none
  z_tuple : mg "tuple" = none
  c_BETWEEN : ∃ u, mg "BETWEEN" = some u ∧ RelV (.str "; ") u
  c_BIG : ∃ u, mg "BIG" = some u ∧ RelV (.str "ABCDEF") u
  c_FIGURES : ∃ u, mg "FIGURES" = some u ∧ RelV (.str "0123456789") u
  c_MOST_FIGURES : ∃ u, mg "MOST_FIGURES" = some u ∧ RelV (.int 4) u
  c_NO_STEPS : ∃ u, mg "NO_STEPS" = some u ∧ RelV (.str "-") u
  c_SMALL : ∃ u, mg "SMALL" = some u ∧ RelV (.str "abcdef") u
  c_PARTS : KTab K mg w "PARTS" tab_PARTS
section
variable {P : Program} {w : World} {K : PySem.W.Frag} {mg : Str → Option Value} {base : Heap}
theorem x_NoText (T : Top K mg w) : XCls P w K mg base "NoText" ["step", "word"] m_NoText :=
  xcls_of T.x_NoText sc_NoText (by decide) (by decide) fun fI cdv A l t H E => (pss_cons (ps_expr (pe_ownInit T.b_RingError (pa_cons (pv 0) (pa_cons (x_add (x_add (x_add (x_str [110, 111, 32, 115, 116, 101, 112, 32]) (x_str1 T.z_str (x_var 1))) (x_str [44, 32, 119, 111, 114, 100, 32])) (x_str1 T.z_str (x_var 2))) pa_nil)))) (pss_cons (ps_ost (pv 0) (pv 1)) (pss_cons (ps_ost (pv 0) (pv 2)) pss_nil)))
theorem ok_is_letter (T : Top K mg w) : DefOk P w K mg base 1 "is_letter" p_is_letter F_is_letter :=
  F_is_letter_eq ▸ def_at T.d_is_letter sc_is_letter fun f cdv A l t H E room gu => ((gs_one (gs_ret (ge_and (x_isA .str rfl T.z_isinstance T.z_str (x_var 0)) (ge_and (x_eq (hu64 room) (x_len T.z_len (x_var 0)) x_int) (ge_one (ge_or (x_in (hu64 room) (x_var 0) (x_gstr [97, 98, 99, 100, 101, 102] T.c_SMALL)) (ge_one (x_in (hu64 room) (x_var 0) (x_gstr [65, 66, 67, 68, 69, 70] T.c_BIG))))))))))
theorem ok_number_of (T : Top K mg w) : DefOk P w K mg base 1 "number_of" p_number_of F_number_of :=
  F_number_of_eq ▸ def_at T.d_number_of sc_number_of fun f cdv A l t H E room gu => ((gs_one (gs_ret (x_sindex (x_gstr [97, 98, 99, 100, 101, 102] T.c_SMALL) (x_lower (x_var 0)) ⟨rfl, rfl, rfl, rfl, rfl⟩))))
theorem ok_shown_steps (T : Top K mg w) : DefOk P w K mg base 1 "shown_steps" p_shown_steps F_shown_steps :=
  F_shown_steps_eq ▸ def_at T.d_shown_steps sc_shown_steps fun f cdv A l t H E room gu => ((gs_cons (gs_if (t_eq (hu64 room) (x_len T.z_len (x_var 0)) x_int) (gs_one (gs_ret (x_gstr [45] T.c_NO_STEPS)))
  gs_nil)
  (gs_one (gs_ret (x_join (x_gstr [59, 32] T.c_BETWEEN) (ge_lc (own := [("step", 2)]) rfl sc_shown_steps.nd (gi_seq (x_var 0)) (blkOk_by (N := n_shown_steps) (sc := defScope st_shown_steps) (own := [("step", 2)]) (by decide +kernel)) (by decide) (fun _ _ _ _ _ => (gg_name (i := 2) sc_shown_steps.nd rfl (by first | exact Or.inl rfl | exact Or.inr rfl))) (fun _ _ _ _ _ => gts_nil) (fun _ _ _ _ _ => (x_join (x_str [32]) (ge_lc (own := [("part", 1)]) rfl sc_shown_steps.nd (gi_seq (x_var 2)) (blkOk_by (N := n_shown_steps) (sc := ({ kind := PySem.ScopeKind.function, names := [(PySem.Str.ofString ".0", PySem.NameKind.local), (PySem.Str.ofString "step", PySem.NameKind.local)], isGenerator := false, isCoroutine := false, more := [] : PySem.Scope })) (own := [("part", 1)]) (by decide +kernel)) (by decide) (fun _ _ _ _ _ => (gg_name (i := 1) sc_shown_steps.nd rfl (by first | exact Or.inl rfl | exact Or.inr rfl))) (fun _ _ _ _ _ => gts_nil) (fun _ _ _ _ _ => (x_str1 T.z_str (x_var 1)))) ⟨rfl, rfl, rfl, rfl, rfl⟩))) ⟨rfl, rfl, rfl, rfl, rfl⟩)))))
theorem ok_number_in (T : Top K mg w) : DefOk P w K mg base 1 "number_in" p_number_in F_number_in :=
  F_number_in_eq ▸ def_at T.d_number_in sc_number_in fun f cdv A l t H E room gu => ((gs_cons (gs_if (gt_w (gw_or (gt_not (gt_chain op_le op_le (pn_cmpI fun i j => decide (i ≤ j)) (pn_cmpI fun i j => decide (i ≤ j)) x_int (x_len T.z_len (x_var 0)) (x_gint T.c_MOST_FIGURES))) (gw_or1 (gt_not (gt_tru (x_all rfl T.z_all (ge_lc (own := [("sign", 1)]) rfl sc_number_in.nd (gi_seq (x_var 0)) (blkOk_by (N := n_number_in) (sc := defScope st_number_in) (own := [("sign", 1)]) (by decide +kernel)) (by decide) (fun _ _ _ _ _ => (gg_name (i := 1) sc_number_in.nd rfl (by first | exact Or.inl rfl | exact Or.inr rfl))) (fun _ _ _ _ _ => gts_nil) (fun _ _ _ _ _ => (x_in (hu64 room) (x_var 1) (x_gstr [48, 49, 50, 51, 52, 53, 54, 55, 56, 57] T.c_FIGURES)))))))))) (gs_one (gs_ret x_non))
  gs_nil)
  (gs_cons (gs_if (gt_w (gw_and (t_eq (hu64 room) (x_ix (hu64 room) (x_var 0) x_int) (x_str [48])) (gw_and1 (t_ne (hu64 room) (x_var 0) (x_str [48]))))) (gs_one (gs_ret x_non))
  gs_nil)
  (gs_one (gs_ret (x_intT T.z_int (x_var 0)))))))
theorem ok__law_feed (T : Top K mg w) : DefOk P w K mg base 1 "_law_feed" p__law_feed F__law_feed :=
  F__law_feed_eq ▸ def_at T.d__law_feed sc__law_feed fun f cdv A l t H E room gu => ((gs_one (gs_ret (ge_disp (l := [((eC (.str [99, 101, 108, 108, 115])), (e2 (p2 fAdd) (e1 (p1 fListU) (eSl (eVar 0) none (some (eC (.int 63))))) (e2 qMul (eLst (eCons (eC (.int 0)) eNil)) (e1 (p1 fInt1) (e2 (p2 fEq) (e1 (p1 fLen) (eVar 0)) (eC (.int 0))))))), ((eC (.str [97, 116])), (eC (.int 0))), ((eC (.str [108, 101, 102, 116])), (eC (.int 0))), ((eC (.str [116, 117, 114, 110])), (eC (.int 0)))]) (pps_cons (x_str [99, 101, 108, 108, 115]) (x_add (x_listU rfl T.z_list (x_sl (x_var 0) gp_none (gp_some x_int))) (x_mulA (x_lst (ga_cons x_int ga_nil)) (x_int1 T.z_int (x_eq (hu64 room) (x_len T.z_len (x_var 0)) x_int)))) (pps_cons (x_str [97, 116]) x_int (pps_cons (x_str [108, 101, 102, 116]) x_int (pps_cons (x_str [116, 117, 114, 110]) x_int pps_nil)))) rfl rfl (fun z => nomatch z) (by decide)))))
theorem ok__law_draw (T : Top K mg w) : DefOk P w K mg base 1 "_law_draw" p__law_draw F__law_draw :=
  F__law_draw_eq ▸ def_at T.d__law_draw sc__law_draw fun f cdv A l t H E room gu => ((gs_cons (gs_sub (i := 0) (hu1 room) rfl (by first | exact Or.inl rfl | exact Or.inr (Or.inl rfl) | exact Or.inr (Or.inr rfl)) (x_add (x_ix (hu64 room) (x_var 0) (x_str [116, 117, 114, 110])) x_int) (x_str [116, 117, 114, 110]))
  (gs_cons (gs_if (t_eq (hu64 room) (x_ix (hu64 room) (x_var 0) (x_str [108, 101, 102, 116])) x_int) (gs_cons (gs_set (i := 2) sc__law_draw.nd rfl (by first | exact Or.inl rfl | exact Or.inr rfl) (x_ix (hu64 room) (x_ix (hu64 room) (x_var 0) (x_str [99, 101, 108, 108, 115])) (x_mod (x_ix (hu64 room) (x_var 0) (x_str [97, 116])) (x_len T.z_len (x_ix (hu64 room) (x_var 0) (x_str [99, 101, 108, 108, 115]))))))
  (gs_cons (gs_sub (i := 0) (hu1 room) rfl (by first | exact Or.inl rfl | exact Or.inr (Or.inl rfl) | exact Or.inr (Or.inr rfl)) (x_add (x_ix (hu64 room) (x_var 0) (x_str [97, 116])) x_int) (x_str [97, 116]))
  (gs_cons (gs_if (t_lt (x_var 2) (x_pow x_int x_int)) (gs_cons (gs_set (i := 3) sc__law_draw.nd rfl (by first | exact Or.inl rfl | exact Or.inr rfl) (x_mod (x_mulA (x_add (x_mod (x_var 2) x_int) (x_mulA x_int (x_ix (hu64 room) (x_var 0) (x_str [116, 117, 114, 110])))) x_int) x_int))
  (gs_cons (gs_set (i := 3) sc__law_draw.nd rfl (by first | exact Or.inl rfl | exact Or.inr rfl) (x_mod (x_mulA (x_add (x_div (x_var 3) x_int) (x_mulA x_int (x_ix (hu64 room) (x_var 0) (x_str [116, 117, 114, 110])))) x_int) x_int))
  (gs_one (gs_ret (x_mod (x_div (x_var 3) x_int) (x_var 1))))))
  gs_nil)
  (gs_one (gs_sub (i := 0) (hu1 room) rfl (by first | exact Or.inl rfl | exact Or.inr (Or.inl rfl) | exact Or.inr (Or.inr rfl)) (x_var 2) (x_str [108, 101, 102, 116]))))))
  gs_nil)
  (gs_cons (gs_set (i := 4) sc__law_draw.nd rfl (by first | exact Or.inl rfl | exact Or.inr rfl) (x_mod (x_ix (hu64 room) (x_var 0) (x_str [108, 101, 102, 116])) (x_var 1)))
  (gs_cons (gs_sub (i := 0) (hu1 room) rfl (by first | exact Or.inl rfl | exact Or.inr (Or.inl rfl) | exact Or.inr (Or.inr rfl)) (x_div (x_ix (hu64 room) (x_var 0) (x_str [108, 101, 102, 116])) (x_var 1)) (x_str [108, 101, 102, 116]))
  (gs_one (gs_ret (x_var 4))))))))
theorem ok__law_text (T : Top K mg w) : DefOk P w K mg base 1 "_law_text" p__law_text F__law_text :=
  F__law_text_eq ▸ def_at T.d__law_text sc__law_text fun f cdv A l t H E room gu => ((gs_cons (gs_set (i := 1) sc__law_text.nd rfl (by first | exact Or.inl rfl | exact Or.inr rfl) (x_str []))
  (gs_cons (gs_for psB rfl (gi_seq (x_var 0)) (gg_name (i := 2) sc__law_text.nd rfl (by first | exact Or.inl rfl | exact Or.inr rfl))
  (gs_cons (gs_if (t_ne (hu64 room) (x_var 1) (x_str [])) (gs_one (gs_set (i := 1) sc__law_text.nd rfl (by first | exact Or.inl rfl | exact Or.inr rfl) (x_add (x_var 1) (x_str [59, 32]))))
  gs_nil)
  (gs_cons (gs_set (i := 1) sc__law_text.nd rfl (by first | exact Or.inl rfl | exact Or.inr rfl) (x_add (x_var 1) (x_ix (hu64 room) (x_var 2) x_int)))
  (gs_one (gs_for psB rfl (gi_seq (x_sl (x_var 2) (gp_some x_int) gp_none)) (gg_name (i := 3) sc__law_text.nd rfl (by first | exact Or.inl rfl | exact Or.inr rfl))
  (gs_one (gs_set (i := 1) sc__law_text.nd rfl (by first | exact Or.inl rfl | exact Or.inr rfl) (x_add (x_add (x_var 1) (x_str [32])) (x_str1 T.z_str (x_var 3))))))))))
  (gs_one (gs_ret (ge_if (t_ne (hu64 room) (x_var 0) (x_tup ga_nil)) (x_var 1) (x_str [45])))))))
theorem ok_is_word (T : Top K mg w) (c_is_letter : DefOk P w K mg base 1 "is_letter" p_is_letter F_is_letter) (c_number_of : DefOk P w K mg base 1 "number_of" p_number_of F_number_of) : DefOk P w K mg base 2 "is_word" p_is_word F_is_word :=
  F_is_word_eq ▸ def_at T.d_is_word sc_is_word fun f cdv A l t H E room gu => ((gs_cons (gs_if (gt_not (gt_tru (x_isA .str rfl T.z_isinstance T.z_str (x_var 1)))) (gs_one (gs_ret x_bl))
  gs_nil)
  (gs_one (gs_ret (x_all rfl T.z_all (ge_lc (own := [("sign", 2)]) rfl sc_is_word.nd (gi_seq (x_var 1)) (blkOk_by (N := n_is_word) (sc := defScope st_is_word) (own := [("sign", 2)]) (by decide +kernel)) (by decide) (fun _ _ _ _ _ => (gg_name (i := 2) sc_is_word.nd rfl (by first | exact Or.inl rfl | exact Or.inr rfl))) (fun _ _ _ _ _ => gts_nil) (fun _ _ _ _ _ => (ge_and (x_fn c_is_letter room (by decide) gu tkQ (ga_cons (x_var 2) ga_nil) (ar_cons ar_nil)) (ge_one (x_lt (x_fn c_number_of room (by decide) gu tkQ (ga_cons (x_var 2) ga_nil) (ar_cons ar_nil)) (x_var 0)))))))))))
theorem ok__law_some (T : Top K mg w) (c__law_draw : DefOk P w K mg base 1 "_law_draw" p__law_draw F__law_draw) : DefOk P w K mg base 2 "_law_some" p__law_some F__law_some :=
  F__law_some_eq ▸ def_at T.d__law_some sc__law_some fun f cdv A l t H E room gu => ((gs_cons (gs_set (i := 3) sc__law_some.nd rfl (by first | exact Or.inl rfl | exact Or.inr rfl) (x_add (x_sl (x_str [97, 98, 99, 100, 101, 102]) gp_none (gp_some (x_var 1))) (x_sl (x_str [65, 66, 67, 68, 69, 70]) gp_none (gp_some (x_var 1)))))
  (gs_one (gs_ret (x_join (x_str []) (ge_lc (own := [("_law_k", 4)]) rfl sc__law_some.nd (gi_range1 rfl T.z_range (ga_cons (x_fn c__law_draw room (by decide) gu tkB (ga_cons (x_var 0) (ga_cons (x_add (x_var 2) x_int) ga_nil)) (ar_cons (ar_cons ar_nil))) ga_nil)) (blkOk_by (N := n__law_some) (sc := defScope st__law_some) (own := [("_law_k", 4)]) (by decide +kernel)) (by decide) (fun _ _ _ _ _ => (gg_name (i := 4) sc__law_some.nd rfl (by first | exact Or.inl rfl | exact Or.inr rfl))) (fun _ _ _ _ _ => gts_nil) (fun _ _ _ _ _ => (x_ix (hu64 room) (x_var 3) (x_fn c__law_draw room (by decide) gu tkQ (ga_cons (x_var 0) (ga_cons (x_mulA x_int (x_var 1)) ga_nil)) (ar_cons (ar_cons ar_nil)))))) ⟨rfl, rfl, rfl, rfl, rfl⟩)))))
theorem ok__law_number (T : Top K mg w) (c__law_draw : DefOk P w K mg base 1 "_law_draw" p__law_draw F__law_draw) : DefOk P w K mg base 2 "_law_number" p__law_number F__law_number :=
  F__law_number_eq ▸ def_at T.d__law_number sc__law_number fun f cdv A l t H E room gu => ((gs_one (gs_ret (x_ix (hu64 room) (x_lst (ga_cons x_int (ga_cons x_int (ga_cons x_int (ga_cons x_int (ga_cons x_int (ga_cons x_int (ga_cons x_int (ga_cons x_int (ga_cons (x_fn c__law_draw room (by decide) gu tkB (ga_cons (x_var 0) (ga_cons x_int ga_nil)) (ar_cons (ar_cons ar_nil))) ga_nil)))))))))) (x_fn c__law_draw room (by decide) gu tkB (ga_cons (x_var 0) (ga_cons x_int ga_nil)) (ar_cons (ar_cons ar_nil)))))))
theorem ok_part_in (T : Top K mg w) (c_is_word : DefOk P w K mg base 2 "is_word" p_is_word F_is_word) (c_is_letter : DefOk P w K mg base 1 "is_letter" p_is_letter F_is_letter) (c_number_in : DefOk P w K mg base 1 "number_in" p_number_in F_number_in) : DefOk P w K mg base 3 "part_in" p_part_in F_part_in :=
  F_part_in_eq ▸ def_at T.d_part_in sc_part_in fun f cdv A l t H E room gu => ((gs_cons (gs_if (t_eq (hu64 room) (x_var 0) (x_str [110, 117, 109, 98, 101, 114])) (gs_one (gs_ret (x_fn c_number_in room (by decide) gu tkB (ga_cons (x_var 1) ga_nil) (ar_cons ar_nil))))
  gs_nil)
  (gs_cons (gs_if (t_eq (hu64 room) (x_var 0) (x_str [108, 101, 116, 116, 101, 114])) (gs_one (gs_ret (ge_if (gt_tru (x_fn c_is_letter room (by decide) gu tkB (ga_cons (x_var 1) ga_nil) (ar_cons ar_nil))) (x_var 1) x_non)))
  gs_nil)
  (gs_one (gs_ret (ge_if (gt_w (gw_and (t_ne (hu64 room) (x_var 1) (x_str [])) (gw_and1 (gt_tru (x_fn c_is_word room (by decide) gu tkB (ga_cons x_int (ga_cons (x_var 1) ga_nil)) (ar_cons (ar_cons ar_nil))))))) (x_var 1) x_non))))))
theorem ok__law_next (T : Top K mg w) (c__law_number : DefOk P w K mg base 2 "_law_number" p__law_number F__law_number) (c__law_some : DefOk P w K mg base 2 "_law_some" p__law_some F__law_some) (c__law_draw : DefOk P w K mg base 1 "_law_draw" p__law_draw F__law_draw) : DefOk P w K mg base 3 "_law_next" p__law_next F__law_next :=
  F__law_next_eq ▸ def_at T.d__law_next sc__law_next fun f cdv A l t H E room gu => ((gs_cons (gs_set (i := 1) sc__law_next.nd rfl (by first | exact Or.inl rfl | exact Or.inr rfl) (x_ix (hu64 room) (x_str [97, 98, 99, 100, 101, 102, 65, 66, 67, 68, 69, 70]) (x_fn c__law_draw room (by decide) gu tkB (ga_cons (x_var 0) (ga_cons x_int ga_nil)) (ar_cons (ar_cons ar_nil)))))
  (gs_cons (gs_set (i := 2) sc__law_next.nd rfl (by first | exact Or.inl rfl | exact Or.inr rfl) (x_fn c__law_draw room (by decide) gu tkB (ga_cons (x_var 0) (ga_cons x_int ga_nil)) (ar_cons (ar_cons ar_nil))))
  (gs_cons (gs_if (t_eq (hu64 room) (x_var 2) x_int) (gs_one (gs_ret (x_tup (ga_cons (x_str [111, 117, 116]) (ga_cons (x_fn c__law_number room (by decide) gu tkB (ga_cons (x_var 0) ga_nil) (ar_cons ar_nil)) ga_nil)))))
  gs_nil)
  (gs_cons (gs_if (t_eq (hu64 room) (x_var 2) x_int) (gs_one (gs_ret (x_tup (ga_cons (x_str [105, 110]) (ga_cons (x_fn c__law_number room (by decide) gu tkB (ga_cons (x_var 0) ga_nil) (ar_cons ar_nil)) (ga_cons (x_var 1) ga_nil))))))
  gs_nil)
  (gs_one (gs_ret (x_tup (ga_cons (x_str [114, 105, 110, 103]) (ga_cons (x_fn c__law_number room (by decide) gu tkB (ga_cons (x_var 0) ga_nil) (ar_cons ar_nil)) (ga_cons (x_add (x_var 1) (x_fn c__law_some room (by decide) gu tkB (ga_cons (x_var 0) (ga_cons x_int (ga_cons x_int ga_nil))) (ar_cons (ar_cons (ar_cons ar_nil))))) (ga_cons (x_fn c__law_number room (by decide) gu tkB (ga_cons (x_var 0) ga_nil) (ar_cons ar_nil)) ga_nil))))))))))))
theorem ok_step_in (T : Top K mg w) (c_part_in : DefOk P w K mg base 3 "part_in" p_part_in F_part_in) : DefOk P w K mg base 4 "step_in" p_step_in F_step_in :=
  F_step_in_eq ▸ def_at T.d_step_in sc_step_in fun f cdv A l t H E room gu => (have x_NoText := x_NoText (P := P) (w := w) (base := base) T; (gs_cons (gs_if (t_notInK T.c_PARTS (x_ix (hu64 room) (x_var 1) x_int)) (gs_one (gs_raise x_NoText rfl room (by decide) tkB (ga_cons (x_var 0) (ga_cons x_int ga_nil))))
  gs_nil)
  (gs_cons (gs_set (i := 2) sc_step_in.nd rfl (by first | exact Or.inl rfl | exact Or.inr rfl) (x_ixK T.c_PARTS (x_ix (hu64 room) (x_var 1) x_int)))
  (gs_cons (gs_set (i := 3) sc_step_in.nd rfl (by first | exact Or.inl rfl | exact Or.inr rfl) (x_lst (ga_cons (x_ix (hu64 room) (x_var 1) x_int) ga_nil)))
  (gs_cons (gs_for psB rfl (gi_enumU rfl T.z_enumerate (ga_cons (x_var 2) ga_nil)) (gg_tup rfl (ggs_cons (gg_name (i := 4) sc_step_in.nd rfl (by first | exact Or.inl rfl | exact Or.inr rfl)) (ggs_cons (gg_name (i := 5) sc_step_in.nd rfl (by first | exact Or.inl rfl | exact Or.inr rfl)) ggs_nil)))
  (gs_cons (gs_if (t_ge (x_add (x_var 4) x_int) (x_len T.z_len (x_var 1))) (gs_one (gs_raise x_NoText rfl room (by decide) tkB (ga_cons (x_var 0) (ga_cons (x_len T.z_len (x_var 1)) ga_nil))))
  gs_nil)
  (gs_cons (gs_set (i := 6) sc_step_in.nd rfl (by first | exact Or.inl rfl | exact Or.inr rfl) (x_fn c_part_in room (by decide) gu tkB (ga_cons (x_var 5) (ga_cons (x_ix (hu64 room) (x_var 1) (x_add (x_var 4) x_int)) ga_nil)) (ar_cons (ar_cons ar_nil))))
  (gs_cons (gs_if (t_is (x_var 6) x_non) (gs_one (gs_raise x_NoText rfl room (by decide) tkB (ga_cons (x_var 0) (ga_cons (x_add (x_var 4) x_int) ga_nil))))
  gs_nil)
  (gs_one (gs_expr (x_append (i := 3) rfl (by first | exact Or.inl rfl | exact Or.inr (Or.inl rfl) | exact Or.inr (Or.inr rfl)) (x_var 6) ⟨rfl, rfl, rfl, rfl, rfl⟩)))))))
  (gs_cons (gs_if (t_gt (x_len T.z_len (x_var 1)) (x_len T.z_len (x_var 3))) (gs_one (gs_raise x_NoText rfl room (by decide) tkB (ga_cons (x_var 0) (ga_cons (x_len T.z_len (x_var 3)) ga_nil))))
  gs_nil)
  (gs_one (gs_ret (x_tupU rfl T.z_tuple (x_var 3))))))))))
theorem ok_read_steps (T : Top K mg w) (c_step_in : DefOk P w K mg base 4 "step_in" p_step_in F_step_in) : DefOk P w K mg base 5 "read_steps" p_read_steps F_read_steps :=
  F_read_steps_eq ▸ def_at T.d_read_steps sc_read_steps fun f cdv A l t H E room gu => ((gs_cons (gs_if (t_eq (hu64 room) (x_var 0) (x_gstr [45] T.c_NO_STEPS)) (gs_one (gs_ret (x_tup ga_nil)))
  gs_nil)
  (gs_one (gs_ret (x_tupU rfl T.z_tuple (ge_lc (own := [("number", 1), ("one", 2)]) rfl sc_read_steps.nd (gi_enum rfl T.z_enumerate (ga_cons (x_split (x_var 0) (x_str [59, 32]) ⟨rfl, rfl, rfl, rfl, rfl⟩) ga_nil)) (blkOk_by (N := n_read_steps) (sc := defScope st_read_steps) (own := [("number", 1), ("one", 2)]) (by decide +kernel)) (by decide) (fun _ _ _ _ _ => (gg_tup rfl (ggs_cons (gg_name (i := 1) sc_read_steps.nd rfl (by first | exact Or.inl rfl | exact Or.inr rfl)) (ggs_cons (gg_name (i := 2) sc_read_steps.nd rfl (by first | exact Or.inl rfl | exact Or.inr rfl)) ggs_nil)))) (fun _ _ _ _ _ => gts_nil) (fun _ _ _ _ _ => (x_fn c_step_in room (by decide) gu tkQ (ga_cons (x_var 1) (ga_cons (x_split (x_var 2) (x_str [32]) ⟨rfl, rfl, rfl, rfl, rfl⟩) ga_nil)) (ar_cons (ar_cons ar_nil))))))))))
theorem ok_law {f : Addr} {fd : FuncData} (F : L2.Fun K "law" "law" st_law f fd) (T : Top K mg w) (c_shown_steps : DefOk P w K mg base 1 "shown_steps" p_shown_steps F_shown_steps) (c_read_steps : DefOk P w K mg base 5 "read_steps" p_read_steps F_read_steps) (c__law_text : DefOk P w K mg base 1 "_law_text" p__law_text F__law_text) (c__law_draw : DefOk P w K mg base 1 "_law_draw" p__law_draw F__law_draw) (c__law_next : DefOk P w K mg base 3 "_law_next" p__law_next F__law_next) (c__law_feed : DefOk P w K mg base 1 "_law_feed" p__law_feed F__law_feed) : FnG P w K mg base 6 f fd p_law (spF (GB.ct0 K mg) 1 F_law) :=
  F_law_eq ▸ def_ok F sc_law fun cdv A l t H E room gu => ((gs_cons (gs_set (i := 1) sc_law.nd rfl (by first | exact Or.inl rfl | exact Or.inr rfl) (x_fn c__law_feed room (by decide) gu tkB (ga_cons (x_var 0) ga_nil) (ar_cons ar_nil)))
  (gs_cons (gs_for psB rfl (gi_range1 rfl T.z_range (ga_cons x_int ga_nil)) (gg_name (i := 2) sc_law.nd rfl (by first | exact Or.inl rfl | exact Or.inr rfl))
  (gs_cons (gs_set (i := 3) sc_law.nd rfl (by first | exact Or.inl rfl | exact Or.inr rfl) (x_tupU rfl T.z_tuple (ge_lc (own := [("_law_j", 5)]) rfl sc_law.nd (gi_range1 rfl T.z_range (ga_cons (x_fn c__law_draw room (by decide) gu tkB (ga_cons (x_var 1) (ga_cons x_int ga_nil)) (ar_cons (ar_cons ar_nil))) ga_nil)) (blkOk_by (N := n_law) (sc := defScope st_law) (own := [("_law_j", 5)]) (by decide +kernel)) (by decide) (fun _ _ _ _ _ => (gg_name (i := 5) sc_law.nd rfl (by first | exact Or.inl rfl | exact Or.inr rfl))) (fun _ _ _ _ _ => gts_nil) (fun _ _ _ _ _ => (x_fn c__law_next room (by decide) gu tkQ (ga_cons (x_var 1) ga_nil) (ar_cons ar_nil))))))
  (gs_cons (gs_set (i := 4) sc_law.nd rfl (by first | exact Or.inl rfl | exact Or.inr rfl) (x_fn c__law_text room (by decide) gu tkB (ga_cons (x_var 3) ga_nil) (ar_cons ar_nil)))
  (gs_cons (gs_if (gt_w (gw_or (t_ne (hu64 room) (x_repr (hu64 room) gu T.z_repr (x_fn c_shown_steps room (by decide) gu tkB (ga_cons (x_var 3) ga_nil) (ar_cons ar_nil))) (x_repr (hu64 room) gu T.z_repr (x_var 4))) (gw_or1 (t_ne (hu64 room) (x_repr (hu64 room) gu T.z_repr (x_fn c_read_steps room (by decide) gu tkB (ga_cons (x_var 4) ga_nil) (ar_cons ar_nil))) (x_repr (hu64 room) gu T.z_repr (x_var 3)))))) (gs_one (gs_ret x_bl))
  gs_nil)
  (gs_cons (gs_if (t_ne (hu64 room) (x_repr (hu64 room) gu T.z_repr (x_fn c_shown_steps room (by decide) gu tkB (ga_cons (x_listU rfl T.z_list (x_var 3)) ga_nil) (ar_cons ar_nil))) (x_repr (hu64 room) gu T.z_repr (x_var 4))) (gs_one (gs_ret x_bl))
  gs_nil)
  (gs_one (gs_if (gt_w (gw_and (t_ne (hu64 room) (x_var 3) (x_tup ga_nil)) (gw_and1 (t_ne (hu64 room) (x_repr (hu64 room) gu T.z_repr (x_fn c_read_steps room (by decide) gu tkB (ga_cons (x_fn c__law_text room (by decide) gu tkB (ga_cons (x_sl (x_var 3) gp_none (gp_some x_int)) ga_nil) (ar_cons ar_nil)) ga_nil) (ar_cons ar_nil))) (x_repr (hu64 room) gu T.z_repr (x_sl (x_var 3) gp_none (gp_some x_int))))))) (gs_one (gs_ret x_bl))
  gs_nil)))))))
  (gs_one (gs_ret (ge_and (x_eq (hu64 room) (x_lst (ga_cons (x_fn c_shown_steps room (by decide) gu tkB (ga_cons (x_tup ga_nil) ga_nil) (ar_cons ar_nil)) (ga_cons (x_fn c_shown_steps room (by decide) gu tkB (ga_cons (x_lst ga_nil) ga_nil) (ar_cons ar_nil)) ga_nil))) (x_lst (ga_cons (x_str [45]) (ga_cons (x_str [45]) ga_nil)))) (ge_one (x_eq (hu64 room) (x_repr (hu64 room) gu T.z_repr (x_fn c_read_steps room (by decide) gu tkB (ga_cons (x_str [45]) ga_nil) (ar_cons ar_nil))) (x_str [40, 41])))))))))
theorem ok_all {f : Addr} {fd : FuncData} (F : L2.Fun K "law" "law" st_law f fd) (T : Top K mg w) : FnG P w K mg base 6 f fd p_law (spF (GB.ct0 K mg) 1 F_law) := by
  have c_is_letter : DefOk P w K mg base 1 "is_letter" p_is_letter F_is_letter := ok_is_letter T
  have c_number_of : DefOk P w K mg base 1 "number_of" p_number_of F_number_of := ok_number_of T
  have c_shown_steps : DefOk P w K mg base 1 "shown_steps" p_shown_steps F_shown_steps := ok_shown_steps T
  have c_number_in : DefOk P w K mg base 1 "number_in" p_number_in F_number_in := ok_number_in T
  have c__law_feed : DefOk P w K mg base 1 "_law_feed" p__law_feed F__law_feed := ok__law_feed T
  have c__law_draw : DefOk P w K mg base 1 "_law_draw" p__law_draw F__law_draw := ok__law_draw T
  have c__law_text : DefOk P w K mg base 1 "_law_text" p__law_text F__law_text := ok__law_text T
  have c_is_word : DefOk P w K mg base 2 "is_word" p_is_word F_is_word := ok_is_word T c_is_letter c_number_of
  have c__law_some : DefOk P w K mg base 2 "_law_some" p__law_some F__law_some := ok__law_some T c__law_draw
  have c__law_number : DefOk P w K mg base 2 "_law_number" p__law_number F__law_number := ok__law_number T c__law_draw
  have c_part_in : DefOk P w K mg base 3 "part_in" p_part_in F_part_in := ok_part_in T c_is_word c_is_letter c_number_in
  have c__law_next : DefOk P w K mg base 3 "_law_next" p__law_next F__law_next := ok__law_next T c__law_number c__law_some c__law_draw
  have c_step_in : DefOk P w K mg base 4 "step_in" p_step_in F_step_in := ok_step_in T c_part_in
  have c_read_steps : DefOk P w K mg base 5 "read_steps" p_read_steps F_read_steps := ok_read_steps T c_step_in
  exact ok_law F T c_shown_steps c_read_steps c__law_text c__law_draw c__law_next c__law_feed
end
theorem all_mk {l : PySem.W.OpenLaw} {w : World} {K : PySem.W.Frag} {h : Heap} {mg : Str → Option Value} {fa : Addr} (X : K.In h) (G : h.Ns mainGlobals mg) (hfa : mg "law" = some (.ref fa)) {f0 : Addr} {f1 : Addr} {f2 : Addr} {f3 : Addr} {f4 : Addr} {f5 : Addr} {f6 : Addr} {f7 : Addr} {f8 : Addr} {f9 : Addr} {f10 : Addr} {f11 : Addr} {f12 : Addr} {f13 : Addr} {f14 : Addr}
    {od0 an0 : Option Addr} {sl0 : Array (Option Value)} {oc0 kV0 dc0 pm0 cd0 cc0 : Value}
    {od1 an1 : Option Addr} {sl1 : Array (Option Value)} {oc1 kV1 dc1 pm1 cd1 cc1 : Value}
    {od2 an2 : Option Addr} {sl2 : Array (Option Value)} {oc2 kV2 dc2 pm2 cd2 cc2 : Value}
    {od3 an3 : Option Addr} {sl3 : Array (Option Value)} {oc3 kV3 dc3 pm3 cd3 cc3 : Value}
    {od4 an4 : Option Addr} {sl4 : Array (Option Value)} {oc4 kV4 dc4 pm4 cd4 cc4 : Value}
    {od5 an5 : Option Addr} {sl5 : Array (Option Value)} {oc5 kV5 dc5 pm5 cd5 cc5 : Value}
    {od6 an6 : Option Addr} {sl6 : Array (Option Value)} {oc6 kV6 dc6 pm6 cd6 cc6 : Value}
    {od7 an7 : Option Addr} {sl7 : Array (Option Value)} {oc7 kV7 dc7 pm7 cd7 cc7 : Value}
    {od8 an8 : Option Addr} {sl8 : Array (Option Value)} {oc8 kV8 dc8 pm8 cd8 cc8 : Value}
    {od9 an9 : Option Addr} {sl9 : Array (Option Value)} {oc9 kV9 dc9 pm9 cd9 cc9 : Value}
    {od10 an10 : Option Addr} {sl10 : Array (Option Value)} {oc10 kV10 dc10 pm10 cd10 cc10 : Value}
    {od11 an11 : Option Addr} {sl11 : Array (Option Value)} {oc11 kV11 dc11 pm11 cd11 cc11 : Value}
    {od12 an12 : Option Addr} {sl12 : Array (Option Value)} {oc12 kV12 dc12 pm12 cd12 cc12 : Value}
    {od13 an13 : Option Addr} {sl13 : Array (Option Value)} {oc13 kV13 dc13 pm13 cd13 cc13 : Value}
    {od14 an14 : Option Addr} {sl14 : Array (Option Value)} {oc14 kV14 dc14 pm14 cd14 cc14 : Value}
    (a0 : PySem.W.nsIn K mainGlobals "is_letter" = some (some (.ref f0))) (l0 : K.lookup f0 = some ⟨oc0, od0, .func (PySem.W.fnOf "is_letter" "is_letter" (defArgs st_is_letter) (defBody st_is_letter) (defScope st_is_letter) .none kV0 dc0 pm0 an0 cd0 cc0), sl0⟩) (g0 : PySem.W.codeIn K cd0 "is_letter" = true) (k0 : PySem.W.keepIn K (.ref f0) = true)
    (a1 : PySem.W.nsIn K mainGlobals "number_of" = some (some (.ref f1))) (l1 : K.lookup f1 = some ⟨oc1, od1, .func (PySem.W.fnOf "number_of" "number_of" (defArgs st_number_of) (defBody st_number_of) (defScope st_number_of) .none kV1 dc1 pm1 an1 cd1 cc1), sl1⟩) (g1 : PySem.W.codeIn K cd1 "number_of" = true) (k1 : PySem.W.keepIn K (.ref f1) = true)
    (a2 : PySem.W.nsIn K mainGlobals "shown_steps" = some (some (.ref f2))) (l2 : K.lookup f2 = some ⟨oc2, od2, .func (PySem.W.fnOf "shown_steps" "shown_steps" (defArgs st_shown_steps) (defBody st_shown_steps) (defScope st_shown_steps) .none kV2 dc2 pm2 an2 cd2 cc2), sl2⟩) (g2 : PySem.W.codeIn K cd2 "shown_steps" = true) (k2 : PySem.W.keepIn K (.ref f2) = true)
    (a3 : PySem.W.nsIn K mainGlobals "number_in" = some (some (.ref f3))) (l3 : K.lookup f3 = some ⟨oc3, od3, .func (PySem.W.fnOf "number_in" "number_in" (defArgs st_number_in) (defBody st_number_in) (defScope st_number_in) .none kV3 dc3 pm3 an3 cd3 cc3), sl3⟩) (g3 : PySem.W.codeIn K cd3 "number_in" = true) (k3 : PySem.W.keepIn K (.ref f3) = true)
    (a4 : PySem.W.nsIn K mainGlobals "_law_feed" = some (some (.ref f4))) (l4 : K.lookup f4 = some ⟨oc4, od4, .func (PySem.W.fnOf "_law_feed" "_law_feed" (defArgs st__law_feed) (defBody st__law_feed) (defScope st__law_feed) .none kV4 dc4 pm4 an4 cd4 cc4), sl4⟩) (g4 : PySem.W.codeIn K cd4 "_law_feed" = true) (k4 : PySem.W.keepIn K (.ref f4) = true)
    (a5 : PySem.W.nsIn K mainGlobals "_law_draw" = some (some (.ref f5))) (l5 : K.lookup f5 = some ⟨oc5, od5, .func (PySem.W.fnOf "_law_draw" "_law_draw" (defArgs st__law_draw) (defBody st__law_draw) (defScope st__law_draw) .none kV5 dc5 pm5 an5 cd5 cc5), sl5⟩) (g5 : PySem.W.codeIn K cd5 "_law_draw" = true) (k5 : PySem.W.keepIn K (.ref f5) = true)
    (a6 : PySem.W.nsIn K mainGlobals "_law_text" = some (some (.ref f6))) (l6 : K.lookup f6 = some ⟨oc6, od6, .func (PySem.W.fnOf "_law_text" "_law_text" (defArgs st__law_text) (defBody st__law_text) (defScope st__law_text) .none kV6 dc6 pm6 an6 cd6 cc6), sl6⟩) (g6 : PySem.W.codeIn K cd6 "_law_text" = true) (k6 : PySem.W.keepIn K (.ref f6) = true)
    (a7 : PySem.W.nsIn K mainGlobals "is_word" = some (some (.ref f7))) (l7 : K.lookup f7 = some ⟨oc7, od7, .func (PySem.W.fnOf "is_word" "is_word" (defArgs st_is_word) (defBody st_is_word) (defScope st_is_word) .none kV7 dc7 pm7 an7 cd7 cc7), sl7⟩) (g7 : PySem.W.codeIn K cd7 "is_word" = true) (k7 : PySem.W.keepIn K (.ref f7) = true)
    (a8 : PySem.W.nsIn K mainGlobals "_law_some" = some (some (.ref f8))) (l8 : K.lookup f8 = some ⟨oc8, od8, .func (PySem.W.fnOf "_law_some" "_law_some" (defArgs st__law_some) (defBody st__law_some) (defScope st__law_some) .none kV8 dc8 pm8 an8 cd8 cc8), sl8⟩) (g8 : PySem.W.codeIn K cd8 "_law_some" = true) (k8 : PySem.W.keepIn K (.ref f8) = true)
    (a9 : PySem.W.nsIn K mainGlobals "_law_number" = some (some (.ref f9))) (l9 : K.lookup f9 = some ⟨oc9, od9, .func (PySem.W.fnOf "_law_number" "_law_number" (defArgs st__law_number) (defBody st__law_number) (defScope st__law_number) .none kV9 dc9 pm9 an9 cd9 cc9), sl9⟩) (g9 : PySem.W.codeIn K cd9 "_law_number" = true) (k9 : PySem.W.keepIn K (.ref f9) = true)
    (a10 : PySem.W.nsIn K mainGlobals "part_in" = some (some (.ref f10))) (l10 : K.lookup f10 = some ⟨oc10, od10, .func (PySem.W.fnOf "part_in" "part_in" (defArgs st_part_in) (defBody st_part_in) (defScope st_part_in) .none kV10 dc10 pm10 an10 cd10 cc10), sl10⟩) (g10 : PySem.W.codeIn K cd10 "part_in" = true) (k10 : PySem.W.keepIn K (.ref f10) = true)
    (a11 : PySem.W.nsIn K mainGlobals "_law_next" = some (some (.ref f11))) (l11 : K.lookup f11 = some ⟨oc11, od11, .func (PySem.W.fnOf "_law_next" "_law_next" (defArgs st__law_next) (defBody st__law_next) (defScope st__law_next) .none kV11 dc11 pm11 an11 cd11 cc11), sl11⟩) (g11 : PySem.W.codeIn K cd11 "_law_next" = true) (k11 : PySem.W.keepIn K (.ref f11) = true)
    (a12 : PySem.W.nsIn K mainGlobals "step_in" = some (some (.ref f12))) (l12 : K.lookup f12 = some ⟨oc12, od12, .func (PySem.W.fnOf "step_in" "step_in" (defArgs st_step_in) (defBody st_step_in) (defScope st_step_in) .none kV12 dc12 pm12 an12 cd12 cc12), sl12⟩) (g12 : PySem.W.codeIn K cd12 "step_in" = true) (k12 : PySem.W.keepIn K (.ref f12) = true)
    (a13 : PySem.W.nsIn K mainGlobals "read_steps" = some (some (.ref f13))) (l13 : K.lookup f13 = some ⟨oc13, od13, .func (PySem.W.fnOf "read_steps" "read_steps" (defArgs st_read_steps) (defBody st_read_steps) (defScope st_read_steps) .none kV13 dc13 pm13 an13 cd13 cc13), sl13⟩) (g13 : PySem.W.codeIn K cd13 "read_steps" = true) (k13 : PySem.W.keepIn K (.ref f13) = true)
    (a14 : PySem.W.nsIn K mainGlobals "law" = some (some (.ref f14))) (l14 : K.lookup f14 = some ⟨oc14, od14, .func (PySem.W.fnOf "law" "law" (defArgs st_law) (defBody st_law) (defScope st_law) .none kV14 dc14 pm14 an14 cd14 cc14), sl14⟩) (g14 : PySem.W.codeIn K cd14 "law" = true) (k14 : PySem.W.keepIn K (.ref f14) = true)
    (z0 : PySem.W.nsIn K mainGlobals "all" = some none)
    (z1 : PySem.W.nsIn K mainGlobals "enumerate" = some none)
    (z2 : PySem.W.nsIn K mainGlobals "int" = some none)
    (z3 : PySem.W.nsIn K mainGlobals "isinstance" = some none)
    (z4 : PySem.W.nsIn K mainGlobals "len" = some none)
    (z5 : PySem.W.nsIn K mainGlobals "list" = some none)
    (z6 : PySem.W.nsIn K mainGlobals "range" = some none)
    (z7 : PySem.W.nsIn K mainGlobals "repr" = some none)
    (z8 : PySem.W.nsIn K mainGlobals "str" = some none)
    (z9 : PySem.W.nsIn K mainGlobals "tuple" = some none)
    {u0 : Value} (v0 : PySem.W.nsIn K mainGlobals "BETWEEN" = some (some u0)) (r0 : RelV (.str "; ") u0)
    {u1 : Value} (v1 : PySem.W.nsIn K mainGlobals "BIG" = some (some u1)) (r1 : RelV (.str "ABCDEF") u1)
    {u2 : Value} (v2 : PySem.W.nsIn K mainGlobals "FIGURES" = some (some u2)) (r2 : RelV (.str "0123456789") u2)
    {u3 : Value} (v3 : PySem.W.nsIn K mainGlobals "MOST_FIGURES" = some (some u3)) (r3 : RelV (.int 4) u3)
    {u4 : Value} (v4 : PySem.W.nsIn K mainGlobals "NO_STEPS" = some (some u4)) (r4 : RelV (.str "-") u4)
    {u5 : Value} (v5 : PySem.W.nsIn K mainGlobals "SMALL" = some (some u5)) (r5 : RelV (.str "abcdef") u5)
    {A_NoText : Addr}
    {A_RingError : Addr}
    {I_NoText N_NoText : Addr} {nm_NoText qn_NoText : Str} {bs_NoText : List Value} {sn_NoText : List Str} {su_NoText : List Value} {ab_NoText : Bool} {co_NoText : Option Bool} {dd_NoText : Option Addr} {m0_NoText m1_NoText m2_NoText m3_NoText m5_NoText : Option Value} {xod_NoText xan_NoText : Option Addr} {xsl_NoText : Array (Option Value)} {xoc_NoText xkV_NoText xdc_NoText xpm_NoText xcd_NoText xcc_NoText : Value}
    {A_PARTS : Addr} {es_PARTS : Array DictEntry} {n_PARTS : Nat}
    (ka_NoText : PySem.W.nsIn K mainGlobals "NoText" = some (some (.ref A_NoText)))
    (ka_RingError : PySem.W.nsIn K mainGlobals "RingError" = some (some (.ref A_RingError)))
    (kr_RingError : PySem.W.readsIn K A_RingError (.type "type") = true)
    (ks_RingError : PySem.W.specialIn K (.ref A_RingError) "__getattribute__" = some (some (.builtin "type.__getattribute__")))
    (ki_RingError : PySem.W.findCls K (.ref A_RingError) (.type "type") "__init__" = some (.val (.builtin "ValueError.__init__")))
    (xL_NoText : K.lookup A_NoText = some (excClassObj nm_NoText qn_NoText A_NoText N_NoText bs_NoText [.ref A_RingError, .type "ValueError", .type "Exception", .type "BaseException", .type "object"] true sn_NoText su_NoText ab_NoText co_NoText dd_NoText m0_NoText m1_NoText m2_NoText m3_NoText m5_NoText "ValueError.__new__"))
    (xs_NoText : PySem.W.findIn K (.ref A_NoText) "__setattr__" = some (some (.builtin "object.__setattr__")))
    (xe_NoText : PySem.W.subIn K (.ref A_NoText) (.type "BaseException") = some true)
    (xt_NoText : PySem.W.typeIn K (.ref A_NoText) = some (.type "type"))
    (xk_NoText : PySem.W.keepIn K (.ref A_NoText) = true)
    (xi_NoText : PySem.W.findIn K (.ref A_NoText) "__init__" = some (some (.ref I_NoText)))
    (xj_NoText : PySem.W.typeIn K (.ref I_NoText) = some (.type "function"))
    (xl_NoText : K.lookup I_NoText = some ⟨xoc_NoText, xod_NoText, .func (PySem.W.fnOf "__init__" "NoText.__init__" (defArgs st_NoText) (defBody st_NoText) (defScope st_NoText) .none xkV_NoText xdc_NoText xpm_NoText xan_NoText xcd_NoText xcc_NoText), xsl_NoText⟩)
    (xg_NoText : PySem.W.codeIn K xcd_NoText "NoText.__init__" = true)
    (xq_NoText : PySem.W.keepIn K (.ref I_NoText) = true)
    (xf_NoText_step : PySem.W.findIn K (.ref A_NoText) "step" = some none)
    (xf_NoText_word : PySem.W.findIn K (.ref A_NoText) "word" = some none)
    (tk_PARTS : PySem.W.nsIn K mainGlobals "PARTS" = some (some (.ref A_PARTS)))
    (tl_PARTS : K.lookup A_PARTS = some ⟨.type "dict", none, .dict es_PARTS n_PARTS, #[]⟩)
    (tq_PARTS : PySem.W.KeysLit w.params es_PARTS.toList)
    (to_PARTS : (A_PARTS == sysModules) = false)
    (tp_PARTS : Paired (fun (e : DictEntry) (z : List Nat × List (List Nat)) => (∃ t, e.key = .str ⟨z.1.toArray⟩ t) ∧ TupC K e.val z.2) es_PARTS.toList tab_PARTS)
    : ∃ fd : FuncData, (∀ (s : Shared) (v : Value), BindsTo s fd ⟨[v], []⟩ [("_law_script", v)]) ∧ ∀ base : Heap, K.In base → base.Ns mainGlobals mg → FnG l.prog w K mg base 6 fa fd ["_law_script"] (spF (GB.ct0 K mg) 1 F_law) := by
  have e := hfa.symm.trans (PySem.W.mg_of X G a14)
  cases e
  have F0 := fun_mk (st := st_is_letter) l0 g0 k0
  have b0 := F0.binds (ps := p_is_letter) fun _ _ _ _ _ _ us hl => match us, hl with | [_], _ => rfl
  have F1 := fun_mk (st := st_number_of) l1 g1 k1
  have b1 := F1.binds (ps := p_number_of) fun _ _ _ _ _ _ us hl => match us, hl with | [_], _ => rfl
  have F2 := fun_mk (st := st_shown_steps) l2 g2 k2
  have b2 := F2.binds (ps := p_shown_steps) fun _ _ _ _ _ _ us hl => match us, hl with | [_], _ => rfl
  have F3 := fun_mk (st := st_number_in) l3 g3 k3
  have b3 := F3.binds (ps := p_number_in) fun _ _ _ _ _ _ us hl => match us, hl with | [_], _ => rfl
  have F4 := fun_mk (st := st__law_feed) l4 g4 k4
  have b4 := F4.binds (ps := p__law_feed) fun _ _ _ _ _ _ us hl => match us, hl with | [_], _ => rfl
  have F5 := fun_mk (st := st__law_draw) l5 g5 k5
  have b5 := F5.binds (ps := p__law_draw) fun _ _ _ _ _ _ us hl => match us, hl with | [_, _], _ => rfl
  have F6 := fun_mk (st := st__law_text) l6 g6 k6
  have b6 := F6.binds (ps := p__law_text) fun _ _ _ _ _ _ us hl => match us, hl with | [_], _ => rfl
  have F7 := fun_mk (st := st_is_word) l7 g7 k7
  have b7 := F7.binds (ps := p_is_word) fun _ _ _ _ _ _ us hl => match us, hl with | [_, _], _ => rfl
  have F8 := fun_mk (st := st__law_some) l8 g8 k8
  have b8 := F8.binds (ps := p__law_some) fun _ _ _ _ _ _ us hl => match us, hl with | [_, _, _], _ => rfl
  have F9 := fun_mk (st := st__law_number) l9 g9 k9
  have b9 := F9.binds (ps := p__law_number) fun _ _ _ _ _ _ us hl => match us, hl with | [_], _ => rfl
  have F10 := fun_mk (st := st_part_in) l10 g10 k10
  have b10 := F10.binds (ps := p_part_in) fun _ _ _ _ _ _ us hl => match us, hl with | [_, _], _ => rfl
  have F11 := fun_mk (st := st__law_next) l11 g11 k11
  have b11 := F11.binds (ps := p__law_next) fun _ _ _ _ _ _ us hl => match us, hl with | [_], _ => rfl
  have F12 := fun_mk (st := st_step_in) l12 g12 k12
  have b12 := F12.binds (ps := p_step_in) fun _ _ _ _ _ _ us hl => match us, hl with | [_, _], _ => rfl
  have F13 := fun_mk (st := st_read_steps) l13 g13 k13
  have b13 := F13.binds (ps := p_read_steps) fun _ _ _ _ _ _ us hl => match us, hl with | [_], _ => rfl
  have F14 := fun_mk (st := st_law) l14 g14 k14
  have T : Top K mg w := {
    d_is_letter := ⟨_, _, F0, PySem.W.mg_of X G a0, b0⟩
    d_number_of := ⟨_, _, F1, PySem.W.mg_of X G a1, b1⟩
    d_shown_steps := ⟨_, _, F2, PySem.W.mg_of X G a2, b2⟩
    d_number_in := ⟨_, _, F3, PySem.W.mg_of X G a3, b3⟩
    d__law_feed := ⟨_, _, F4, PySem.W.mg_of X G a4, b4⟩
    d__law_draw := ⟨_, _, F5, PySem.W.mg_of X G a5, b5⟩
    d__law_text := ⟨_, _, F6, PySem.W.mg_of X G a6, b6⟩
    d_is_word := ⟨_, _, F7, PySem.W.mg_of X G a7, b7⟩
    d__law_some := ⟨_, _, F8, PySem.W.mg_of X G a8, b8⟩
    d__law_number := ⟨_, _, F9, PySem.W.mg_of X G a9, b9⟩
    d_part_in := ⟨_, _, F10, PySem.W.mg_of X G a10, b10⟩
    d__law_next := ⟨_, _, F11, PySem.W.mg_of X G a11, b11⟩
    d_step_in := ⟨_, _, F12, PySem.W.mg_of X G a12, b12⟩
    d_read_steps := ⟨_, _, F13, PySem.W.mg_of X G a13, b13⟩
    z_all := PySem.W.mg_none_of X G z0
    z_enumerate := PySem.W.mg_none_of X G z1
    z_int := PySem.W.mg_none_of X G z2
    z_isinstance := PySem.W.mg_none_of X G z3
    z_len := PySem.W.mg_none_of X G z4
    z_list := PySem.W.mg_none_of X G z5
    z_range := PySem.W.mg_none_of X G z6
    z_repr := PySem.W.mg_none_of X G z7
    z_str := PySem.W.mg_none_of X G z8
    z_tuple := PySem.W.mg_none_of X G z9
    c_BETWEEN := ⟨_, PySem.W.mg_of X G v0, r0⟩
    c_BIG := ⟨_, PySem.W.mg_of X G v1, r1⟩
    c_FIGURES := ⟨_, PySem.W.mg_of X G v2, r2⟩
    c_MOST_FIGURES := ⟨_, PySem.W.mg_of X G v3, r3⟩
    c_NO_STEPS := ⟨_, PySem.W.mg_of X G v4, r4⟩
    c_SMALL := ⟨_, PySem.W.mg_of X G v5, r5⟩
    b_RingError := ⟨A_RingError, PySem.W.mg_of X G ka_RingError, kr_RingError, ks_RingError, ki_RingError⟩
    x_NoText := ⟨A_NoText, I_NoText, _, PySem.W.mg_of X G ka_NoText, ⟨⟨nm_NoText, qn_NoText, N_NoText, bs_NoText, _, sn_NoText, su_NoText, ab_NoText, co_NoText, dd_NoText, m0_NoText, m1_NoText, m2_NoText, m3_NoText, m5_NoText, xL_NoText, by show PySem.HandSPX.refsVE [.type "ValueError", .type "Exception", .type "BaseException", .type "object"] = true; decide +kernel⟩, xs_NoText, xe_NoText, xt_NoText, xk_NoText⟩, xi_NoText, xj_NoText, fun f hf => by simp only [List.mem_cons, List.not_mem_nil, or_false] at hf; rcases hf with rfl | rfl <;> assumption, fun_mk (st := st_NoText) xl_NoText xg_NoText xq_NoText, (fun_mk (st := st_NoText) xl_NoText xg_NoText xq_NoText).binds (ps := n_NoText) fun _ _ _ _ _ _ us hl => match us, hl with | [_, _, _], _ => rfl⟩
    c_PARTS := tab_mk (PySem.W.mg_of X G tk_PARTS) tl_PARTS tq_PARTS to_PARTS tp_PARTS
  }
  refine ⟨PySem.W.fnOf "law" "law" (defArgs st_law) (defBody st_law) (defScope st_law) .none kV14 dc14 pm14 an14 cd14 cc14, fun s v => .of_eq rfl, fun base _ _ => ?_⟩
  exact ok_all (P := l.prog) (w := w) (base := base) F14 T
end W_k11


namespace W_k11
open PySem PySem.Spec PyProof.Rows L2 GB
theorem is_letter_eq (d : D) (hl : ∀ w, d = .str w → w.length ≤ 1000000) : F_is_letter [.fz d] = .ok (.fz (.bl (letterD d))) [.fz d] := by
  rw [F_is_letter_eq]
  simp only [s_runF, b_is_letter]
  cases d with
  | str w =>
    have hb : big w.length = true := big_of (by have := hl w rfl; omega)
    match w with
    | [] => simp [letterD, hb]
    | [c] =>
      have e : letterD (.str [c]) = decide (c ∈ [97, 98, 99, 100, 101, 102] ∨ c ∈ [65, 66, 67, 68, 69, 70]) := by
        show isL c = _
        rw [Bool.eq_iff_iff, isL_iff, decide_eq_true_iff]
        simp
        omega
      rw [e]
      by_cases h : c ∈ [97, 98, 99, 100, 101, 102]
      · simp [hb, h]
      · simp [hb, h]
    | a :: b :: w =>
      have : ¬ (w.length : Int) + 1 + 1 = 1 := by omega
      rw [List.length_cons, List.length_cons] at hb
      simp [letterD, hb, this]
  | non => simp [letterD, isA_strD, isStrD]
  | bl b => simp [letterD, isA_strD, isStrD]
  | int b => simp [letterD, isA_strD, isStrD]
  | tup b => simp [letterD, isA_strD, isStrD]
  | lst b => simp [letterD, isA_strD, isStrD]
  | scr b => simp [letterD, isA_strD, isStrD]
  | dic b c => simp [letterD, isA_strD, isStrD]
theorem low1 {c : Nat} (h : isL c = true) : fLower (.fz (.str [c])) = some (.fz (.str [97 + num c])) := by
  have h := isL_iff.mp h
  have z1 : c < 128 := by omega
  have z2 : lo1 c = 97 + num c := by
    unfold lo1 num
    split <;> split <;> omega
  simp [fLower, lowL, z1, z2]
theorem num_lt {c : Nat} (h : isL c = true) : num c < 6 := by
  have h := isL_iff.mp h
  unfold num
  split <;> omega
theorem number_of_eq {c : Nat} (h : isL c = true) : F_number_of [.fz (.str [c])] = .ok (.fz (.int (num c : Nat))) [.fz (.str [c])] := by
  have l1 := low1 h
  have key : ∀ j, j < 6 → subIx [97 + j] [97, 98, 99, 100, 101, 102] = some j := by
    intro j hj
    rw [subIx_one]
    have : j = 0 ∨ j = 1 ∨ j = 2 ∨ j = 3 ∨ j = 4 ∨ j = 5 := by omega
    rcases this with rfl | rfl | rfl | rfl | rfl | rfl <;> rfl
  have ix : fSIndex (.fz (.str [97, 98, 99, 100, 101, 102])) (.fz (.str [97 + num c])) = some (.fz (.int (num c : Nat))) := by
    show (subIx [97 + num c] [97, 98, 99, 100, 101, 102]).map (fun n => S.fz (.int n)) = _
    rw [key _ (num_lt h)]; rfl
  rw [F_number_of_eq]
  simp only [s_runF, b_number_of]
  simp [l1, ix]
theorem is_word_turn {x0 x1 : Option S} {m c : Nat} (hm : m ≤ 6) : cturn (gNm 2) eYes ce_is_word_1 [2] (.str [c]) [some (.fz (.int (m : Nat))), x1, none] = some ([.bl (inW m c)], [some (.fz (.int (m : Nat))), x1, none]) := by
  have il := is_letter_eq (.str [c]) (fun w h => by cases h; simp)
  have e : letterD (.str [c]) = isL c := rfl
  rw [inW_eq hm]
  rw [e] at il
  cases h : isL c with
  | false =>
    rw [h] at il
    simp [cturn, ce_is_word_1, il]
  | true =>
    rw [h] at il
    have no := number_of_eq h
    simp [cturn, ce_is_word_1, il, no]
theorem is_word_eq {m : Nat} (hm : m ≤ 6) (d : D) (hl : ∀ w, d = .str w → w.length ≤ 1000000) : F_is_word [.fz (.int (m : Nat)), .fz d] = .ok (.fz (.bl (wordD m d))) [.fz (.int (m : Nat)), .fz d] := by
  rw [F_is_word_eq]
  simp only [s_runF, b_is_word]
  cases d with
  | str w =>
    have hw := hl w rfl
    have it : itemsOf (.fz (.str w)) = some (w.map sgD) := rfl
    have lc : cmpL (gNm 2) eYes ce_is_word_1 [2] (w.map sgD) [some (.fz (.int (m : Nat))), some (.fz (.str w)), none] [] = .ok ((w.map (inW m)).map D.bl) [some (.fz (.int (m : Nat))), some (.fz (.str w)), none] := by
      rw [cmpL_one (fun d => match d with | .str [c] => .bl (inW m c) | d => d) (by rw [List.length_map]; omega)]
      · rw [List.map_map, List.map_map]; rfl
      · intro d hd
        obtain ⟨c, hc, rfl⟩ := List.mem_map.mp hd
        exact is_word_turn (x0 := none) hm
    have el : eLc (eCons (eVar 1) eNil) mkSeq (gNm 2) eYes ce_is_word_1 [2] [some (.fz (.int (m : Nat))), some (.fz (.str w)), none] = _ :=
      lc_lfz (i := 1) (d := .str w) (r1 := [some (.fz (.int (m : Nat))), some (.fz (.str w)), none]) (by simp) rfl it (by simp) lc
    have al := all_bls (bs := w.map (inW m))
    have e : (w.map (inW m)).all id = wordD m (.str w) := by rw [List.all_map]; rfl
    rw [e] at al
    generalize (w.map (inW m)).map D.bl = L at *
    simp [-s_eLc, el, al]
  | non => simp [wordD, isA_strD, isStrD]
  | bl b => simp [wordD, isA_strD, isStrD]
  | int b => simp [wordD, isA_strD, isStrD]
  | tup b => simp [wordD, isA_strD, isStrD]
  | lst b => simp [wordD, isA_strD, isStrD]
  | scr b => simp [wordD, isA_strD, isStrD]
  | dic b c => simp [wordD, isA_strD, isStrD]
theorem feed_eq (ns : List Int) : ∃ k, Feed k ∧ F__law_feed [.fz (.scr (ns.map D.int))] = .ok (.od k) [.fz (.scr (ns.map D.int))] := by
  have fs : fSl (.fz (.scr (ns.map D.int))) (.fz .non) (.fz (.int 63)) = some (.ol ((ns.take 63).map D.int)) := by
    show (asLs (.fz (.scr (ns.map D.int)))).map (fun ds => S.ol (GB.cutD ds none (some 63))) = _
    rw [← cut63]; rfl
  have hf : ∀ n : Nat, fAdd (.ol ((ns.take 63).map D.int)) (.ol (List.replicate n [D.int 0]).flatten) = some (.ol ((ns.take 63 ++ List.replicate n 0).map D.int)) ∨ ¬ n ≤ 1 := by
    intro n
    by_cases hn : n ≤ 1
    · left
      show (if big (((ns.take 63).map D.int).length + ((List.replicate n [D.int 0]).flatten).length) then some (S.ol (((ns.take 63).map D.int) ++ (List.replicate n [D.int 0]).flatten)) else none) = _
      have hl : (ns.take 63).length ≤ 63 := List.length_take_le 63 ns
      rw [if_pos (big_of (by rw [List.length_map, rep_len, List.length_singleton]; omega))]
      have : (List.replicate n [D.int 0]).flatten = (List.replicate n (0 : Int)).map D.int := by
        match n with
        | 0 => rfl
        | 1 => rfl
        | n + 2 => omega
      rw [this, List.map_append]
    · exact .inr hn
  rw [F__law_feed_eq]
  by_cases he : ns = []
  · subst he
    refine ⟨fd [0] 0 0 0, ⟨_, _, _, _, by simp, rfl⟩, ?_⟩
    have h1 := (hf 1).resolve_right (by omega)
    simp at h1 fs
    simp [b__law_feed, eDisp, eKVs, fs, fList, asQ, asLs, asL, fInt1, h1, GB.pairD, keyD]
    rfl
  · have hl : ¬ ns.length = 0 := fun z => he (List.length_eq_zero_iff.mp z)
    have h1 := (hf 0).resolve_right (by omega)
    refine ⟨fd (ns.take 63) 0 0 0, ⟨_, _, _, _, by rw [List.length_take]; omega, rfl⟩, ?_⟩
    simp only [List.replicate_zero, List.append_nil, List.flatten_nil] at h1
    simp [b__law_feed, eDisp, eKVs, fs, fList, asQ, asLs, asL, fInt1, hl, he, GB.pairD, keyD, -List.map_take]
    rw [h1]
    simp [-List.map_take, GB.pairD, keyD]
    rfl
theorem draw_key (cells : List Int) (a b c many : Int) (h0 : 0 < cells.length) (h1 : 0 < many) (h2 : many < 1073741824) (P : FR → Prop) (hP : ∀ x a' b' c', P (.ok (.fz (.int (x % many))) [.bd (fd cells a' b' c'), .fz (.int many)])) :
    P (F__law_draw [.bd (fd cells a b c), .fz (.int many)]) := by
  rw [F__law_draw_eq]
  by_cases hb : b = 0
  · subst hb
    obtain ⟨x, hx, hm⟩ := atI_mod (l := cells.map D.int) (by simpa using h0) a
    rw [List.length_map] at hx
    obtain ⟨y, hy, rfl⟩ := List.mem_map.mp hm
    by_cases z1 : y < 1000000000000000000
    · simp [b__law_draw, h0, h1, h2, fModI, fDivI, fPowI, hx, z1]
      exact hP _ _ _ _
    · simp [b__law_draw, h0, h1, h2, fModI, fDivI, fPowI, hx, z1]
      exact hP _ _ _ _
  · simp [b__law_draw, h0, h1, h2, fModI, fDivI, fPowI, hb]
    exact hP _ _ _ _
theorem draw_eq {k : List (Key × D)} (t : Feed k) {many : Int} (h1 : 0 < many) (h2 : many < 1073741824) : ∃ v k', 0 ≤ v ∧ v < many ∧ Feed k' ∧ F__law_draw [.bd k, .fz (.int many)] = .ok (.fz (.int v)) [.bd k', .fz (.int many)] := by
  obtain ⟨cells, a, b, c, h0, rfl⟩ := t
  refine draw_key cells a b c many h0 h1 h2 (fun z => ∃ v k', 0 ≤ v ∧ v < many ∧ Feed k' ∧ z = .ok (.fz (.int v)) [.bd k', .fz (.int many)]) fun x a' b' c' => ?_
  exact ⟨_, _, Int.emod_nonneg _ (by omega), Int.emod_lt_of_pos _ h1, ⟨cells, a', b', c', h0, rfl⟩, rfl⟩
theorem dr {k : List (Key × D)} (t : Feed k) {m : Nat} (h : 0 < m) (h2 : m < 1000) : ∃ n k', n < m ∧ Feed k' ∧ F__law_draw [.bd k, .fz (.int (m : Nat))] = .ok (.fz (.int (n : Nat))) [.bd k', .fz (.int (m : Nat))] := by
  obtain ⟨v, k2, h0, hv, t2, y2⟩ := draw_eq t (many := (m : Int)) (by omega) (by omega)
  obtain ⟨n, rfl⟩ := Int.eq_ofNat_of_zero_le h0
  exact ⟨n, k2, by omega, t2, y2⟩
theorem some_turn {k : List (Key × D)} (t : Feed k) {m : Nat} (h1 : 1 ≤ m) (h6 : m ≤ 6) {mo d : D} : ∃ k' c, Feed k' ∧ c ∈ sgn m ∧
    cturn (gNm 4) eYes ce__law_some_1 [4] d [some (.bd k), some (.fz (.int (m : Nat))), some (.fz mo), some (.fz (.str (sgn m))), none] = some ([sgD c], [some (.bd k'), some (.fz (.int (m : Nat))), some (.fz mo), some (.fz (.str (sgn m))), none]) := by
  obtain ⟨v, k', h0, hv, t', y⟩ := draw_eq t (many := 2 * (m : Int)) (by omega) (by omega)
  obtain ⟨n, rfl⟩ := Int.eq_ofNat_of_zero_le h0
  have hl := sgn_len h6
  have hn : n < (sgn m).length := by omega
  have a1 : atI (sgn m) (n : Int) = some (sgn m)[n] := by rw [atI_n]; exact List.getElem?_eq_getElem hn
  have hb : big (sgn m).length = true := big_of (by omega)
  refine ⟨k', (sgn m)[n], t', List.getElem_mem hn, ?_⟩
  simp [cturn, ce__law_some_1, y, a1, hb, sgD]
theorem some_eqM {k : List (Key × D)} (t : Feed k) {m mo : Nat} (h1 : 1 ≤ m) (h6 : m ≤ 6) (hmo : mo ≤ 1000) : ∃ k' w, Feed k' ∧ (∀ c ∈ w, c ∈ sgn m) ∧ w.length ≤ mo ∧
    F__law_some [.bd k, .fz (.int (m : Nat)), .fz (.int (mo : Nat))] = .ok (.fz (.str w)) [.bd k', .fz (.int (m : Nat)), .fz (.int (mo : Nat))] := by
  obtain ⟨v, k1, h0, hv, t1, y⟩ := draw_eq t (many := (mo : Int) + 1) (by omega) (by omega)
  obtain ⟨n, rfl⟩ := Int.eq_ofNat_of_zero_le h0
  obtain ⟨r', acc, yc, k2, cs, t2, hw, hlen, rfl, rfl⟩ := cmpL_go (fg := gNm 4) (ft := eYes) (fe := ce__law_some_1) (vs := [4]) (fun i r acc => ∃ k cs, Feed k ∧ (∀ c ∈ cs, c ∈ sgn m) ∧ cs.length = i ∧ acc = cs.map sgD ∧ r = [some (.bd k), some (.fz (.int (m : Nat))), some (.fz (.int (mo : Nat))), some (.fz (.str (sgn m))), none])
    (ds := upFrom 0 n) (acc := []) (r := [some (.bd k1), some (.fz (.int (m : Nat))), some (.fz (.int (mo : Nat))), some (.fz (.str (sgn m))), none]) 0 (by rw [upFrom_len]; simp; omega) ⟨k1, [], t1, (fun c hc => nomatch hc), rfl, rfl, rfl⟩ (by
      rintro i d r acc hd ⟨k, cs, t, hw, hl, rfl, rfl⟩
      obtain ⟨k', c, t', hc, y⟩ := some_turn t h1 h6 (mo := .int (mo : Nat)) (d := d)
      exact ⟨_, _, y, k', cs ++ [c], t', fun x hx => (List.mem_append.mp hx).elim (hw x) fun z => by rw [List.mem_singleton] at z; subst z; exact hc, by rw [List.length_append, hl]; rfl, by simp, rfl⟩)
  rw [upFrom_len, Nat.zero_add] at hlen
  refine ⟨k2, cs, t2, hw, by omega, ?_⟩
  have hj := join_sg (cs := cs) (by omega)
  have e1' : fSl (.fz (.str [97, 98, 99, 100, 101, 102])) (.fz .non) (.fz (.int (m : Nat))) = some (.fz (.str ([97, 98, 99, 100, 101, 102].take m))) := sl_to (by simp) m
  have e2' : fSl (.fz (.str [65, 66, 67, 68, 69, 70])) (.fz .non) (.fz (.int (m : Nat))) = some (.fz (.str ([65, 66, 67, 68, 69, 70].take m))) := sl_to (by simp) m
  have ea : fAdd (.fz (.str ([97, 98, 99, 100, 101, 102].take m))) (.fz (.str ([65, 66, 67, 68, 69, 70].take m))) = some (.fz (.str (sgn m))) := by
    rw [s_addS, if_pos (big_of (by simp; omega))]; rfl
  have lc : eLc (eCons (eFn F__law_draw (eCons (eVar 0) (eCons (e2 (p2 fAdd) (eVar 2) (eC (.int 1))) eNil))) eNil) mkR1 (gNm 4) eYes ce__law_some_1 [4] [some (.bd k), some (.fz (.int (m : Nat))), some (.fz (.int (mo : Nat))), some (.fz (.str (sgn m))), none] = _ :=
    lc_fz (d := .int (n : Nat)) (r1 := [some (.bd k1), some (.fz (.int (m : Nat))), some (.fz (.int (mo : Nat))), some (.fz (.str (sgn m))), none]) (by simp [y]) (mkR1_n (by omega)) (by simp) yc
  rw [F__law_some_eq]
  simp only [s_runF, b__law_some]
  simp [-s_eLc, e1', e2', ea, lc, hj, -s_addS]
theorem some_eq {k : List (Key × D)} (t : Feed k) {m mo : Nat} (h1 : 1 ≤ m) (h6 : m ≤ 6) (hmo : mo ≤ 1000) : ∃ k' w, Feed k' ∧ W w ∧ w.length ≤ mo ∧
    F__law_some [.bd k, .fz (.int (m : Nat)), .fz (.int (mo : Nat))] = .ok (.fz (.str w)) [.bd k', .fz (.int (m : Nat)), .fz (.int (mo : Nat))] := by
  obtain ⟨k', w, t', h, hl, y⟩ := some_eqM t h1 h6 hmo
  exact ⟨k', w, t', fun c hc => sgn_w m c (h c hc), hl, y⟩
end W_k11

namespace W_k11
open PySem PySem.Spec PyProof.Rows L2 GB
/-! reading -/
def noT (a b : Nat) : List (Str × D) := [("word", .int b), ("step", .int a)]
theorem mkT_run {i j : Int} {p q z1 z2 z3 : List Nat} (h1 : fStr (.fz (.int i)) = some (.fz (.str p))) (h2 : fStr (.fz (.int j)) = some (.fz (.str q))) (a1 : fAdd (.fz (.str [110, 111, 32, 115, 116, 101, 112, 32])) (.fz (.str p)) = some (.fz (.str z1))) (a2 : fAdd (.fz (.str z1)) (.fz (.str [44, 32, 119, 111, 114, 100, 32])) = some (.fz (.str z2))) (a3 : fAdd (.fz (.str z2)) (.fz (.str q)) = some (.fz (.str z3))) :
    X_NoText [.int i, .int j] = some ([("word", .int j), ("step", .int i)] : List (Str × D)) := by
  unfold X_NoText mkX
  simp [m_NoText, initR, h1, h2, a1, a2, a3, -s_addS]
theorem mkT {i j : Nat} (hi : i < 1000000) (hj : j < 1000000) : X_NoText [.int (i : Nat), .int (j : Nat)] = some (noT i j) :=
  by
    have l1 := intTxt_len (i := (i : Nat)) (by omega)
    have l2 := intTxt_len (i := (j : Nat)) (by omega)
    exact mkT_run (str_int (by omega)) (str_int (by omega)) (adS (by simp; omega)) (adS (by simp; omega)) (adS (by simp; omega))
/-- a figure -/
def isF (c : Nat) : Bool := decide (48 ≤ c ∧ c ≤ 57)
theorem isF_in {c : Nat} : decide (c ∈ [48, 49, 50, 51, 52, 53, 54, 55, 56, 57]) = isF c := by
  unfold isF
  rw [Bool.eq_iff_iff, decide_eq_true_iff, decide_eq_true_iff]
  simp only [List.mem_cons, List.not_mem_nil, or_false]
  omega
theorem number_turn {x0 : Option S} {c : Nat} : cturn (gNm 1) eYes ce_number_in_1 [1] (.str [c]) [x0, none] = some ([.bl (isF c)], [x0, none]) := by
  rw [← isF_in]
  simp [cturn, ce_number_in_1]
def numD : Option Nat → D
  | some n => .int (n : Nat)
  | none => .non
theorem number_all {w : List Nat} (hw : w.length ≤ 1000000) : ∃ L, eLc (eCons (eVar 0) eNil) mkSeq (gNm 1) eYes ce_number_in_1 [1] [some (.fz (.str w)), none] = .ok (.val (.ol L)) [some (.fz (.str w)), none] ∧ fAll (.ol L) = some (.fz (.bl (w.all isF))) := by
  have it : itemsOf (.fz (.str w)) = some (w.map sgD) := rfl
  have lc : cmpL (gNm 1) eYes ce_number_in_1 [1] (w.map sgD) [some (.fz (.str w)), none] [] = .ok ((w.map isF).map D.bl) [some (.fz (.str w)), none] := by
    rw [cmpL_one (fun d => match d with | .str [c] => .bl (isF c) | d => d) (by rw [List.length_map]; omega)]
    · rw [List.map_map, List.map_map]; rfl
    · intro d hd
      obtain ⟨c, hc, rfl⟩ := List.mem_map.mp hd
      exact number_turn
  have el : eLc (eCons (eVar 0) eNil) mkSeq (gNm 1) eYes ce_number_in_1 [1] [some (.fz (.str w)), none] = _ :=
    lc_lfz (i := 0) (d := .str w) (r1 := [some (.fz (.str w)), none]) (by simp) rfl it (by simp) lc
  have al := all_bls (bs := w.map isF)
  have e : (w.map isF).all id = w.all isF := by rw [List.all_map]; rfl
  rw [e] at al
  exact ⟨_, el, al⟩
theorem all_isF {w : List Nat} : w.all isF = true ↔ NumText.AllDigits w := by
  rw [List.all_eq_true]
  exact ⟨fun h c hc => of_decide_eq_true (h c hc), fun h c hc => decide_eq_true (h c hc)⟩
theorem nr_len {w : List Nat} {n : Int} (ln : fLen (.fz (.str w)) = some (.fz (.int n))) (h : ¬ (1 ≤ n ∧ n ≤ 4)) : F_number_in [.fz (.str w)] = .ok (.fz .non) [.fz (.str w)] := by
  rw [F_number_in_eq]
  by_cases d1 : 1 ≤ n
  · have d2 : ¬ n ≤ 4 := fun z => h ⟨d1, z⟩
    simp [b_number_in, ln, d1, d2, -s_lenS]
  · simp [b_number_in, ln, d1, -s_lenS]
theorem nr_all {w : List Nat} {n : Int} {L : List D} (ln : fLen (.fz (.str w)) = some (.fz (.int n))) (h : 1 ≤ n ∧ n ≤ 4) (el : eLc (eCons (eVar 0) eNil) mkSeq (gNm 1) eYes ce_number_in_1 [1] [some (.fz (.str w)), none] = .ok (.val (.ol L)) [some (.fz (.str w)), none]) (al : fAll (.ol L) = some (.fz (.bl false))) : F_number_in [.fz (.str w)] = .ok (.fz .non) [.fz (.str w)] := by
  rw [F_number_in_eq]
  simp [b_number_in, ln, h.1, h.2, el, al, -s_lenS, -s_eLc]
theorem nr_zero {w : List Nat} {n : Int} {L : List D} {a : Nat} {v : S} (ln : fLen (.fz (.str w)) = some (.fz (.int n))) (h : 1 ≤ n ∧ n ≤ 4) (el : eLc (eCons (eVar 0) eNil) mkSeq (gNm 1) eYes ce_number_in_1 [1] [some (.fz (.str w)), none] = .ok (.val (.ol L)) [some (.fz (.str w)), none]) (al : fAll (.ol L) = some (.fz (.bl true)))
    (hb : big w.length = true) {nb : Bool} (ne : fNe (.fz (.str w)) (.fz (.str [48])) = some (.fz (.bl nb))) (a0 : w[0]? = some a) (hv : v.hard = false) (qi : qInt [.fz (.str w)] = some v) : F_number_in [.fz (.str w)] = .ok (if a = 48 ∧ nb = true then .fz .non else v) [.fz (.str w)] := by
  rw [F_number_in_eq]
  by_cases c : a = 48
  · cases nb with
    | false => simp [b_number_in, ln, h.1, h.2, el, al, -s_lenS, -s_eLc, hb, a0, c, ne, qi, hv, -s_neS]
    | true => simp [b_number_in, ln, h.1, h.2, el, al, -s_lenS, -s_eLc, hb, a0, c, ne, qi, -s_neS]
  · simp [b_number_in, ln, h.1, h.2, el, al, -s_lenS, -s_eLc, hb, a0, c, qi, hv]
theorem number_in_eq {w : List Nat} (hw : w.length ≤ 1000000) : F_number_in [.fz (.str w)] = .ok (.fz (numD (numO w))) [.fz (.str w)] := by
  obtain ⟨L, el, al⟩ := number_all hw
  have hb : big w.length = true := big_of (by omega)
  have ln : fLen (.fz (.str w)) = some (.fz (.int (w.length : Int))) := by rw [s_lenS]; exact if_pos hb
  by_cases c1 : 1 ≤ w.length ∧ w.length ≤ 4
  · have d : (1 : Int) ≤ w.length ∧ (w.length : Int) ≤ 4 := ⟨by omega, by omega⟩
    cases ha : w.all isF with
    | false =>
      rw [ha] at al
      have e : numO w = none := if_neg fun z => by
        have := all_isF.mpr z.2.1
        rw [ha] at this; cases this
      rw [e]
      exact nr_all ln d el al
    | true =>
      rw [ha] at al
      have dg := all_isF.mp ha
      obtain ⟨a, v, rfl⟩ : ∃ a v, w = a :: v := by
        cases w with
        | nil => have := c1.1; simp at this
        | cons a v => exact ⟨a, v, rfl⟩
      have y := nr_zero ln d el al hb (a := a) (nb := !decide (a :: v = [48])) rfl rfl rfl (s_qIntT dg (by simp) (by omega))
      rw [y]
      have dc : (a = 48 ∧ (!decide (a :: v = [48])) = true) ↔ (a = 48 ∧ (a :: v) ≠ [48]) := by rw [Bool.not_eq_true', decide_eq_false_iff_not]
      by_cases c : a = 48 ∧ (a :: v) ≠ [48]
      · rw [if_pos (dc.mpr c)]
        have e : numO (a :: v) = none := if_neg fun z => z.2.2 ⟨by rw [c.1]; rfl, c.2⟩
        rw [e]; rfl
      · rw [if_neg (fun z => c (dc.mp z))]
        have e : numO (a :: v) = some (NumText.digitsVal (a :: v)) := if_pos ⟨c1, dg, fun z => c ⟨by simpa using z.1, z.2⟩⟩
        rw [e]; rfl
  · have e : numO w = none := if_neg fun z => c1 z.1
    rw [e]
    exact nr_len ln fun z => c1 ⟨by omega, by omega⟩
end W_k11

namespace W_k11
open PySem PySem.Spec PyProof.Rows L2 GB
/-! a step read -/
def numberW : List Nat := [110, 117, 109, 98, 101, 114]
def letterW : List Nat := [108, 101, 116, 116, 101, 114]
def turnW : List Nat := [116, 117, 114, 110]
def optD : Option D → D
  | none => .non
  | some d => d
def partO (k w : List Nat) : Option D :=
  if k = numberW then (numO w).map fun n => D.int (n : Nat)
  else if k = letterW then (if letterD (.str w) then some (.str w) else none)
  else if w ≠ [] ∧ wordD 6 (.str w) = true then some (.str w) else none
theorem partO_non {k w : List Nat} {d : D} (h : partO k w = some d) : d.isNon = false := by
  unfold partO at h
  split at h
  · cases e : numO w with
    | none => rw [e] at h; cases h
    | some n => rw [e] at h; cases h; rfl
  · split at h
    · split at h
      · cases h; rfl
      · cases h
    · split at h
      · cases h; rfl
      · cases h
theorem part_in_eq {k w : List Nat} (hw : w.length ≤ 1000000) : F_part_in [.fz (.str k), .fz (.str w)] = .ok (.fz (optD (partO k w))) [.fz (.str k), .fz (.str w)] := by
  have a := number_in_eq hw
  have b := is_letter_eq (.str w) (fun v h => by cases h; exact hw)
  have c := is_word_eq (m := 6) (by omega) (.str w) (fun v h => by cases h; exact hw)
  have c : F_is_word [.fz (.int 6), .fz (.str w)] = .ok (.fz (.bl (wordD 6 (.str w)))) [.fz (.int 6), .fz (.str w)] := c
  rw [F_part_in_eq]
  unfold partO
  by_cases c1 : k = numberW
  · rw [if_pos c1]
    have e : numD (numO w) = optD ((numO w).map fun n => D.int (n : Nat)) := by cases numO w <;> rfl
    rw [e] at a
    subst c1
    unfold numberW at *
    simp [b_part_in, a]
  · rw [if_neg c1]
    unfold numberW at c1
    by_cases c2 : k = letterW
    · rw [if_pos c2]
      unfold letterW at c2
      subst c2
      cases d : letterD (.str w) with
      | true => rw [d] at b; simp [b_part_in, b, optD]
      | false => rw [d] at b; simp [b_part_in, b, optD]
    · rw [if_neg c2]
      unfold letterW at c2
      by_cases c3 : w = []
      · subst c3
        simp [b_part_in, c1, c2, optD]
      · cases d : wordD 6 (.str w) with
        | true => rw [d] at c; simp [b_part_in, c1, c2, c3, c, optD]
        | false => rw [d] at c; simp [b_part_in, c1, c2, c3, c, optD]
/-- the parts of a step, or the place of the first that can't stand -/
def partsO : Nat → List (List Nat) → List (List Nat) → Sum (List D) Nat
  | _, [], _ => .inl []
  | p, _ :: _, [] => .inr (p + 1)
  | p, k :: ks, w :: ws => match partO k w with
    | none => .inr (p + 1)
    | some d => match partsO (p + 1) ks ws with
      | .inl ds => .inl (d :: ds)
      | .inr j => .inr j
def stepIn (ws : List (List Nat)) : Sum D Nat := match ws with
  | [] => .inr 0
  | w :: rest => match tab_PARTS.lookup w with
    | none => .inr 0
    | some ks => match partsO 0 ks rest with
      | .inr j => .inr j
      | .inl ds => if ks.length < rest.length then .inr (ks.length + 1) else .inl (.tup (.str w :: ds))
def enumL (ds : List D) (k : Nat) : List D := (ds.zipIdx k).map fun z => D.tup [.int (z.2 : Nat), z.1]
theorem enumL_cons (d : D) (ds : List D) (k : Nat) : enumL (d :: ds) k = D.tup [.int (k : Nat), d] :: enumL ds (k + 1) := by
  unfold enumL; rw [List.zipIdx_cons, List.map_cons]
/-- one turn -/
theorem si_short {n p : Int} {L F : List D} {fs : List (Str × D)} {x2 x5 x6 : Option S} {X5 : D} (h : (L.length : Int) ≤ p + 1) (mk : X_NoText [.int n, .int L.length] = some fs) :
    fb_step_in_1 [some (.fz (.int n)), some (.fz (.lst L)), x2, some (.ol F), some (.fz (.int p)), some (.fz X5), x6] = .ex "NoText" fs [some (.fz (.int n)), some (.fz (.lst L)), x2, some (.ol F), some (.fz (.int p)), some (.fz X5), x6] := by
  simp [fb_step_in_1, h, fRaise, mk, frzAll, frz1]
theorem si_part {n p : Int} {L F : List D} {k w : D} {d : Option D} {fs : List (Str × D)} {x2 x6 : Option S} (h6 : sf x6) (h : ¬ (L.length : Int) ≤ p + 1) (a : atI L (p + 1) = some w) (y : F_part_in [.fz k, .fz w] = .ok (.fz (optD d)) [.fz k, .fz w]) (hd : ∀ z, d = some z → z.isNon = false) (mk : X_NoText [.int n, .int (p + 1)] = some fs) (lf : F.length < 16777216) :
    fb_step_in_1 [some (.fz (.int n)), some (.fz (.lst L)), x2, some (.ol F), some (.fz (.int p)), some (.fz k), x6] = match (generalizing := false) d with
      | none => .ex "NoText" fs [some (.fz (.int n)), some (.fz (.lst L)), x2, some (.ol F), some (.fz (.int p)), some (.fz k), some (.fz .non)]
      | some z => .nx [some (.fz (.int n)), some (.fz (.lst L)), x2, some (.ol (F ++ [z])), some (.fz (.int p)), some (.fz k), some (.fz z)] := by
  cases d with
  | none =>
    have y : F_part_in [.fz k, .fz w] = .ok (.fz .non) [.fz k, .fz w] := y
    rcases h6 with rfl | ⟨z, rfl⟩ <;> simp [fb_step_in_1, h, a, y, fRaise, mk, frzAll, frz1, D.isNon]
  | some z =>
    have y : F_part_in [.fz k, .fz w] = .ok (.fz z) [.fz k, .fz w] := y
    have nz := hd z rfl
    rcases h6 with rfl | ⟨z, rfl⟩ <;> simp [fb_step_in_1, h, a, y, nz, lf]
def siR (n : Nat) (L : D) (x2 : Option S) (F F1 : List D) (x4 x5 x6 : Option S) : Sum (List D) Nat → Fl
  | .inl ds => .nx [some (.fz (.int (n : Nat))), some (.fz L), x2, some (.ol (F ++ ds)), x4, x5, x6]
  | .inr j => .ex "NoText" (noT n j) [some (.fz (.int (n : Nat))), some (.fz L), x2, some (.ol F1), x4, x5, x6]
theorem si_go {n : Nat} (hn : n < 1000000) {x2 : Option S} {ws : List (List Nat)} (hw : ws.length ≤ 500000) (hl : ∀ w ∈ ws, w.length ≤ 1000000) : ∀ (ks : List (List Nat)) (p : Nat) (F : List D) (pre rest : List (List Nat)) (x4 x5 x6 : Option S), ws = pre ++ rest → pre.length = p + 1 → sf x4 → sf x5 → sf x6 → F.length + ks.length ≤ 1000000 →
    ∃ (F1 : List D) (x4' x5' x6' : Option S), forL (gTp 2 (gsCons (gNm 4) (gsCons (gNm 5) gsNil))) fb_step_in_1 (enumL (ks.map D.str) p) [some (.fz (.int (n : Nat))), some (.fz (.lst (ws.map D.str))), x2, some (.ol F), x4, x5, x6] = siR n (.lst (ws.map D.str)) x2 F F1 x4' x5' x6' (partsO p ks rest)
  | [], p, F, pre, rest, x4, x5, x6, _, _, _, _, _, _ => ⟨F, x4, x5, x6, by
      show Fl.nx _ = .nx _
      rw [List.append_nil]⟩
  | k :: ks, p, F, pre, rest, x4, x5, x6, ew, hp, h4, h5, h6, hF => by
    rw [List.length_cons] at hF
    have lw : ws.length = p + 1 + rest.length := by rw [ew, List.length_append, hp]
    have g : gTp 2 (gsCons (gNm 4) (gsCons (gNm 5) gsNil)) (D.tup [.int (p : Nat), .str k]) [some (.fz (.int (n : Nat))), some (.fz (.lst (ws.map D.str))), x2, some (.ol F), x4, x5, x6] = some [some (.fz (.int (n : Nat))), some (.fz (.lst (ws.map D.str))), x2, some (.ol F), some (.fz (.int (p : Nat))), some (.fz (.str k)), x6] := by
      rcases h4 with rfl | ⟨z, rfl⟩ <;> rcases h5 with rfl | ⟨z', rfl⟩ <;> simp
    rw [List.map_cons, enumL_cons, forL, g]
    dsimp only
    cases rest with
    | nil =>
      have lw : (ws.map D.str).length = p + 1 := by rw [List.length_map, lw]; rfl
      have t := si_short (n := (n : Nat)) (p := (p : Nat)) (L := ws.map D.str) (F := F) (x2 := x2) (x5 := some (.fz (.str k))) (x6 := x6) (X5 := .str k) (fs := noT n (p + 1)) (by rw [lw]; omega) (by rw [lw]; exact mkT hn (by rw [List.length_map] at lw; omega))
      rw [t]
      exact ⟨_, _, _, _, rfl⟩
    | cons w rest =>
      have hwm : w ∈ ws := by rw [ew]; simp
      have a : atI (ws.map D.str) ((p : Nat) + 1) = some (.str w) := by
        rw [show ((p : Nat) : Int) + 1 = ((p + 1 : Nat) : Int) from by omega, atI_n, List.getElem?_map, ew, List.getElem?_append_right (by omega), hp, Nat.sub_self]
        rfl
      rw [List.length_cons] at lw
      have t := si_part (n := (n : Nat)) (p := (p : Nat)) (L := ws.map D.str) (F := F) (x2 := x2) (k := .str k) (w := .str w) (x6 := x6) (d := partO k w) (fs := noT n (p + 1)) h6 (by rw [List.length_map, lw]; omega) a (part_in_eq (hl w hwm)) (fun z h => partO_non h)
        (by rw [show ((p : Nat) : Int) + 1 = ((p + 1 : Nat) : Int) from by omega]; exact mkT hn (by omega)) (by omega)
      rw [t]
      unfold partsO
      cases c : partO k w with
      | none => exact ⟨_, _, _, _, rfl⟩
      | some d =>
        dsimp only
        obtain ⟨F1, y4, y5, y6, y⟩ := si_go hn (x2 := x2) hw hl ks (p + 1) (F ++ [d]) (pre ++ [w]) rest (some (.fz (.int (p : Nat)))) (some (.fz (.str k))) (some (.fz d)) (by rw [ew, List.append_assoc]; rfl) (by rw [List.length_append, hp]; rfl) sf_f sf_f sf_f (by rw [List.length_append]; simp; omega)
        rw [y]
        cases q : partsO (p + 1) ks rest with
        | inl ds => exact ⟨F1, y4, y5, y6, by show Fl.nx _ = .nx _; rw [List.append_assoc]; rfl⟩
        | inr j => exact ⟨F1, y4, y5, y6, rfl⟩
def rdR (n : Nat) (outs : List S) : Sum D Nat → FR
  | .inl d => .ok (.fz d) outs
  | .inr j => .ex "NoText" (noT n j) outs
theorem step_in_bad {n : Nat} {L : List D} {w : List Nat} {fs : List (Str × D)} (a : L[0]? = some (.str w)) (t : tab_PARTS.lookup w = none) (mk : X_NoText [.int (n : Nat), .int 0] = some fs) :
    F_step_in [.fz (.int (n : Nat)), .fz (.lst L)] = .ex "NoText" fs [.fz (.int (n : Nat)), .fz (.lst L)] := by
  rw [F_step_in_eq]
  generalize ((n : Nat) : Int) = i at *
  simp [b_step_in, a, fKnin, t, fRaise, mk, frzAll, frz1]
theorem step_in_long {i : Int} {L ds : List D} {w : List Nat} {ks : List (List Nat)} {x4 x5 x6 : Option S} (a : L[0]? = some (.str w)) (t : tab_PARTS.lookup w = some ks)
    (lp : fFor (eCons (eVar 2) eNil) mkEnumU (gTp 2 (gsCons (gNm 4) (gsCons (gNm 5) gsNil))) fb_step_in_1 [some (.fz (.int i)), some (.fz (.lst L)), some (.fz (.tup (ks.map D.str))), some (.ol [.str w]), none, none, none] = .nx [some (.fz (.int i)), some (.fz (.lst L)), some (.fz (.tup (ks.map D.str))), some (.ol ds), x4, x5, x6]) {fs : List (Str × D)} (mk : X_NoText [.int i, .int ds.length] = some fs) (h : ds.length < L.length) :
    F_step_in [.fz (.int i), .fz (.lst L)] = .ex "NoText" fs [.fz (.int i), .fz (.lst L)] := by
  rw [F_step_in_eq]
  simp only [s_runF, b_step_in]
  generalize e : ks.map D.str = K at *
  simp [a, fKnin, fKd, t, e, lp, -s_fFor, h, fRaise, mk, frzAll, frz1]
theorem step_in_fit {i : Int} {L ds : List D} {w : List Nat} {ks : List (List Nat)} {x4 x5 x6 : Option S} (a : L[0]? = some (.str w)) (t : tab_PARTS.lookup w = some ks)
    (lp : fFor (eCons (eVar 2) eNil) mkEnumU (gTp 2 (gsCons (gNm 4) (gsCons (gNm 5) gsNil))) fb_step_in_1 [some (.fz (.int i)), some (.fz (.lst L)), some (.fz (.tup (ks.map D.str))), some (.ol [.str w]), none, none, none] = .nx [some (.fz (.int i)), some (.fz (.lst L)), some (.fz (.tup (ks.map D.str))), some (.ol ds), x4, x5, x6]) (h : ¬ ds.length < L.length) :
    F_step_in [.fz (.int i), .fz (.lst L)] = .ok (.fz (.tup ds)) [.fz (.int i), .fz (.lst L)] := by
  rw [F_step_in_eq]
  have tt : fTupU (.ol ds) = some (.fz (.tup ds)) := rfl
  simp only [s_runF, b_step_in]
  generalize e : ks.map D.str = K at *
  simp [a, fKnin, fKd, t, e, lp, -s_fFor, h, tt]
theorem step_in_ex {i : Int} {L F1 : List D} {w : List Nat} {ks : List (List Nat)} {x4 x5 x6 : Option S} {fs : List (Str × D)} (a : L[0]? = some (.str w)) (t : tab_PARTS.lookup w = some ks)
    (lp : fFor (eCons (eVar 2) eNil) mkEnumU (gTp 2 (gsCons (gNm 4) (gsCons (gNm 5) gsNil))) fb_step_in_1 [some (.fz (.int i)), some (.fz (.lst L)), some (.fz (.tup (ks.map D.str))), some (.ol [.str w]), none, none, none] = .ex "NoText" fs [some (.fz (.int i)), some (.fz (.lst L)), some (.fz (.tup (ks.map D.str))), some (.ol F1), x4, x5, x6]) :
    F_step_in [.fz (.int i), .fz (.lst L)] = .ex "NoText" fs [.fz (.int i), .fz (.lst L)] := by
  rw [F_step_in_eq]
  simp only [s_runF, b_step_in]
  generalize e : ks.map D.str = K at *
  simp [a, fKnin, fKd, t, e, lp, -s_fFor]
theorem tab_len {w : List Nat} {ks : List (List Nat)} (h : tab_PARTS.lookup w = some ks) : ks.length ≤ 3 := by
  unfold tab_PARTS at h
  simp only [List.lookup] at h
  split at h
  · cases h; decide
  · split at h
    · cases h; decide
    · split at h
      · cases h; decide
      · cases h
theorem partsO_len : ∀ {ks ws : List (List Nat)} {p : Nat} {ds : List D}, partsO p ks ws = .inl ds → ds.length = ks.length ∧ ks.length ≤ ws.length
  | [], ws, p, ds, h => by cases h; exact ⟨rfl, Nat.zero_le _⟩
  | _ :: _, [], p, ds, h => by cases h
  | k :: ks, w :: ws, p, ds, h => by
    unfold partsO at h
    split at h
    · cases h
    · split at h
      · rename_i q
        cases h
        obtain ⟨h1, h2⟩ := partsO_len q
        exact ⟨by rw [List.length_cons, List.length_cons, h1], by rw [List.length_cons, List.length_cons]; omega⟩
      · cases h
theorem step_in_eq {n : Nat} (hn : n < 1000000) {ws : List (List Nat)} (ne : ws ≠ []) (hw : ws.length ≤ 500000) (hl : ∀ w ∈ ws, w.length ≤ 1000000) :
    F_step_in [.fz (.int (n : Nat)), .fz (.lst (ws.map D.str))] = rdR n [.fz (.int (n : Nat)), .fz (.lst (ws.map D.str))] (stepIn ws) := by
  cases ws with
  | nil => exact absurd rfl ne
  | cons w rest =>
    have a : ((w :: rest).map D.str)[0]? = some (.str w) := rfl
    unfold stepIn
    dsimp only
    cases t : tab_PARTS.lookup w with
    | none => exact step_in_bad a t (mkT (j := 0) hn (by omega))
    | some ks =>
      dsimp only
      have tl := tab_len t
      obtain ⟨F1, x4, x5, x6, y⟩ := si_go hn (x2 := some (.fz (.tup (ks.map D.str)))) hw hl ks 0 [.str w] [w] rest none none none rfl rfl sf_n sf_n sf_n (by simp; omega)
      have lp := for_lfz (fs := eCons (eVar 2) eNil) (mk := mkEnumU) (fg := gTp 2 (gsCons (gNm 4) (gsCons (gNm 5) gsNil))) (f := fb_step_in_1) (i := 2) (d := .tup (ks.map D.str)) (ds := enumL (ks.map D.str) 0)
        (r := [some (.fz (.int (n : Nat))), some (.fz (.lst ((w :: rest).map D.str))), some (.fz (.tup (ks.map D.str))), some (.ol [.str w]), none, none, none]) (r1 := [some (.fz (.int (n : Nat))), some (.fz (.lst ((w :: rest).map D.str))), some (.fz (.tup (ks.map D.str))), some (.ol [.str w]), none, none, none]) (by simp) rfl rfl
      rw [y] at lp
      cases q : partsO 0 ks rest with
      | inr j =>
        rw [q] at lp
        exact step_in_ex a t lp
      | inl ds =>
        rw [q] at lp
        obtain ⟨h1, h2⟩ := partsO_len q
        dsimp only
        by_cases c : ks.length < rest.length
        · rw [if_pos c]
          refine step_in_long a t lp (fs := noT n (ks.length + 1)) ?_ (by rw [List.length_map]; simp; omega)
          have e : ((([D.str w] ++ ds).length : Nat) : Int) = ((ks.length + 1 : Nat) : Int) := by simp [h1]
          rw [e]
          exact mkT hn (by omega)
        · rw [if_neg c]
          exact step_in_fit a t lp (by rw [List.length_map]; simp; omega)
/-- the steps that a text writes -/
def readGo : Nat → List (List Nat) → Sum (List D) (Nat × Nat)
  | _, [] => .inl []
  | k, one :: r => match stepIn (splitT one [32]) with
    | .inr j => .inr (k, j)
    | .inl d => match readGo (k + 1) r with
      | .inl ds => .inl (d :: ds)
      | .inr z => .inr z
def readO (t : List Nat) : Sum (List D) (Nat × Nat) := if t = [45] then .inl [] else readGo 0 (splitT t [59, 32])
def readR (outs : List S) : Sum (List D) (Nat × Nat) → FR
  | .inl ds => .ok (.fz (.tup ds)) outs
  | .inr z => .ex "NoText" (noT z.1 z.2) outs
end W_k11

namespace W_k11
open PySem PySem.Spec PyProof.Rows L2 GB
/-! a text read -/
theorem rd_ok {x0 : Option S} {k : Nat} {one : List Nat} {L : List D} {d : D} (sp : fSplit (.fz (.str one)) (.fz (.str [32])) = some (.ol L)) (y : F_step_in [.fz (.int (k : Nat)), .fz (.lst L)] = .ok (.fz d) [.fz (.int (k : Nat)), .fz (.lst L)]) :
    cturn (gTp 2 (gsCons (gNm 1) (gsCons (gNm 2) gsNil))) eYes ce_read_steps_1 [1, 2] (D.tup [.int (k : Nat), .str one]) [x0, none, none] = some ([d], [x0, none, none]) := by
  simp [cturn, ce_read_steps_1, sp, y]
theorem rd_go {x0 : Option S} : ∀ (ones : List (List Nat)) (ds : List D) (k : Nat) (acc : List D), readGo k ones = .inl ds → k + ones.length < 1000000 → acc.length + ones.length ≤ 1000000 → (∀ o ∈ ones, o.length ≤ 500000) → (∀ o ∈ ones, (splitT o [32]).length ≤ 500000 ∧ ∀ w ∈ splitT o [32], w.length ≤ 1000000) →
    cmpL (gTp 2 (gsCons (gNm 1) (gsCons (gNm 2) gsNil))) eYes ce_read_steps_1 [1, 2] (enumL (ones.map D.str) k) [x0, none, none] acc = .ok (acc ++ ds) [x0, none, none]
  | [], ds, k, acc, h, _, _, _, _ => by cases h; show Rs.ok _ _ = _; rw [List.append_nil]
  | one :: r, ds, k, acc, h, hk, ha, hl, hs => by
    rw [List.length_cons] at hk ha
    obtain ⟨s1, s2⟩ := hs one (List.mem_cons_self ..)
    have l1 := hl one (List.mem_cons_self ..)
    unfold readGo at h
    split at h
    · cases h
    · rename_i d e
      split at h
      · rename_i ds' e2
        cases h
        have y := step_in_eq (n := k) (by omega) (splitT_ne (l := one) (s := 32) (S := []) (by decide)) s1 s2
        rw [e] at y
        have t := rd_ok (x0 := x0) (s_fSplit (S := []) (by omega)) y
        rw [List.map_cons, enumL_cons, cmpL_turn t (by omega), rd_go r ds' (k + 1) (acc ++ [d]) e2 (by omega) (by rw [List.length_append]; simp; omega) (fun o h => hl o (List.mem_cons_of_mem _ h)) (fun o h => hs o (List.mem_cons_of_mem _ h)), List.append_assoc]
        rfl
      · cases h
theorem read_run {t : List Nat} {L ds : List D} (sp : fSplit (.fz (.str t)) (.fz (.str [59, 32])) = some (.ol L)) (c : ¬ t = [45]) (lc : cmpL (gTp 2 (gsCons (gNm 1) (gsCons (gNm 2) gsNil))) eYes ce_read_steps_1 [1, 2] (enumL L 0) [some (.fz (.str t)), none, none] [] = .ok ds [some (.fz (.str t)), none, none]) :
    F_read_steps [.fz (.str t)] = .ok (.fz (.tup ds)) [.fz (.str t)] := by
  have tt : fTupU (.ol ds) = some (.fz (.tup ds)) := rfl
  have mk : mkEnum [.lk L] = some (enumL L 0) := rfl
  rw [F_read_steps_eq]
  simp [b_read_steps, c, sp, mk, lc, tt]
theorem read_none : F_read_steps [.fz (.str [45])] = .ok (.fz (.tup [])) [.fz (.str [45])] := by
  rw [F_read_steps_eq]
  simp [b_read_steps]
theorem read_eq {t : List Nat} {ds : List D} (h : readO t = .inl ds) (hl : t.length ≤ 500000) (h1 : (splitT t [59, 32]).length < 1000000) (h2 : ∀ o ∈ splitT t [59, 32], o.length ≤ 500000) (h3 : ∀ o ∈ splitT t [59, 32], (splitT o [32]).length ≤ 500000 ∧ ∀ w ∈ splitT o [32], w.length ≤ 1000000) :
    F_read_steps [.fz (.str t)] = .ok (.fz (.tup ds)) [.fz (.str t)] := by
  unfold readO at h
  by_cases c : t = [45]
  · rw [if_pos c] at h
    cases h
    subst c
    exact read_none
  · rw [if_neg c] at h
    exact read_run (s_fSplit (S := [32]) (by omega)) c (rd_go (x0 := some (.fz (.str t))) (splitT t [59, 32]) ds 0 [] h (by omega) (by simp; omega) h2 h3)
end W_k11

namespace W_k11
open PySem PySem.Spec PyProof.Rows L2 GB
/-! the texts of steps, in plain words -/
def partsT : Stp → List (List Nat)
  | .out p => [[111, 117, 116], TL.numL p]
  | .ins p c => [[105, 110], TL.numL p, [c]]
  | .ring p t m => [[114, 105, 110, 103], TL.numL p, t, TL.numL m]
def oneT (s : Stp) : List Nat := joinN [32] (partsT s)
def stepsT (ss : List Stp) : List Nat := if ss = [] then [45] else joinN [59, 32] (ss.map oneT)
/-- numbers of one to four figures, turns of one to twelve letters -/
def okT : Stp → Prop
  | .out p => p < 10000
  | .ins p c => p < 10000 ∧ isL c = true
  | .ring p t m => p < 10000 ∧ W t ∧ t ≠ [] ∧ t.length ≤ 12 ∧ m < 10000
theorem numL_low {n : Nat} {c : Nat} (h : c ∈ TL.numL n) : 48 ≤ c ∧ c ≤ 57 := TL.numL_digits n c h
theorem isL_low {c : Nat} (h : isL c = true) : 65 ≤ c := by
  have := isL_iff.mp h
  omega
theorem parts_low {s : Stp} (h : okT s) : ∀ w ∈ partsT s, ∀ c ∈ w, 48 ≤ c ∧ c ≠ 59 := fun w hw c hc => by
  cases s with
  | out p =>
    simp only [partsT, List.mem_cons, List.not_mem_nil, or_false] at hw
    rcases hw with rfl | rfl
    · simp at hc; omega
    · have := numL_low hc; omega
  | ins p d =>
    simp only [partsT, List.mem_cons, List.not_mem_nil, or_false] at hw
    rcases hw with rfl | rfl | rfl
    · simp at hc; omega
    · have := numL_low hc; omega
    · rw [List.mem_singleton] at hc; subst hc; have := isL_low h.2; omega
  | ring p t m =>
    simp only [partsT, List.mem_cons, List.not_mem_nil, or_false] at hw
    rcases hw with rfl | rfl | rfl | rfl
    · simp at hc; omega
    · have := numL_low hc; omega
    · have := isL_low (h.2.1 c hc); omega
    · have := numL_low hc; omega
theorem parts_ne (s : Stp) : partsT s ≠ [] := by cases s <;> simp [partsT]
theorem parts_split {s : Stp} (h : okT s) : splitT (oneT s) [32] = partsT s :=
  splitT_join (s := 32) (S := []) (by decide) (parts_ne s) fun w hw hc => by have := parts_low h w hw 32 hc; omega
theorem joinN_mem {sep : List Nat} : ∀ {ps : List (List Nat)} {c : Nat}, c ∈ joinN sep ps → c ∈ sep ∨ ∃ p ∈ ps, c ∈ p
  | [], c, h => by cases h
  | [p], c, h => .inr ⟨p, List.mem_singleton.mpr rfl, h⟩
  | p :: q :: r, c, h => by
    have h : c ∈ p ++ (sep ++ joinN sep (q :: r)) := h
    rcases List.mem_append.mp h with h | h
    · exact .inr ⟨p, List.mem_cons_self .., h⟩
    · rcases List.mem_append.mp h with h | h
      · exact .inl h
      · rcases joinN_mem h with h | ⟨z, hz, h⟩
        · exact .inl h
        · exact .inr ⟨z, List.mem_cons_of_mem _ hz, h⟩
theorem one_low {s : Stp} (h : okT s) : ∀ c ∈ oneT s, c ≠ 59 := fun c hc => by
  rcases joinN_mem hc with q | ⟨w, hw, q⟩
  · simp at q; omega
  · exact (parts_low h w hw c q).2
theorem steps_split {ss : List Stp} (ne : ss ≠ []) (h : ∀ s ∈ ss, okT s) : splitT (joinN [59, 32] (ss.map oneT)) [59, 32] = ss.map oneT :=
  splitT_join (s := 59) (S := [32]) (by decide) (by simpa using ne) fun w hw hc => by
    obtain ⟨s, hs, rfl⟩ := List.mem_map.mp hw
    exact one_low (h s hs) 59 hc rfl
theorem joinN_len {sep : List Nat} {n : Nat} : ∀ {ps : List (List Nat)}, (∀ p ∈ ps, p.length ≤ n) → (joinN sep ps).length ≤ ps.length * (n + sep.length)
  | [], _ => Nat.zero_le _
  | [p], h => by
    show p.length ≤ _
    have := h p (List.mem_cons_self ..)
    simp; omega
  | p :: q :: r, h => by
    have := h p (List.mem_cons_self ..)
    have ih := joinN_len (sep := sep) (n := n) (ps := q :: r) fun z hz => h z (List.mem_cons_of_mem _ hz)
    have e : joinN sep (p :: q :: r) = p ++ (sep ++ joinN sep (q :: r)) := rfl
    rw [e, List.length_append, List.length_append]
    have e2 : (p :: q :: r).length * (n + sep.length) = (n + sep.length) + (q :: r).length * (n + sep.length) := by rw [List.length_cons (a := p), Nat.add_mul, Nat.one_mul, Nat.add_comm]
    omega
theorem num4 {n : Nat} (h : n < 10000) : (TL.numL n).length ≤ 4 := TL.numL_len (k := 4) (by omega) (by omega)
theorem parts_len {s : Stp} (h : okT s) : (partsT s).length ≤ 4 ∧ ∀ w ∈ partsT s, w.length ≤ 12 := by
  cases s with
  | out p =>
    refine ⟨by simp [partsT], fun w hw => ?_⟩
    simp only [partsT, List.mem_cons, List.not_mem_nil, or_false] at hw
    rcases hw with rfl | rfl
    · simp
    · have := num4 h; omega
  | ins p d =>
    refine ⟨by simp [partsT], fun w hw => ?_⟩
    simp only [partsT, List.mem_cons, List.not_mem_nil, or_false] at hw
    rcases hw with rfl | rfl | rfl
    · simp
    · have := num4 h.1; omega
    · simp
  | ring p t m =>
    refine ⟨by simp [partsT], fun w hw => ?_⟩
    simp only [partsT, List.mem_cons, List.not_mem_nil, or_false] at hw
    rcases hw with rfl | rfl | rfl | rfl
    · simp
    · have := num4 h.1; omega
    · exact h.2.2.2.1
    · have := num4 h.2.2.2.2; omega
theorem one_len {s : Stp} (h : okT s) : (oneT s).length ≤ 52 := by
  obtain ⟨h1, h2⟩ := parts_len h
  have := joinN_len (sep := [32]) h2
  have e : (partsT s).length * (12 + [32].length) ≤ 4 * 13 := Nat.mul_le_mul h1 (by simp)
  exact Nat.le_trans this e
theorem partO_num {n : Nat} (h : n < 10000) : partO numberW (TL.numL n) = some (.int (n : Nat)) := by
  unfold partO
  rw [if_pos rfl, numO_num h]
  rfl
theorem letter_of {c : Nat} (h : isL c = true) : partO letterW [c] = some (.str [c]) := by
  unfold partO
  have e : letterD (.str [c]) = isL c := rfl
  rw [if_neg (by decide), if_pos rfl, e, h]
  rfl
theorem turn_of {t : List Nat} (h : W t) (ne : t ≠ []) : partO turnW t = some (.str t) := by
  unfold partO
  have e : wordD 6 (.str t) = true := by
    show t.all (inW 6) = true
    rw [List.all_eq_true]
    intro c hc
    have := h c hc
    unfold inW
    rw [decide_eq_true_iff]
    have := isL_iff.mp this
    show c ∈ sgn 6
    have e : sgn 6 = [97, 98, 99, 100, 101, 102, 65, 66, 67, 68, 69, 70] := rfl
    rw [e]
    simp only [List.mem_cons, List.not_mem_nil, or_false]
    omega
  rw [if_neg (by decide), if_neg (by decide), if_pos ⟨ne, e⟩]
theorem step_back {s : Stp} (h : okT s) : stepIn (partsT s) = .inl (stepD s) := by
  cases s with
  | out p =>
    have e : tab_PARTS.lookup [111, 117, 116] = some [numberW] := by decide
    simp only [stepIn, partsT, e, partsO, partO_num h]
    rfl
  | ins p c =>
    have e : tab_PARTS.lookup [105, 110] = some [numberW, letterW] := by decide
    simp only [stepIn, partsT, e, partsO, partO_num h.1, letter_of h.2]
    rfl
  | ring p t m =>
    have e : tab_PARTS.lookup [114, 105, 110, 103] = some [numberW, turnW, numberW] := by decide
    simp only [stepIn, partsT, e, partsO, partO_num h.1, partO_num h.2.2.2.2, turn_of h.2.1 h.2.2.1]
    rfl
theorem go_back : ∀ {ss : List Stp} {k : Nat}, (∀ s ∈ ss, okT s) → readGo k (ss.map oneT) = .inl (ss.map stepD)
  | [], k, _ => rfl
  | s :: ss, k, h => by
    have hs := h s (List.mem_cons_self ..)
    rw [List.map_cons]
    unfold readGo
    rw [parts_split hs, step_back hs]
    dsimp only
    rw [go_back fun z hz => h z (List.mem_cons_of_mem _ hz)]
    rfl
theorem one_head (s : Stp) : ∃ c w, oneT s = c :: w ∧ c ≠ 45 := by
  cases s with
  | out p => exact ⟨_, _, rfl, by decide⟩
  | ins p c => exact ⟨_, _, rfl, by decide⟩
  | ring p t m => exact ⟨_, _, rfl, by decide⟩
theorem join_head {s : Stp} {ss : List Stp} : ∃ c w, joinN [59, 32] ((s :: ss).map oneT) = c :: w ∧ c ≠ 45 := by
  obtain ⟨c, w, e, h⟩ := one_head s
  cases ss with
  | nil => exact ⟨c, w, e, h⟩
  | cons u ss =>
    refine ⟨c, w ++ ([59, 32] ++ joinN [59, 32] ((u :: ss).map oneT)), ?_, h⟩
    show oneT s ++ _ = _
    rw [e]
    rfl
theorem steps_len {ss : List Stp} (h : ∀ s ∈ ss, okT s) (hl : ss.length ≤ 1000) : (stepsT ss).length ≤ 54000 := by
  unfold stepsT
  split
  · decide
  · have := joinN_len (sep := [59, 32]) (n := 52) (ps := ss.map oneT) fun p hp => by
      obtain ⟨s, hs, rfl⟩ := List.mem_map.mp hp
      exact one_len (h s hs)
    rw [List.length_map] at this
    have e : ss.length * (52 + [59, 32].length) ≤ 1000 * 54 := Nat.mul_le_mul hl (by simp)
    omega
theorem read_back {ss : List Stp} (h : ∀ s ∈ ss, okT s) (hl : ss.length ≤ 1000) : F_read_steps [.fz (.str (stepsT ss))] = .ok (.fz (.tup (ss.map stepD))) [.fz (.str (stepsT ss))] := by
  have ln := steps_len h hl
  cases ss with
  | nil => exact read_none
  | cons s ss =>
    have e : stepsT (s :: ss) = joinN [59, 32] ((s :: ss).map oneT) := if_neg (by simp)
    obtain ⟨c, w, e2, hc⟩ := join_head (s := s) (ss := ss)
    have sp := steps_split (ss := s :: ss) (by simp) h
    rw [e] at ln ⊢
    have lens : ∀ o ∈ (s :: ss).map oneT, ∃ s, okT s ∧ o = oneT s := fun o ho => by
      obtain ⟨s, hs, rfl⟩ := List.mem_map.mp ho
      exact ⟨s, h s hs, rfl⟩
    refine read_eq ?_ (by omega) (by rw [sp, List.length_map]; omega) ?_ ?_
    · unfold readO
      rw [if_neg, sp]
      · exact go_back h
      · rw [e2]
        intro z
        exact hc (List.cons.inj z).1
    · rw [sp]
      intro o ho
      obtain ⟨s, hs, rfl⟩ := lens o ho
      have := one_len hs
      omega
    · rw [sp]
      intro o ho
      obtain ⟨s, hs, rfl⟩ := lens o ho
      obtain ⟨h1, h2⟩ := parts_len hs
      rw [parts_split hs]
      exact ⟨by omega, fun w hw => by have := h2 w hw; omega⟩
end W_k11

namespace W_k11
open PySem PySem.Spec PyProof.Rows L2 GB
/-! the text told, by the program and by the law -/
def pT : D → List Nat
  | .int i => intTxt i
  | .str w => w
  | _ => []
def pS (d : D) : D := .str (pT d)
def partD (d : D) : Prop := (∃ n : Nat, n < 10000 ∧ d = .int (n : Nat)) ∨ ∃ w, w.length ≤ 12 ∧ d = .str w
theorem partD_ok {d : D} (h : partD d) : fStr (.fz d) = some (.fz (.str (pT d))) ∧ (pT d).length ≤ 12 := by
  rcases h with ⟨n, h, rfl⟩ | ⟨w, h, rfl⟩
  · refine ⟨str_int (by omega), ?_⟩
    show (intTxt (n : Nat)).length ≤ 12
    rw [intTxt_num]
    have := num4 h
    omega
  · exact ⟨rfl, h⟩
def partsD : Stp → List D
  | .out p => [.str [111, 117, 116], .int p]
  | .ins p c => [.str [105, 110], .int p, .str [c]]
  | .ring p t m => [.str [114, 105, 110, 103], .int p, .str t, .int m]
theorem stepD_eq (s : Stp) : stepD s = .tup (partsD s) := by cases s <;> rfl
theorem partsD_ok {s : Stp} (h : okT s) : ∀ d ∈ partsD s, partD d := by
  intro d hd
  cases s with
  | out p =>
    simp only [partsD, List.mem_cons, List.not_mem_nil, or_false] at hd
    rcases hd with rfl | rfl
    · exact .inr ⟨_, by simp, rfl⟩
    · exact .inl ⟨p, h, rfl⟩
  | ins p c =>
    simp only [partsD, List.mem_cons, List.not_mem_nil, or_false] at hd
    rcases hd with rfl | rfl | rfl
    · exact .inr ⟨_, by simp, rfl⟩
    · exact .inl ⟨p, h.1, rfl⟩
    · exact .inr ⟨_, by simp, rfl⟩
  | ring p t m =>
    simp only [partsD, List.mem_cons, List.not_mem_nil, or_false] at hd
    rcases hd with rfl | rfl | rfl | rfl
    · exact .inr ⟨_, by simp, rfl⟩
    · exact .inl ⟨p, h.1, rfl⟩
    · exact .inr ⟨_, h.2.2.2.1, rfl⟩
    · exact .inl ⟨m, h.2.2.2.2, rfl⟩
theorem partsD_T (s : Stp) : (partsD s).map pS = (partsT s).map D.str := by
  cases s <;> simp [partsD, partsT, pS, pT, intTxt_num]
theorem sh_turn {x0 : Option S} {x2 : Option S} {d : D} (h : fStr (.fz d) = some (.fz (.str (pT d)))) : cturn (gNm 1) eYes ce_shown_steps_1 [1] d [x0, none, x2] = some ([pS d], [x0, none, x2]) := by
  simp [cturn, ce_shown_steps_1, h, pS]
theorem sh_in {x0 : Option S} {s : Stp} (h : okT s) : eLc (eCons (eVar 2) eNil) mkSeq (gNm 1) eYes ce_shown_steps_1 [1] [x0, none, some (.fz (stepD s))] = .ok (.val (.ol ((partsT s).map D.str))) [x0, none, some (.fz (stepD s))] := by
  have lc : cmpL (gNm 1) eYes ce_shown_steps_1 [1] (partsD s) [x0, none, some (.fz (stepD s))] [] = .ok ((partsD s).map pS) [x0, none, some (.fz (stepD s))] := by
    refine cmpL_one pS ?_ fun d hd => sh_turn (partD_ok (partsD_ok h d hd)).1
    cases s <;> simp [partsD]
  rw [partsD_T] at lc
  exact lc_lfz (i := 2) (d := stepD s) (r1 := [x0, none, some (.fz (stepD s))]) (by simp) rfl (by rw [stepD_eq]; rfl) (by simp) lc
theorem sum_len {n : Nat} : ∀ {ps : List (List Nat)}, (∀ p ∈ ps, p.length ≤ n) → (ps.map List.length).sum ≤ ps.length * n
  | [], _ => by simp
  | p :: r, h => by
    have h1 := h p (List.mem_cons_self ..)
    have h2 := sum_len (ps := r) fun z hz => h z (List.mem_cons_of_mem _ hz)
    rw [List.map_cons, List.sum_cons, List.length_cons, Nat.add_mul, Nat.one_mul]
    omega
theorem join_of {sep : List Nat} {ps : List (List Nat)} {n : Nat} (h : ∀ p ∈ ps, p.length ≤ n) (hb : ps.length * n + ps.length * sep.length ≤ 1000000) : fJoin (.fz (.str sep)) (.ol (ps.map D.str)) = some (.fz (.str (joinN sep ps))) := by
  have e : strsOf (ps.map D.str) = some ps := by
    have := strsOf_map (fun w : List Nat => w) ps
    simpa using this
  have hs := sum_len h
  rw [s_fJoin, e]
  dsimp only
  rw [if_pos (big_of (by omega))]
theorem sh_out {x0 : Option S} {s : Stp} (h : okT s) : cturn (gNm 2) eYes ce_shown_steps_2 [2] (stepD s) [x0, none, none] = some ([.str (oneT s)], [x0, none, none]) := by
  have el := sh_in (x0 := x0) h
  obtain ⟨h1, h2⟩ := parts_len h
  have j : fJoin (.fz (.str [32])) (.ol ((partsT s).map D.str)) = some (.fz (.str (oneT s))) := join_of h2 (by simp; omega)
  generalize (partsT s).map D.str = L at *
  generalize stepD s = z at *
  simp [cturn, ce_shown_steps_2, el, j, -s_eLc, -s_fJoin]
theorem shown_run {d : D} {L M : List D} {n : Int} {t : List Nat} (ln : fLen (.fz d) = some (.fz (.int n))) (hn : n ≠ 0) (it : itemsOf (.fz d) = some L) (lc : cmpL (gNm 2) eYes ce_shown_steps_2 [2] L [some (.fz d), none, none] [] = .ok M [some (.fz d), none, none]) (j : fJoin (.fz (.str [59, 32])) (.ol M) = some (.fz (.str t))) :
    F_shown_steps [.fz d] = .ok (.fz (.str t)) [.fz d] := by
  have el : eLc (eCons (eVar 0) eNil) mkSeq (gNm 2) eYes ce_shown_steps_2 [2] [some (.fz d), none, none] = .ok (.val (.ol M)) [some (.fz d), none, none] :=
    lc_lfz (i := 0) (d := d) (r1 := [some (.fz d), none, none]) (by simp) rfl it (by simp) lc
  rw [F_shown_steps_eq]
  simp [b_shown_steps, ln, hn, el, j, -s_eLc, -s_fJoin]
theorem shown_nil {d : D} (ln : fLen (.fz d) = some (.fz (.int 0))) : F_shown_steps [.fz d] = .ok (.fz (.str [45])) [.fz d] := by
  rw [F_shown_steps_eq]
  simp [b_shown_steps, ln]
theorem shown_eq {d : D} {ss : List Stp} (hd : d = .tup (ss.map stepD) ∨ d = .lst (ss.map stepD)) (h : ∀ s ∈ ss, okT s) (hl : ss.length ≤ 1000) : F_shown_steps [.fz d] = .ok (.fz (.str (stepsT ss))) [.fz d] := by
  have ln : fLen (.fz d) = some (.fz (.int (ss.length : Int))) := by
    rcases hd with rfl | rfl
    · rw [s_lenT, List.length_map]
    · rw [s_lenF, List.length_map]
  have it : itemsOf (.fz d) = some (ss.map stepD) := by rcases hd with rfl | rfl <;> rfl
  by_cases c : ss = []
  · subst c
    exact shown_nil ln
  · have lc : cmpL (gNm 2) eYes ce_shown_steps_2 [2] (ss.map stepD) [some (.fz d), none, none] [] = .ok ((ss.map stepD).map fun d => match d with | .tup ds => .str (joinN [32] (ds.map pT)) | d => d) [some (.fz d), none, none] := by
      refine cmpL_one (fun d => match d with | .tup ds => .str (joinN [32] (ds.map pT)) | d => d) (by rw [List.length_map]; omega) fun z hz => ?_
      obtain ⟨s, hs, rfl⟩ := List.mem_map.mp hz
      rw [sh_out (h s hs)]
      have e : (partsD s).map pT = partsT s := by cases s <;> simp [partsD, partsT, pT, intTxt_num]
      rw [stepD_eq]
      dsimp only
      rw [e]
      rfl
    have e : ((ss.map stepD).map fun d => match d with | .tup ds => D.str (joinN [32] (ds.map pT)) | d => d) = (ss.map oneT).map D.str := by
      rw [List.map_map, List.map_map]
      refine List.map_congr_left fun s _ => ?_
      have e : (partsD s).map pT = partsT s := by cases s <;> simp [partsD, partsT, pT, intTxt_num]
      show (match stepD s with | .tup ds => D.str (joinN [32] (ds.map pT)) | d => d) = _
      rw [stepD_eq]
      dsimp only
      rw [e]
      rfl
    rw [e] at lc
    have es : stepsT ss = joinN [59, 32] (ss.map oneT) := if_neg c
    rw [es]
    refine shown_run ln (by intro z; exact c (List.length_eq_zero_iff.mp (by omega))) it lc (join_of (n := 52) ?_ (by rw [List.length_map]; simp; omega))
    intro p hp
    obtain ⟨s, hs, rfl⟩ := List.mem_map.mp hp
    exact one_len (h s hs)
/-! the law's own text -/
theorem joinN_flat (sep p : List Nat) : ∀ qs : List (List Nat), joinN sep (p :: qs) = p ++ qs.flatMap fun q => sep ++ q := by
  intro qs
  induction qs generalizing p with
  | nil => show p = _; simp
  | cons q r ih =>
    show p ++ (sep ++ joinN sep (q :: r)) = _
    rw [ih q, List.flatMap_cons, List.append_assoc]
theorem tx1_go {x0 x2 : Option S} : ∀ (ds : List D) (acc : List Nat) (x3 : Option S), (∀ d ∈ ds, partD d) → acc.length + 13 * ds.length ≤ 1000000 → sf x3 →
    ∃ x3', sf x3' ∧ forL (gNm 3) fb__law_text_1 ds [x0, some (.fz (.str acc)), x2, x3] = .nx [x0, some (.fz (.str (acc ++ ds.flatMap fun d => [32] ++ pT d))), x2, x3']
  | [], acc, x3, _, _, h3 => ⟨x3, h3, by rw [List.flatMap_nil, List.append_nil]; rfl⟩
  | d :: ds, acc, x3, hd, hl, h3 => by
    rw [List.length_cons] at hl
    obtain ⟨h1, h2⟩ := partD_ok (hd d (List.mem_cons_self ..))
    have g : gNm 3 d [x0, some (.fz (.str acc)), x2, x3] = some [x0, some (.fz (.str acc)), x2, some (.fz d)] := by
      rcases h3 with rfl | ⟨z, rfl⟩ <;> simp
    have a1 : fAdd (.fz (.str acc)) (.fz (.str [32])) = some (.fz (.str (acc ++ [32]))) := adS (by simp; omega)
    have a2 : fAdd (.fz (.str (acc ++ [32]))) (.fz (.str (pT d))) = some (.fz (.str (acc ++ [32] ++ pT d))) := adS (by simp; omega)
    have t : fb__law_text_1 [x0, some (.fz (.str acc)), x2, some (.fz d)] = .nx [x0, some (.fz (.str (acc ++ [32] ++ pT d))), x2, some (.fz d)] := by
      generalize pT d = q at *
      simp [fb__law_text_1, h1, a1, a2, -s_addS, -List.append_assoc]
    obtain ⟨x3', g3, y⟩ := tx1_go ds (acc ++ [32] ++ pT d) (some (.fz d)) (fun z hz => hd z (List.mem_cons_of_mem _ hz)) (by simp; omega) sf_f
    refine ⟨x3', g3, ?_⟩
    rw [forL, g]
    dsimp only
    rw [t]
    dsimp only
    rw [y, List.flatMap_cons, List.append_assoc, List.append_assoc, List.append_assoc]
theorem tx2_run {x0 x3 x3' : Option S} {acc a1 a2 r w : List Nat} {ds ps : List D} (sl : fSl (.fz (.tup ds)) (.fz (.int 1)) (.fz .non) = some (.fz (.tup ps))) (h0 : ds[0]? = some (.str w)) (e1' : fAdd (.fz (.str acc)) (.fz (.str [59, 32])) = some (.fz (.str a1))) (e2' : fAdd (.fz (.str (if acc = [] then acc else a1))) (.fz (.str w)) = some (.fz (.str a2)))
    (lp : forL (gNm 3) fb__law_text_1 ps [x0, some (.fz (.str a2)), some (.fz (.tup ds)), x3] = .nx [x0, some (.fz (.str r)), some (.fz (.tup ds)), x3']) :
    fb__law_text_2 [x0, some (.fz (.str acc)), some (.fz (.tup ds)), x3] = .nx [x0, some (.fz (.str r)), some (.fz (.tup ds)), x3'] := by
  have it : itemsOf (.fz (.tup ps)) = some ps := rfl
  by_cases c : acc = []
  · subst c
    rw [if_pos rfl] at e2'
    simp [fb__law_text_2, sl, h0, e2', lp, it, -s_addS]
  · rw [if_neg c] at e2'
    simp [fb__law_text_2, c, sl, h0, e1', e2', lp, it, -s_addS]
end W_k11

namespace W_k11
open PySem PySem.Spec PyProof.Rows L2 GB
theorem one_flat (s : Stp) : ∃ w ps, partsD s = .str w :: ps ∧ w.length ≤ 4 ∧ w ≠ [] ∧ ps.length ≤ 3 ∧ oneT s = w ++ ps.flatMap fun d => [32] ++ pT d := by
  cases s with
  | out p => exact ⟨_, _, rfl, by simp, by simp, by simp, by simp [oneT, partsT, joinN_flat, pT, intTxt_num]⟩
  | ins p c => exact ⟨_, _, rfl, by simp, by simp, by simp, by simp [oneT, partsT, joinN_flat, pT, intTxt_num]⟩
  | ring p t m => exact ⟨_, _, rfl, by simp, by simp, by simp, by simp [oneT, partsT, joinN_flat, pT, intTxt_num]⟩
theorem tx2_turn {x0 x3 : Option S} {s : Stp} (h : okT s) {acc : List Nat} (ha : acc.length ≤ 100000) (h3 : sf x3) : ∃ x3', sf x3' ∧ fb__law_text_2 [x0, some (.fz (.str acc)), some (.fz (stepD s)), x3] = .nx [x0, some (.fz (.str ((if acc = [] then acc else acc ++ [59, 32]) ++ oneT s))), some (.fz (stepD s)), x3'] := by
  obtain ⟨w, ps, e, hw, nw, hp, e2⟩ := one_flat s
  have pd := partsD_ok h
  rw [e] at pd
  have l1 : (if acc = [] then acc else acc ++ [59, 32]).length ≤ 100002 := by split <;> (try rw [List.length_append]) <;> (try simp only [List.length_cons, List.length_nil]) <;> omega
  obtain ⟨x3', g3, y⟩ := tx1_go (x0 := x0) (x2 := some (.fz (stepD s))) ps ((if acc = [] then acc else acc ++ [59, 32]) ++ w) x3 (fun d hd => pd d (List.mem_cons_of_mem _ hd)) (by rw [List.length_append]; omega) h3
  refine ⟨x3', g3, ?_⟩
  rw [List.append_assoc, ← e2] at y
  rw [stepD_eq, e] at y ⊢
  exact tx2_run (sl_fromT _ 1) rfl (adS (by simp; omega)) (adS (by omega)) y
def accT (acc : List Nat) (ss : List Stp) : List Nat := ss.foldl (fun acc s => (if acc = [] then acc else acc ++ [59, 32]) ++ oneT s) acc
theorem accT_flat : ∀ {ss : List Stp} {acc : List Nat}, acc ≠ [] → accT acc ss = acc ++ ss.flatMap fun s => [59, 32] ++ oneT s
  | [], acc, _ => by show acc = _; simp
  | s :: ss, acc, h => by
    show accT ((if acc = [] then acc else acc ++ [59, 32]) ++ oneT s) ss = _
    rw [if_neg h, accT_flat (by simp), List.flatMap_cons]
    simp only [List.append_assoc]
theorem accT_eq {ss : List Stp} (h : ss ≠ []) : accT [] ss = joinN [59, 32] (ss.map oneT) := by
  cases ss with
  | nil => exact absurd rfl h
  | cons s ss =>
    obtain ⟨c, w, e, _⟩ := one_head s
    show accT ((if ([] : List Nat) = [] then [] else [] ++ [59, 32]) ++ oneT s) ss = _
    rw [if_pos rfl, List.nil_append, accT_flat (by rw [e]; simp), List.map_cons, joinN_flat, List.flatMap_map]
theorem tx2_go {x0 : Option S} : ∀ (ss : List Stp) (acc : List Nat) (x2 x3 : Option S), (∀ s ∈ ss, okT s) → acc.length + 60 * ss.length ≤ 100000 → sf x2 → sf x3 →
    ∃ x2' x3', forL (gNm 2) fb__law_text_2 (ss.map stepD) [x0, some (.fz (.str acc)), x2, x3] = .nx [x0, some (.fz (.str (accT acc ss))), x2', x3']
  | [], acc, x2, x3, _, _, _, _ => ⟨x2, x3, rfl⟩
  | s :: ss, acc, x2, x3, hs, hl, h2, h3 => by
    rw [List.length_cons] at hl
    have ok := hs s (List.mem_cons_self ..)
    have g : gNm 2 (stepD s) [x0, some (.fz (.str acc)), x2, x3] = some [x0, some (.fz (.str acc)), some (.fz (stepD s)), x3] := by
      generalize stepD s = d
      rcases h2 with rfl | ⟨z, rfl⟩ <;> simp
    obtain ⟨x3', g3, t⟩ := tx2_turn (x0 := x0) ok (acc := acc) (by omega) h3
    have := one_len ok
    have l2 : ((if acc = [] then acc else acc ++ [59, 32]) ++ oneT s).length ≤ acc.length + 54 := by
      rw [List.length_append]
      split <;> (try rw [List.length_append]) <;> (try simp only [List.length_cons, List.length_nil]) <;> omega
    obtain ⟨y2, y3, y⟩ := tx2_go (x0 := x0) ss ((if acc = [] then acc else acc ++ [59, 32]) ++ oneT s) (some (.fz (stepD s))) x3' (fun z hz => hs z (List.mem_cons_of_mem _ hz)) (by omega) sf_f g3
    refine ⟨y2, y3, ?_⟩
    rw [List.map_cons, forL, g]
    dsimp only
    rw [t]
    dsimp only
    rw [y]
    rfl
theorem tx_run {L : List D} {r : List Nat} {x2 x3 : Option S} {b : Bool} (lp : forL (gNm 2) fb__law_text_2 L [some (.fz (.tup L)), some (.fz (.str [])), none, none] = .nx [some (.fz (.tup L)), some (.fz (.str r)), x2, x3]) (ne : fNe (.fz (.tup L)) (.fz (.tup [])) = some (.fz (.bl b))) :
    F__law_text [.fz (.tup L)] = .ok (.fz (.str (if b then r else [45]))) [.fz (.tup L)] := by
  have it : itemsOf (.fz (.tup L)) = some L := rfl
  rw [F__law_text_eq]
  cases b <;> simp [b__law_text, it, lp, ne]
theorem okT_ok {s : Stp} (h : okT s) : stepOk s := by
  cases s with
  | out p => have h : p < 10000 := h; show p ≤ 100000; omega
  | ins p c => exact ⟨by have := h.1; omega, h.2⟩
  | ring p t m => exact ⟨by have := h.1; omega, h.2.1, by have := h.2.2.2.1; omega, by have := h.2.2.2.2; omega⟩
theorem ne_nil {ss : List Stp} (h : ∀ s ∈ ss, okT s) : fNe (.fz (.tup (ss.map stepD))) (.fz (.tup [])) = some (.fz (.bl (!decide (ss = [])))) := by
  rw [neT_nil (eqT_steps fun s hs => okT_ok (h s hs))]
  cases ss <;> simp
theorem text_eq {ss : List Stp} (h : ∀ s ∈ ss, okT s) (hl : ss.length ≤ 1000) : F__law_text [.fz (.tup (ss.map stepD))] = .ok (.fz (.str (stepsT ss))) [.fz (.tup (ss.map stepD))] := by
  obtain ⟨x2, x3, y⟩ := tx2_go (x0 := some (.fz (.tup (ss.map stepD)))) ss [] none none h (by simp; omega) sf_n sf_n
  have z := tx_run y (ne_nil h)
  rw [z]
  by_cases c : ss = []
  · subst c; rfl
  · have e : (!decide (ss = [])) = true := by simpa using c
    rw [e, if_pos rfl, accT_eq c]
    unfold stepsT
    rw [if_neg c]
/-! the steps drawn -/
theorem drN {k : List (Key × D)} (t : Feed k) {m : Nat} (h : 0 < m) (h2 : m < 1000000) : ∃ n k', n < m ∧ Feed k' ∧ F__law_draw [.bd k, .fz (.int (m : Nat))] = .ok (.fz (.int (n : Nat))) [.bd k', .fz (.int (m : Nat))] := by
  obtain ⟨v, k2, h0, hv, t2, y2⟩ := draw_eq t (many := (m : Int)) (by omega) (by omega)
  obtain ⟨n, rfl⟩ := Int.eq_ofNat_of_zero_le h0
  exact ⟨n, k2, by omega, t2, y2⟩
theorem number_eq {k : List (Key × D)} (t : Feed k) : ∃ k' n, Feed k' ∧ n < 10000 ∧ F__law_number [.bd k] = .ok (.fz (.int (n : Nat))) [.bd k'] := by
  obtain ⟨a, k1, ha, t1, y1⟩ := drN t (m := 10000) (by omega) (by omega)
  obtain ⟨b, k2, hb, t2, y2⟩ := drN t1 (m := 9) (by omega) (by omega)
  have y1 : F__law_draw [.bd k, .fz (.int 10000)] = .ok (.fz (.int (a : Nat))) [.bd k1, .fz (.int 10000)] := y1
  have y2 : F__law_draw [.bd k1, .fz (.int 9)] = .ok (.fz (.int (b : Nat))) [.bd k2, .fz (.int 9)] := y2
  have key : ∃ n : Nat, n < 10000 ∧ atI [D.int 0, .int 1, .int 9, .int 10, .int 99, .int 100, .int 1000, .int 9999, .int (a : Nat)] (b : Int) = some (.int (n : Nat)) := by
    rw [atI_n]
    have : b = 0 ∨ b = 1 ∨ b = 2 ∨ b = 3 ∨ b = 4 ∨ b = 5 ∨ b = 6 ∨ b = 7 ∨ b = 8 := by omega
    rcases this with rfl | rfl | rfl | rfl | rfl | rfl | rfl | rfl | rfl
    · exact ⟨0, by omega, rfl⟩
    · exact ⟨1, by omega, rfl⟩
    · exact ⟨9, by omega, rfl⟩
    · exact ⟨10, by omega, rfl⟩
    · exact ⟨99, by omega, rfl⟩
    · exact ⟨100, by omega, rfl⟩
    · exact ⟨1000, by omega, rfl⟩
    · exact ⟨9999, by omega, rfl⟩
    · exact ⟨a, ha, rfl⟩
  obtain ⟨n, hn, e⟩ := key
  refine ⟨k2, n, t2, hn, ?_⟩
  generalize ((n : Nat) : Int) = n' at *
  generalize ((a : Nat) : Int) = a' at *
  generalize ((b : Nat) : Int) = b' at *
  rw [F__law_number_eq]
  simp [b__law_number, y1, y2, e]
theorem nx_run0 {k k1 k2 k3 : List (Key × D)} {i n : Int} {c : Nat} (y1 : F__law_draw [.bd k, .fz (.int 12)] = .ok (.fz (.int i)) [.bd k1, .fz (.int 12)]) (a : atI [97, 98, 99, 100, 101, 102, 65, 66, 67, 68, 69, 70] i = some c) (y2 : F__law_draw [.bd k1, .fz (.int 3)] = .ok (.fz (.int 0)) [.bd k2, .fz (.int 3)]) (y3 : F__law_number [.bd k2] = .ok (.fz (.int n)) [.bd k3]) :
    F__law_next [.bd k] = .ok (.fz (.tup [.str [111, 117, 116], .int n])) [.bd k3] := by
  rw [F__law_next_eq]
  have hb : big 12 = true := big_of (by omega)
  simp [b__law_next, y1, a, y2, y3, hb]
theorem nx_run1 {k k1 k2 k3 : List (Key × D)} {i n : Int} {c : Nat} (y1 : F__law_draw [.bd k, .fz (.int 12)] = .ok (.fz (.int i)) [.bd k1, .fz (.int 12)]) (a : atI [97, 98, 99, 100, 101, 102, 65, 66, 67, 68, 69, 70] i = some c) (y2 : F__law_draw [.bd k1, .fz (.int 3)] = .ok (.fz (.int 1)) [.bd k2, .fz (.int 3)]) (y3 : F__law_number [.bd k2] = .ok (.fz (.int n)) [.bd k3]) :
    F__law_next [.bd k] = .ok (.fz (.tup [.str [105, 110], .int n, .str [c]])) [.bd k3] := by
  rw [F__law_next_eq]
  have hb : big 12 = true := big_of (by omega)
  simp [b__law_next, y1, a, y2, y3, hb]
theorem nx_run2 {k k1 k2 k3 k4 k5 : List (Key × D)} {i n m : Int} {c : Nat} {w u : List Nat} (y1 : F__law_draw [.bd k, .fz (.int 12)] = .ok (.fz (.int i)) [.bd k1, .fz (.int 12)]) (a : atI [97, 98, 99, 100, 101, 102, 65, 66, 67, 68, 69, 70] i = some c) (y2 : F__law_draw [.bd k1, .fz (.int 3)] = .ok (.fz (.int 2)) [.bd k2, .fz (.int 3)]) (y3 : F__law_number [.bd k2] = .ok (.fz (.int n)) [.bd k3])
    (y4 : F__law_some [.bd k3, .fz (.int 6), .fz (.int 11)] = .ok (.fz (.str w)) [.bd k4, .fz (.int 6), .fz (.int 11)]) (ad : fAdd (.fz (.str [c])) (.fz (.str w)) = some (.fz (.str u))) (y5 : F__law_number [.bd k4] = .ok (.fz (.int m)) [.bd k5]) :
    F__law_next [.bd k] = .ok (.fz (.tup [.str [114, 105, 110, 103], .int n, .str u, .int m])) [.bd k5] := by
  rw [F__law_next_eq]
  have hb : big 12 = true := big_of (by omega)
  simp [b__law_next, y1, a, y2, y3, y4, ad, y5, hb, -s_addS]
theorem sgn_at {i : Nat} (h : i < 12) : ∃ c, isL c = true ∧ atI [97, 98, 99, 100, 101, 102, 65, 66, 67, 68, 69, 70] (i : Int) = some c := by
  rw [atI_n]
  have hl : i < [97, 98, 99, 100, 101, 102, 65, 66, 67, 68, 69, 70].length := h
  refine ⟨[97, 98, 99, 100, 101, 102, 65, 66, 67, 68, 69, 70][i], ?_, List.getElem?_eq_getElem hl⟩
  have all : ∀ c ∈ [97, 98, 99, 100, 101, 102, 65, 66, 67, 68, 69, 70], isL c = true := by decide
  exact all _ (List.getElem_mem hl)
theorem next_eq {k : List (Key × D)} (t : Feed k) : ∃ k' s, Feed k' ∧ okT s ∧ F__law_next [.bd k] = .ok (.fz (stepD s)) [.bd k'] := by
  obtain ⟨i, k1, hi, t1, y1⟩ := drN t (m := 12) (by omega) (by omega)
  obtain ⟨b, k2, hb, t2, y2⟩ := drN t1 (m := 3) (by omega) (by omega)
  obtain ⟨c, hc, a⟩ := sgn_at hi
  obtain ⟨k3, n, t3, hn, y3⟩ := number_eq t2
  have : b = 0 ∨ b = 1 ∨ b = 2 := by omega
  rcases this with rfl | rfl | rfl
  · exact ⟨k3, .out n, t3, hn, nx_run0 y1 a y2 y3⟩
  · exact ⟨k3, .ins n c, t3, ⟨hn, hc⟩, nx_run1 y1 a y2 y3⟩
  · obtain ⟨k4, w, t4, hw, hl, y4⟩ := some_eq t3 (m := 6) (mo := 11) (by omega) (by omega) (by omega)
    obtain ⟨k5, m, t5, hm, y5⟩ := number_eq t4
    refine ⟨k5, .ring n (c :: w) m, t5, ⟨hn, fun z hz => ?_, by simp, by simp; omega, hm⟩, nx_run2 y1 a y2 y3 y4 (adS (by simp; omega)) y5⟩
    rcases List.mem_cons.mp hz with rfl | hz
    · exact hc
    · exact hw z hz
end W_k11

namespace W_k11
open PySem PySem.Spec PyProof.Rows L2 GB
/-! repr -/
theorem part_spec {d : D} (h : (∃ n : Nat, n < 10000 ∧ d = .int (n : Nat)) ∨ ∃ w, w.length ≤ 12 ∧ (∀ c ∈ w, c < 16 ^ 8) ∧ d = .str w) : d.leaf = true ∧ d.py.depth = 0 ∧ d.py.weight ≤ 20 := by
  rcases h with ⟨n, h, rfl⟩ | ⟨w, h1, h2, rfl⟩
  · have lg : ((n : Nat) : Int).natAbs < 2 ^ 14 := by omega
    refine ⟨decide_eq_true (Nat.lt_of_lt_of_le (log_of lg (by omega)) (by omega)), by rw [D.py, PyData.depth], ?_⟩
    rw [D.py, PyData.weight]
    split
    · exact Nat.zero_le _
    · have := log_of lg (by omega); omega
  · exact ⟨List.all_eq_true.mpr fun c hc => decide_eq_true (h2 c hc), depth_str _, by rw [weight_str]; omega⟩
theorem partsD_spec {s : Stp} (h : okT s) : ∀ d ∈ partsD s, d.leaf = true ∧ d.py.depth = 0 ∧ d.py.weight ≤ 20 := by
  have lo : ∀ {w : List Nat}, W w → ∀ c ∈ w, c < 16 ^ 8 := fun hw c hc => by have := isL_iff.mp (hw c hc); omega
  intro d hd
  refine part_spec ?_
  cases s with
  | out p =>
    simp only [partsD, List.mem_cons, List.not_mem_nil, or_false] at hd
    rcases hd with rfl | rfl
    · exact .inr ⟨_, by simp, by decide, rfl⟩
    · exact .inl ⟨p, h, rfl⟩
  | ins p c =>
    simp only [partsD, List.mem_cons, List.not_mem_nil, or_false] at hd
    rcases hd with rfl | rfl | rfl
    · exact .inr ⟨_, by simp, by decide, rfl⟩
    · exact .inl ⟨p, h.1, rfl⟩
    · exact .inr ⟨_, by simp, lo (W1 h.2), rfl⟩
  | ring p t m =>
    simp only [partsD, List.mem_cons, List.not_mem_nil, or_false] at hd
    rcases hd with rfl | rfl | rfl | rfl
    · exact .inr ⟨_, by simp, by decide, rfl⟩
    · exact .inl ⟨p, h.1, rfl⟩
    · exact .inr ⟨_, h.2.2.2.1, lo h.2.1, rfl⟩
    · exact .inl ⟨m, h.2.2.2.2, rfl⟩
theorem step_spec {s : Stp} (h : okT s) : (stepD s).leaf = true ∧ (stepD s).py.depth ≤ 1 ∧ (stepD s).py.weight ≤ 90 := by
  have sp := partsD_spec h
  have hl : (partsD s).length ≤ 4 := by cases s <;> simp [partsD]
  rw [stepD_eq]
  refine ⟨?_, ?_, ?_⟩
  · show leafAll _ = true
    rw [leafAll_iff]
    exact fun d hd => (sp d hd).1
  · rw [D.py, PyData.depth]
    have := depthAll_le (B := 0) (partsD s) fun d hd => Nat.le_of_eq (sp d hd).2.1
    omega
  · rw [D.py, PyData.weight]
    have := weightAll_le (B := 20) (partsD s) fun d hd => (sp d hd).2.2
    have : (partsD s).length * 21 ≤ 4 * 21 := Nat.mul_le_mul hl (Nat.le_refl _)
    omega
theorem repr_steps {ss : List Stp} (h : ∀ s ∈ ss, okT s) (hl : ss.length ≤ 80) : ∃ q, fRepr (.fz (.tup (ss.map stepD))) = some (.fz (.str q)) := by
  have sp : ∀ d ∈ ss.map stepD, d.leaf = true ∧ d.py.depth ≤ 1 ∧ d.py.weight ≤ 90 := fun d hd => by
    obtain ⟨s, hs, rfl⟩ := List.mem_map.mp hd
    exact step_spec (h s hs)
  refine ⟨_, repr_tree rfl (reprOk_of ?_ ?_ ?_)⟩
  · show leafAll _ = true
    rw [leafAll_iff]
    exact fun d hd => (sp d hd).1
  · rw [D.py, PyData.depth]
    have := depthAll_le (B := 1) (ss.map stepD) fun d hd => (sp d hd).2.1
    omega
  · rw [D.py, PyData.weight]
    have := weightAll_le (B := 90) (ss.map stepD) fun d hd => (sp d hd).2.2
    rw [List.length_map] at this
    have : ss.length * 91 ≤ 80 * 91 := Nat.mul_le_mul hl (Nat.le_refl _)
    omega
theorem stepsT_low {ss : List Stp} (h : ∀ s ∈ ss, okT s) : ∀ c ∈ stepsT ss, c < 16 ^ 8 := by
  intro c hc
  unfold stepsT at hc
  split at hc
  · simp at hc; omega
  · rcases joinN_mem hc with q | ⟨w, hw, q⟩
    · simp at q; omega
    · obtain ⟨s, hs, rfl⟩ := List.mem_map.mp hw
      have ok := h s hs
      rcases joinN_mem q with q2 | ⟨v, hv, q2⟩
      · simp at q2; omega
      · cases s with
        | out p =>
          simp only [partsT, List.mem_cons, List.not_mem_nil, or_false] at hv
          rcases hv with rfl | rfl
          · simp at q2; omega
          · have := numL_low q2; omega
        | ins p d =>
          simp only [partsT, List.mem_cons, List.not_mem_nil, or_false] at hv
          rcases hv with rfl | rfl | rfl
          · simp at q2; omega
          · have := numL_low q2; omega
          · rw [List.mem_singleton] at q2; subst q2; have := isL_iff.mp ok.2; omega
        | ring p t m =>
          simp only [partsT, List.mem_cons, List.not_mem_nil, or_false] at hv
          rcases hv with rfl | rfl | rfl | rfl
          · simp at q2; omega
          · have := numL_low q2; omega
          · have := isL_iff.mp (ok.2.1 c q2); omega
          · have := numL_low q2; omega
theorem repr_text {ss : List Stp} (h : ∀ s ∈ ss, okT s) (hl : ss.length ≤ 80) : ∃ q, fRepr (.fz (.str (stepsT ss))) = some (.fz (.str q)) := by
  have ln : (stepsT ss).length ≤ 8000 := by
    unfold stepsT
    split
    · decide
    · have := joinN_len (sep := [59, 32]) (n := 52) (ps := ss.map oneT) fun p hp => by
        obtain ⟨s, hs, rfl⟩ := List.mem_map.mp hp
        exact one_len (h s hs)
      rw [List.length_map] at this
      have e : ss.length * (52 + [59, 32].length) ≤ 80 * 54 := Nat.mul_le_mul hl (by simp)
      omega
  exact ⟨_, repr_tree rfl (reprOk_str (stepsT_low h) ln)⟩
/-! the law -/
theorem steps_lc {k : List (Key × D)} (t : Feed k) {x0 x2 x3 x4 x5 : Option S} (h5 : sf x5) : ∃ (k' : List (Key × D)) (ss : List Stp), Feed k' ∧ (∀ s ∈ ss, okT s) ∧ ss.length ≤ 10 ∧
    eLc (eCons (eFn F__law_draw (eCons (eVar 1) (eCons (eC (.int 11)) eNil))) eNil) mkR1 (gNm 5) eYes ce_law_1 [5] [x0, some (.od k), x2, x3, x4, x5] = .ok (.val (.ol (ss.map stepD))) [x0, some (.od k'), x2, x3, x4, x5] := by
  obtain ⟨n, k1, hn, t1, y1⟩ := drN t (m := 11) (by omega) (by omega)
  have y1 : F__law_draw [.bd k, .fz (.int 11)] = .ok (.fz (.int (n : Nat))) [.bd k1, .fz (.int 11)] := y1
  obtain ⟨r', acc, yc, k2, ss, t2, hs, hlen, rfl, rfl⟩ := cmpL_go (fg := gNm 5) (ft := eYes) (fe := ce_law_1) (vs := [5]) (fun i r acc => ∃ (k : List (Key × D)) (ss : List Stp), Feed k ∧ (∀ s ∈ ss, okT s) ∧ ss.length = i ∧ acc = ss.map stepD ∧ r = [x0, some (.od k), x2, x3, x4, none])
    (ds := upFrom 0 n) (acc := []) (r := [x0, some (.od k1), x2, x3, x4, none]) 0 (by rw [upFrom_len]; simp; omega) ⟨k1, [], t1, (fun c hc => nomatch hc), rfl, rfl, rfl⟩ (by
      rintro i d r acc hd ⟨k, ss, t, hs, hl, rfl, rfl⟩
      obtain ⟨k', s, t', ok, y⟩ := next_eq t
      refine ⟨[stepD s], [x0, some (.od k'), x2, x3, x4, none], ?_, k', ss ++ [s], t', fun x hx => (List.mem_append.mp hx).elim (hs x) fun z => by rw [List.mem_singleton] at z; subst z; exact ok, by rw [List.length_append, hl]; rfl, by simp, rfl⟩
      generalize stepD s = d' at *
      simp [cturn, ce_law_1, y])
  rw [upFrom_len, Nat.zero_add] at hlen
  refine ⟨k2, ss, t2, hs, by omega, ?_⟩
  exact lc_fz (d := .int (n : Nat)) (r1 := [x0, some (.od k1), x2, x3, x4, x5]) (by simp [y1]) (mkR1_n (by omega)) (by rcases h5 with rfl | ⟨z, rfl⟩ <;> simp) yc
noncomputable def lw_0 : Rho → Fl := (fSet 3 (e1 (p1 fTupU) (eLc (eCons (eFn F__law_draw (eCons (eVar 1) (eCons (eC (.int 11)) eNil))) eNil) mkR1 (gNm 5) eYes ce_law_1 [5])))
noncomputable def lw_1 : Rho → Fl := (fSeq (fSet 4 (eFn F__law_text (eCons (eVar 3) eNil)))
  (fSeq (fIf (eOrT (eBl (e2 (p2 fNe) (e1 (p1 fRepr) (eFn F_shown_steps (eCons (eVar 3) eNil))) (e1 (p1 fRepr) (eVar 4)))) (eBl (e2 (p2 fNe) (e1 (p1 fRepr) (eFn F_read_steps (eCons (eVar 4) eNil))) (e1 (p1 fRepr) (eVar 3))))) (fRet (eC (.bl false)))
  fNil)
  (fSeq (fIf (eBl (e2 (p2 fNe) (e1 (p1 fRepr) (eFn F_shown_steps (eCons (e1 (p1 fListU) (eVar 3)) eNil))) (e1 (p1 fRepr) (eVar 4)))) (fRet (eC (.bl false)))
  fNil)
  (fIf (eAndT (eBl (e2 (p2 fNe) (eVar 3) (eTup eNil))) (eBl (e2 (p2 fNe) (e1 (p1 fRepr) (eFn F_read_steps (eCons (eFn F__law_text (eCons (eSl (eVar 3) none (some (eC (.int 1)))) eNil)) eNil))) (e1 (p1 fRepr) (eSl (eVar 3) none (some (eC (.int 1)))))))) (fRet (eC (.bl false)))
  fNil))))
theorem lw_cut : fb_law_2 = fSeq lw_0 lw_1 := rfl
theorem lw0_run {k k' : List (Key × D)} {L : List D} {x0 x2 x3 x4 x5 : Option S} (h3 : sf x3) (lc : eLc (eCons (eFn F__law_draw (eCons (eVar 1) (eCons (eC (.int 11)) eNil))) eNil) mkR1 (gNm 5) eYes ce_law_1 [5] [x0, some (.od k), x2, x3, x4, x5] = .ok (.val (.ol L)) [x0, some (.od k'), x2, x3, x4, x5]) :
    lw_0 [x0, some (.od k), x2, x3, x4, x5] = .nx [x0, some (.od k'), x2, some (.fz (.tup L)), x4, x5] := by
  have tt : fTupU (.ol L) = some (.fz (.tup L)) := rfl
  rcases h3 with rfl | ⟨z, rfl⟩ <;> simp [lw_0, lc, tt, -s_eLc]
theorem lw1_run {L M : List D} {t u q q2 q3 : List Nat} {b : Bool} {x0 x1 x2 x4 x5 : Option S} (h4 : sf x4) (tx : F__law_text [.fz (.tup L)] = .ok (.fz (.str t)) [.fz (.tup L)]) (sh : F_shown_steps [.fz (.tup L)] = .ok (.fz (.str t)) [.fz (.tup L)]) (sh2 : F_shown_steps [.fz (.lst L)] = .ok (.fz (.str t)) [.fz (.lst L)]) (rd : F_read_steps [.fz (.str t)] = .ok (.fz (.tup L)) [.fz (.str t)])
    (rp : fRepr (.fz (.str t)) = some (.fz (.str q))) (rp2 : fRepr (.fz (.tup L)) = some (.fz (.str q2))) (ne : fNe (.fz (.tup L)) (.fz (.tup [])) = some (.fz (.bl b))) (sl : fSl (.fz (.tup L)) (.fz .non) (.fz (.int 1)) = some (.fz (.tup M)))
    (tx2 : F__law_text [.fz (.tup M)] = .ok (.fz (.str u)) [.fz (.tup M)]) (rd2 : F_read_steps [.fz (.str u)] = .ok (.fz (.tup M)) [.fz (.str u)]) (rp3 : fRepr (.fz (.tup M)) = some (.fz (.str q3))) :
    lw_1 [x0, x1, x2, some (.fz (.tup L)), x4, x5] = .nx [x0, x1, x2, some (.fz (.tup L)), some (.fz (.str t)), x5] := by
  have tt : fListU (.fz (.tup L)) = some (.ol L) := rfl
  cases b <;> (rcases h4 with rfl | ⟨z, rfl⟩ <;> simp [lw_1, tx, sh, sh2, rd, rp, rp2, ne, sl, tx2, rd2, rp3, tt])
theorem l_turn {k : List (Key × D)} (t : Feed k) {x0 x2 x3 x4 x5 : Option S} (h3 : sf x3) (h4 : sf x4) (h5 : sf x5) : ∃ (k' : List (Key × D)) (x3' x4' : Option S), Feed k' ∧ sf x3' ∧ sf x4' ∧ fb_law_2 [x0, some (.od k), x2, x3, x4, x5] = .nx [x0, some (.od k'), x2, x3', x4', x5] := by
  obtain ⟨k', ss, t', hs, hl, lc⟩ := steps_lc t (x0 := x0) (x2 := x2) (x3 := x3) (x4 := x4) h5
  have hs1 : ∀ s ∈ ss.take 1, okT s := fun s h => hs s (List.mem_of_mem_take h)
  have hl1 : (ss.take 1).length ≤ 1 := by rw [List.length_take]; omega
  obtain ⟨q, rp⟩ := repr_text hs (by omega)
  obtain ⟨q2, rp2⟩ := repr_steps hs (by omega)
  obtain ⟨q3, rp3⟩ := repr_steps hs1 (by omega)
  have sl := sl_toT (ss.map stepD) 1
  rw [← List.map_take] at sl
  refine ⟨k', some (.fz (.tup (ss.map stepD))), some (.fz (.str (stepsT ss))), t', sf_f, sf_f, ?_⟩
  rw [lw_cut, s_fSeq, lw0_run h3 lc]
  dsimp only
  exact lw1_run h4 (text_eq hs (by omega)) (shown_eq (.inl rfl) hs (by omega)) (shown_eq (.inr rfl) hs (by omega)) (read_back hs (by omega)) rp rp2 (ne_nil hs) sl (text_eq hs1 (by omega)) (read_back hs1 (by omega)) rp3
theorem repr_none : fRepr (.fz (.tup [])) = some (.fz (.str [40, 41])) := by
  rw [repr_tree (s := .fz (.tup [])) (d := .tup []) rfl (reprOk_tup (fun d h => nomatch h) (by simp))]
  rfl
theorem law_run {ds : List D} {k k' : List (Key × D)} {x2 x3 x4 x5 : Option S} (yt : F__law_feed [.fz (.scr ds)] = .ok (.od k) [.fz (.scr ds)]) (lp : fFor (eCons (eC (.int 8)) eNil) mkR1 (gNm 2) fb_law_2 [some (.fz (.scr ds)), some (.od k), none, none, none, none] = .nx [some (.fz (.scr ds)), some (.od k'), x2, x3, x4, x5]) : F_law [.fz (.scr ds)] = .ok (.fz (.bl true)) [.fz (.scr ds)] := by
  have s1 : F_shown_steps [.fz (.tup [])] = .ok (.fz (.str [45])) [.fz (.tup [])] := shown_nil (d := .tup []) (by simp)
  have s2 : F_shown_steps [.fz (.lst [])] = .ok (.fz (.str [45])) [.fz (.lst [])] := shown_nil (d := .lst []) (by simp)
  have e : fEq (.ol [D.str [45], D.str [45]]) (.ol [D.str [45], D.str [45]]) = some (.fz (.bl true)) := GB.eq_self fun d hd => by
    simp only [List.mem_cons, List.not_mem_nil, or_false] at hd
    rcases hd with rfl | rfl <;> exact (eqL_s (by decide)).T
  have rn := read_none
  have rr := repr_none
  rw [F_law_eq]
  simp [b_law, yt, lp, -s_fFor, s1, s2, e, rn, rr]
theorem law_eq (ns : List Int) : F_law [.fz (.scr (ns.map D.int))] = .ok (.fz (.bl true)) [.fz (.scr (ns.map D.int))] := by
  obtain ⟨k, t, yt⟩ := feed_eq ns
  obtain ⟨r', f, k', x2, x3, x4, t', h2, h3, h4, rfl⟩ := forL_inv (fg := gNm 2) (f := fb_law_2) (ds := upFrom 0 8) (r := [some (.fz (.scr (ns.map D.int))), some (.od k), none, none, none, none])
    (fun _ r => ∃ (k : List (Key × D)) (x2 x3 x4 : Option S), Feed k ∧ sf x2 ∧ sf x3 ∧ sf x4 ∧ r = [some (.fz (.scr (ns.map D.int))), some (.od k), x2, x3, x4, none]) ⟨k, none, none, none, t, sf_n, sf_n, sf_n, rfl⟩ (by
      rintro i d r hd ⟨k, x2, x3, x4, t, h2, h3, h4, rfl⟩
      obtain ⟨k', x3', x4', t', h3', h4', y⟩ := l_turn t (x0 := some (.fz (.scr (ns.map D.int)))) (x2 := some (.fz d)) h3 h4 sf_n
      refine ⟨_, ?_, _, .inl y, k', _, x3', x4', t', sf_f, h3', h4', rfl⟩
      rcases h2 with rfl | ⟨z, rfl⟩ <;> simp)
  exact law_run yt ((for_r1 (n := 8) (r1 := [some (.fz (.scr (ns.map D.int))), some (.od k), none, none, none, none]) (by simp) (by omega)).trans f)
end W_k11

open PySem PySem.W PyProof.Rows
set_option maxHeartbeats 0 in
theorem PySem.Challenge.cw_ringwords_k11_steps_written_and_read_holds : PySem.Challenge.rw_ringwords_k11_steps_written_and_read.Holds := by
  w_on; o_law; k_head; (case hw => w_witness2)
  k_fill
  refine GB.law_walk (l := PySem.Challenge.rw_ringwords_k11_steps_written_and_read) (n := 63) (k := 6) (x := "_law_script") (F := W_k11.F_law) rfl (by decide) rfl ⟨rfl, by decide, by decide⟩ (fun w h Y => PySem.W.kIn_of Y) ?G (fun ns hn => W_k11.law_eq ns)
  case G =>
    intro w mg fa h KX G hmg
    refine' W_k11.all_mk KX G hmg ?xa0 ?xl0 ?xg0 ?xk0 ?xa1 ?xl1 ?xg1 ?xk1 ?xa2 ?xl2 ?xg2 ?xk2 ?xa3 ?xl3 ?xg3 ?xk3 ?xa4 ?xl4 ?xg4 ?xk4 ?xa5 ?xl5 ?xg5 ?xk5 ?xa6 ?xl6 ?xg6 ?xk6 ?xa7 ?xl7 ?xg7 ?xk7 ?xa8 ?xl8 ?xg8 ?xk8 ?xa9 ?xl9 ?xg9 ?xk9 ?xa10 ?xl10 ?xg10 ?xk10 ?xa11 ?xl11 ?xg11 ?xk11 ?xa12 ?xl12 ?xg12 ?xk12 ?xa13 ?xl13 ?xg13 ?xk13 ?xa14 ?xl14 ?xg14 ?xk14 ?xz0 ?xz1 ?xz2 ?xz3 ?xz4 ?xz5 ?xz6 ?xz7 ?xz8 ?xz9 ?xv0 ?xr0 ?xv1 ?xr1 ?xv2 ?xr2 ?xv3 ?xr3 ?xv4 ?xr4 ?xv5 ?xr5 ?gka_NoText ?gka_RingError ?gkr_RingError ?gks_RingError ?gki_RingError ?gxL_NoText ?gxs_NoText ?gxe_NoText ?gxt_NoText ?gxk_NoText ?gxi_NoText ?gxj_NoText ?gxl_NoText ?gxg_NoText ?gxq_NoText ?gxf_NoText_step ?gxf_NoText_word ?gtk_PARTS ?gtl_PARTS ?gtq_PARTS ?gto_PARTS ?gtp_PARTS
    (case xa0 => k_is); (case xl0 => k_is); (case xg0 => k_is); (case xk0 => k_is); (case xa1 => k_is); (case xl1 => k_is); (case xg1 => k_is); (case xk1 => k_is); (case xa2 => k_is); (case xl2 => k_is); (case xg2 => k_is); (case xk2 => k_is); (case xa3 => k_is); (case xl3 => k_is); (case xg3 => k_is); (case xk3 => k_is); (case xa4 => k_is); (case xl4 => k_is); (case xg4 => k_is); (case xk4 => k_is); (case xa5 => k_is); (case xl5 => k_is); (case xg5 => k_is); (case xk5 => k_is); (case xa6 => k_is); (case xl6 => k_is); (case xg6 => k_is); (case xk6 => k_is); (case xa7 => k_is); (case xl7 => k_is); (case xg7 => k_is); (case xk7 => k_is); (case xa8 => k_is); (case xl8 => k_is); (case xg8 => k_is); (case xk8 => k_is); (case xa9 => k_is); (case xl9 => k_is); (case xg9 => k_is); (case xk9 => k_is); (case xa10 => k_is); (case xl10 => k_is); (case xg10 => k_is); (case xk10 => k_is); (case xa11 => k_is); (case xl11 => k_is); (case xg11 => k_is); (case xk11 => k_is); (case xa12 => k_is); (case xl12 => k_is); (case xg12 => k_is); (case xk12 => k_is); (case xa13 => k_is); (case xl13 => k_is); (case xg13 => k_is); (case xk13 => k_is); (case xa14 => k_is); (case xl14 => k_is); (case xg14 => k_is); (case xk14 => k_is); (case xz0 => k_is); (case xz1 => k_is); (case xz2 => k_is); (case xz3 => k_is); (case xz4 => k_is); (case xz5 => k_is); (case xz6 => k_is); (case xz7 => k_is); (case xz8 => k_is); (case xz9 => k_is)
    (case xv0 => k_is); (case xr0 => exact ⟨_, rfl⟩)
    (case xv1 => k_is); (case xr1 => exact ⟨_, rfl⟩)
    (case xv2 => k_is); (case xr2 => exact ⟨_, rfl⟩)
    (case xv3 => k_is); (case xr3 => exact ⟨_, rfl⟩)
    (case xv4 => k_is); (case xr4 => exact ⟨_, rfl⟩)
    (case xv5 => k_is); (case xr5 => exact ⟨_, rfl⟩)
    (case gka_NoText => first | k_is | rfl)
    (case gka_RingError => first | k_is | rfl)
    (case gkr_RingError => first | k_is | rfl)
    (case gks_RingError => first | k_is | rfl)
    (case gki_RingError => first | k_is | rfl)
    (case gxL_NoText => first | k_is | rfl)
    (case gxs_NoText => first | k_is | rfl)
    (case gxe_NoText => first | k_is | rfl)
    (case gxt_NoText => first | k_is | rfl)
    (case gxk_NoText => first | k_is | rfl)
    (case gxi_NoText => first | k_is | rfl)
    (case gxj_NoText => first | k_is | rfl)
    (case gxl_NoText => first | k_is | rfl)
    (case gxg_NoText => first | k_is | rfl)
    (case gxq_NoText => first | k_is | rfl)
    (case gxf_NoText_step => first | k_is | rfl)
    (case gxf_NoText_word => first | k_is | rfl)
    (case gtk_PARTS => first | k_is | rfl)
    (case gtl_PARTS => first | k_is | rfl)
    (case gtq_PARTS => exact ⟨⟨_, _, rfl, rfl⟩, ⟨_, _, rfl, rfl⟩, ⟨_, _, rfl, rfl⟩, trivial⟩)
    (case gto_PARTS => first | k_is | rfl)
    (case gtp_PARTS => exact (.cons ⟨⟨_, rfl⟩, _, _, _, _, rfl, (by k_is), rfl, rfl, (by decide), (.cons ⟨_, rfl⟩ .nil)⟩ (.cons ⟨⟨_, rfl⟩, _, _, _, _, rfl, (by k_is), rfl, rfl, (by decide), (.cons ⟨_, rfl⟩ (.cons ⟨_, rfl⟩ .nil))⟩ (.cons ⟨⟨_, rfl⟩, _, _, _, _, rfl, (by k_is), rfl, rfl, (by decide), (.cons ⟨_, rfl⟩ (.cons ⟨_, rfl⟩ (.cons ⟨_, rfl⟩ .nil)))⟩ .nil))))


