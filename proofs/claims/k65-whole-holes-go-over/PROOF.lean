import PyProof.Rows.All
import PySem.Challenge.RW_ringwords_k65_whole_holes_go_over
import HandS.ForMost
import HandS.Exc
import HandS.Walk
import HandS.WordsExc
import HandS.Ends
import HandS.Codes
import HandS.Replace
import HandS.More
import HandS.RaiseMore
import HandS.MapJoin
import HandS.TupAny
import HandS.Dict
import HandS.Iter
import HandS.Style
import PyProof.ReprRoads
import HandS.Words
import HandS.IsInst
import HandS.SortInts
import KE.DataMinMax
import PyProof.Rows.SortShellAny
import HandS.Zip
import KE.GoesEnum
import PyProof.Rows.RegReprOcc
import PyProof.ListStr
import HandS.TupLe
import HandS.NoneIn
import HandS.ExcInit
import KE.KExcIs
import HandS.ExcField
import HandS.ExcIs
import HandS.Deep
import HandS.Flow
import PyProof.CollectStr
import HandS.SuiteRaise
import HandS.RaiseFrom
import HandS.ExcInitHot
import HandS.TupMul
import HandS.Text
import HandS.Strs
import HandS.Conv
import PyProof.TupleOfSeq
import HandS.TryOnly
import HandS.WordsDict
import KE.GoesComp
import HandS.SortRule
import KE.KeyNested
import KE.KDictPairs
import HandS.SetFor
import HandS.Remove
import KE.SortData
import PyProof.ToksMono
import HandS.ReplaceList
set_option Elab.async false
set_option linter.all false
set_option maxRecDepth 100000
set_option maxHeartbeats 4000000
namespace GB
open PySem PySem.Spec PyProof.Rows L2
abbrev St := L2.St
inductive D where
  | non | bl (b : Bool) | int (i : Int) | str (l : List Nat) | tup (ds : List D) | lst (ds : List D) | scr (ds : List D) | dic (ks : List Key) (ds : List D)
/-- what a slot or a value holds: fz frozen; ol, od owned; br, bd borrowed; lk, kd locked -/
inductive S where
  | fz (d : D)
  | ol (ds : List D) | br (ds : List D) | lk (ds : List D)
  | od (kvs : List (Key × D)) | bd (kvs : List (Key × D)) | kd (o : Obj → Prop) (xs : List (Key × V)) (kvs : List (Key × D))
  | exc (a dx : Addr) (c : Str) (fs : List (Str × D))
  | nd (a : Addr) (xs : List (V × D))
  | nh (P : Obj → Prop) (a : Addr) (xs : List (V × D))
  | ot (kvs : List (List Key × D)) | kt (P : Obj → Prop) (xs : List (List Key × V)) (kvs : List (List Key × D))
  | ky (ks : List Key)
def S.own : S → Bool
  | .ol _ => true | .br _ => true | .od _ => true | .bd _ => true | .ot _ => true | _ => false
/-- tied to its slot: neither rebound nor handed on -/
def S.hard : S → Bool
  | .br _ => true | .bd _ => true | .lk _ => true | .kd _ _ _ => true | _ => false
def S.lkd : S → Bool
  | .lk _ => true | _ => false
def S.soft : S → Bool
  | .fz _ => true | .exc _ _ _ _ => true | .kd _ _ _ => true | .nd _ _ => true | .nh _ _ _ => true | .kt _ _ _ => true | .ky _ => true | _ => false
/-- what a slot's word may become -/
def Sl : S → S → Prop
  | .lk ds, t => t = .lk ds
  | .kd o xs ds, t => t = .kd o xs ds
  | .br _, t => ∃ ds, t = .br ds
  | .bd _, t => ∃ ds, t = .bd ds
  | _, _ => True
abbrev Rho := List (Option S)
/-- the end of an expression -/
inductive Rs (α : Type) where
  | ok (a : α) (r : Rho) | ex (c : Str) (fs : List (Str × D)) (r : Rho) | st
def Rs.bind {α β : Type} (x : Rs α) (f : α → Rho → Rs β) : Rs β :=
  match x with
  | .ok a r => f a r
  | .ex c fs r => .ex c fs r
  | .st => .st
/-- the law's own script: it stands as it is -/
def Scr (K : PySem.W.Frag) (H : Hp) (a : Addr) (xs : List V) : Prop := (∃ o, H a = some (.frz o (.lst xs))) ∨
    ∃ (o : Obj) (its : Array Value) (n : Nat), K.lookup a = some o ∧ o.cls = .type "list" ∧ o.dict = none ∧ o.data = .seq its n ∧ its.size ≤ sizeLine ∧ Vals xs its.toList
theorem Scr.seq {K : PySem.W.Frag} {H : Hp} {a : Addr} {xs : List V} (h : Scr K H a xs) : SqL K H a xs := h.elim (fun z => .inl (.inr z)) .inr
/-- a tuple's own object: no dict of its own -/
def TupO (o : Obj) : Prop := o.cls = .type "tuple" ∧ o.dict = none
def SqX (K : PySem.W.Frag) (H : Hp) (a : Addr) (xs : List V) : Prop := (∃ o, TupO o ∧ H a = some (.frz o (.tup xs))) ∨
    ∃ (o : Obj) (its : Array Value) (n : Nat), K.lookup a = some o ∧ o.cls = .type "tuple" ∧ o.dict = none ∧ o.data = .seq its n ∧ its.size ≤ sizeLine ∧ Vals xs its.toList
theorem SqX.sq {K : PySem.W.Frag} {H : Hp} {a : Addr} {xs : List V} (h : SqX K H a xs) : SqT K H a xs := by
  rcases h with ⟨o, _, h⟩ | ⟨o, its, n, h1, h2, _, h3⟩
  · exact .inl (.inr ⟨o, h⟩)
  · exact .inr ⟨o, its, n, h1, h2, h3⟩
mutual
inductive Rp (K : PySem.W.Frag) (W : Addr → Prop) (H : Hp) : V → D → Prop
  | non : Rp K W H .non .non
  | bl (b : Bool) : Rp K W H (.bl b) (.bl b)
  | int (i : Int) : Rp K W H (.int i) (.int i)
  | str (l : List Nat) : Rp K W H (.str ⟨l.toArray⟩) (.str l)
  | tup {a : Addr} {xs : List V} {ds : List D} : SqX K H a xs → Rps K W H xs ds → Rp K W H (.ref a) (.tup ds)
  | lst {a : Addr} {xs : List V} {ds : List D} : H a = some (.lst xs) → ¬ W a → Rps K W H xs ds → Rp K W H (.ref a) (.lst ds)
  | scr {a : Addr} {xs : List V} {ds : List D} : Scr K H a xs → Rps K W H xs ds → Rp K W H (.ref a) (.scr ds)
  | dic {a : Addr} {xs : List (Key × V)} {ks : List Key} {ds : List D} : H a = some (.dK xs) → ¬ W a → xs.map Prod.fst = ks → Rps K W H (xs.map Prod.snd) ds → Rp K W H (.ref a) (.dic ks ds)
inductive Rps (K : PySem.W.Frag) (W : Addr → Prop) (H : Hp) : List V → List D → Prop
  | nil : Rps K W H [] []
  | cons {v : V} {vs : List V} {d : D} {ds : List D} : Rp K W H v d → Rps K W H vs ds → Rps K W H (v :: vs) (d :: ds)
end
def KR {κ : Type} (K : PySem.W.Frag) (W : Addr → Prop) (H : Hp) : List (κ × V) → List (κ × D) → Prop := Paired fun p q => p.1 = q.1 ∧ Rp K W H p.2 q.2
/-- a locked dict -/
def KdAt (P : Obj → Prop) (H : Hp) (p : Addr) (xs : List (Key × V)) : Prop := ∀ C : Prop, (∀ o, (∀ z, P z ↔ z = o) → H p = some (.frz o (.dK xs)) → C) → C
theorem KdAt.ex {P : Obj → Prop} {H : Hp} {p : Addr} {xs : List (Key × V)} (h : KdAt P H p xs) : ∃ o, (∀ z, P z ↔ z = o) ∧ H p = some (.frz o (.dK xs)) := h _ fun o a b => ⟨o, a, b⟩
theorem KdAt.mk {P : Obj → Prop} {H : Hp} {p : Addr} {xs : List (Key × V)} (o : Obj) (a : ∀ z, P z ↔ z = o) (b : H p = some (.frz o (.dK xs))) : KdAt P H p xs := fun _ k => k o a b
theorem KdAt.to {P : Obj → Prop} {H H' : Hp} {p : Addr} {xs : List (Key × V)} (h : KdAt P H p xs) (k : ∀ o, H p = some (.frz o (.dK xs)) → H' p = some (.frz o (.dK xs))) : KdAt P H' p xs := fun C f => h C fun o a b => f o a (k o b)
/-- a known thing, told by its object -/
def NhAt (P : Obj → Prop) (H : Hp) (a : Addr) : Prop := ∀ C : Prop, (∀ o, P o → H a = some (.frz o (.ext fun h => h.get? a = some o)) → C) → C
theorem NhAt.ex {P : Obj → Prop} {H : Hp} {a : Addr} (h : NhAt P H a) : ∃ o, P o ∧ H a = some (.frz o (.ext fun h => h.get? a = some o)) := h _ fun o x y => ⟨o, x, y⟩
theorem NhAt.mk {P : Obj → Prop} {H : Hp} {a : Addr} (o : Obj) (x : P o) (y : H a = some (.frz o (.ext fun h => h.get? a = some o))) : NhAt P H a := fun _ k => k o x y
theorem NhAt.to {P : Obj → Prop} {H H' : Hp} {a : Addr} (h : NhAt P H a) (k : ∀ o u, H a = some (.frz o u) → H' a = some (.frz o u)) : NhAt P H' a := fun C f => h C fun o x y => f o x (k o _ y)
/-- a dict with tuples for keys, that stands -/
def KtAt (P : Obj → Prop) (H : Hp) (p : Addr) (xs : List (List Key × V)) : Prop := ∀ C : Prop, (∀ o, (∀ z, P z ↔ z = o) → H p = some (.frz o (.dT xs)) → C) → C
theorem KtAt.ex {P : Obj → Prop} {H : Hp} {p : Addr} {xs : List (List Key × V)} (h : KtAt P H p xs) : ∃ o, (∀ z, P z ↔ z = o) ∧ H p = some (.frz o (.dT xs)) := h _ fun o a b => ⟨o, a, b⟩
theorem KtAt.mk {P : Obj → Prop} {H : Hp} {p : Addr} {xs : List (List Key × V)} (o : Obj) (a : ∀ z, P z ↔ z = o) (b : H p = some (.frz o (.dT xs))) : KtAt P H p xs := fun _ k => k o a b
theorem KtAt.to {P : Obj → Prop} {H H' : Hp} {p : Addr} {xs : List (List Key × V)} (h : KtAt P H p xs) (k : ∀ o, H p = some (.frz o (.dT xs)) → H' p = some (.frz o (.dT xs))) : KtAt P H' p xs := fun C f => h C fun o a b => f o a (k o b)
/-- a tuple that is such a key -/
def KyAt (K : PySem.W.Frag) (H : Hp) (p : Addr) (ks : List Key) : Prop := ∀ C : Prop, (SqT K H p (ks.map kV) → C) → C
theorem KyAt.sq {K : PySem.W.Frag} {H : Hp} {p : Addr} {ks : List Key} (h : KyAt K H p ks) : SqT K H p (ks.map kV) := h _ id
theorem KyAt.mk {K : PySem.W.Frag} {H : Hp} {p : Addr} {ks : List Key} (h : SqT K H p (ks.map kV)) : KyAt K H p ks := fun _ k => k h
theorem KyAt.to {K : PySem.W.Frag} {H H' : Hp} {p : Addr} {ks : List Key} (h : KyAt K H p ks) (k : ∀ {a : Addr} {xs : List V}, SqT K H a xs → SqT K H' a xs) : KyAt K H' p ks := fun _ f => f (k h.sq)
inductive SR (K : PySem.W.Frag) (U W : Addr → Prop) (H : Hp) : V → S → Prop
  | fz {v : V} {d : D} : Rp K W H v d → SR K U W H v (.fz d)
  | ol {p : Addr} {xs : List V} {ds : List D} : H p = some (.lst xs) → Rps K W H xs ds → SR K U W H (.ref p) (.ol ds)
  | br {p : Addr} {xs : List V} {ds : List D} : H p = some (.lst xs) → Rps K W H xs ds → SR K U W H (.ref p) (.br ds)
  | lk {p : Addr} {xs : List V} {ds : List D} : H p = some (.lst xs) → U p → Rps K W H xs ds → SR K U W H (.ref p) (.lk ds)
  | od {p : Addr} {xs : List (Key × V)} {ds : List (Key × D)} : H p = some (.dK xs) → KR K W H xs ds → SR K U W H (.ref p) (.od ds)
  | bd {p : Addr} {xs : List (Key × V)} {ds : List (Key × D)} : H p = some (.dK xs) → KR K W H xs ds → SR K U W H (.ref p) (.bd ds)
  | kd {p : Addr} {P : Obj → Prop} {xs : List (Key × V)} {ds : List (Key × D)} : KdAt P H p xs → KR K W H xs ds → SR K U W H (.ref p) (.kd P xs ds)
  | exc {a dx : Addr} {c : Str} {fv : List (Str × V)} {fs : List (Str × D)} : H dx = some (.xd fv) → KR K W H fv fs → SR K U W H (.ref a) (.exc a dx c fs)
  | nd {a : Addr} {xs : List (V × D)} : Rps K W H (xs.map Prod.fst) (xs.map Prod.snd) → SR K U W H (.ref a) (.nd a xs)
  | nh {P : Obj → Prop} {a : Addr} {xs : List (V × D)} : NhAt P H a → Rps K W H (xs.map Prod.fst) (xs.map Prod.snd) → SR K U W H (.ref a) (.nh P a xs)
  | ot {p : Addr} {xs : List (List Key × V)} {ds : List (List Key × D)} : H p = some (.dT xs) → KR K W H xs ds → SR K U W H (.ref p) (.ot ds)
  | kt {p : Addr} {P : Obj → Prop} {xs : List (List Key × V)} {ds : List (List Key × D)} : KtAt P H p xs → KR K W H xs ds → SR K U W H (.ref p) (.kt P xs ds)
  | ky {p : Addr} {ks : List Key} : KyAt K H p ks → SR K U W H (.ref p) (.ky ks)
/-- an object that may be written -/
def Lv (H : Hp) (a : Addr) : Prop := (∃ xs, H a = some (.lst xs)) ∨ (∃ kvs, H a = some (.dK kvs)) ∨ ∃ kvs, H a = some (.dT kvs)
def Own (σ : St) (r : Rho) (a : Addr) : Prop := ∃ (i : Nat) (s : S), r[i]? = some (some s) ∧ s.own = true ∧ σ[i]? = some (some (V.ref a))
def Wn (U : Addr → Prop) (σ : St) (r : Rho) (a : Addr) : Prop := Own σ r a ∨ U a
structure Ct where
  K : PySem.W.Frag
  mg : Str → Option Value
  W : WX
structure Sit (C : Ct) (U : Addr → Prop) (H : Hp) (σ : St) (r : Rho) : Prop where
  len : σ.length = r.length
  rep : ∀ (i : Nat) (s : S), r[i]? = some (some s) → ∃ v, σ[i]? = some (some v) ∧ SR C.K U (Wn U σ r) H v s
  inj : ∀ (i j : Nat) (s t : S) (v : V), r[i]? = some (some s) → s.soft = false → r[j]? = some (some t) → t.soft = false → σ[i]? = some (some v) → σ[j]? = some (some v) → i = j
  dis : ∀ a, Own σ r a → ¬ U a
  uok : ∀ a, U a → Lv H a
theorem Lv.xd {H : Hp} {a : Addr} {fv : List (Str × V)} (h : Lv H a) (k : H a = some (.xd fv)) : False := by
  rcases h with ⟨_, q⟩ | ⟨_, q⟩ | ⟨_, q⟩ <;> (rw [k] at q; cases q)
theorem Lv.fzn {H : Hp} {a : Addr} {o : Obj} {u : HO} (h : Lv H a) (k : H a = some (.frz o u)) : False := by
  rcases h with ⟨_, q⟩ | ⟨_, q⟩ | ⟨_, q⟩ <;> (rw [k] at q; cases q)
theorem SR.ownLv {K : PySem.W.Frag} {U W : Addr → Prop} {H : Hp} {v : V} {s : S} (x : SR K U W H v s) (h : s.own = true) : ∃ p, v = .ref p ∧ Lv H p := by
  cases x with
  | ol e _ => exact ⟨_, rfl, .inl ⟨_, e⟩⟩
  | br e _ => exact ⟨_, rfl, .inl ⟨_, e⟩⟩
  | od e _ => exact ⟨_, rfl, .inr (.inl ⟨_, e⟩)⟩
  | bd e _ => exact ⟨_, rfl, .inr (.inl ⟨_, e⟩)⟩
  | ot e _ => exact ⟨_, rfl, .inr (.inr ⟨_, e⟩)⟩
  | kt _ _ => cases h
  | ky _ => cases h
  | fz _ => cases h
  | lk _ _ _ => cases h
  | kd _ _ => cases h
  | exc _ _ => cases h
  | nd _ => cases h
  | nh _ _ => cases h
theorem Sit.wlv {C : Ct} {U : Addr → Prop} {H : Hp} {σ : St} {r : Rho} (x : Sit C U H σ r) : ∀ a, Wn U σ r a → Lv H a := fun a h => by
  rcases h with ⟨i, s, h1, h2, h3⟩ | h
  · obtain ⟨v, e, y⟩ := x.rep i s h1
    rw [h3] at e; cases e
    obtain ⟨p, e, l⟩ := y.ownLv h2
    cases e; exact l
  · exact x.uok a h
/-- what carries a tree over -/
structure Mono (U W : Addr → Prop) (H : Hp) (U' W' : Addr → Prop) (H' : Hp) : Prop where
  lv : ∀ a, W a → Lv H a
  keep : ∀ a o, ¬ W a → H a = some o → H' a = some o
  free : ∀ a o, ¬ W a → H a = some o → ¬ W' a
  keepU : ∀ a o, U a → H a = some o → H' a = some o
  sub : ∀ a, U a → U' a
section
variable {K : PySem.W.Frag} {U W U' W' : Addr → Prop} {H H' : Hp}
theorem Mono.rd (m : Mono U W H U' W' H') {a : Addr} {u : HO} (h : Rd H a u) (n : ¬ W a) : Rd H' a u ∧ ¬ W' a := by
  rcases h with h | ⟨o, h⟩
  · exact ⟨.inl (m.keep a _ n h), m.free a _ n h⟩
  · exact ⟨.inr ⟨o, m.keep a _ n h⟩, m.free a _ n h⟩
theorem Mono.tup (m : Mono U W H U' W' H') {a : Addr} {xs : List V} (h : SqT K H a xs) : SqT K H' a xs := by
  rcases h with h | h
  · have n : ¬ W a := fun w => by
      rcases h with h | ⟨o, h⟩ <;> (rcases m.lv a w with ⟨_, e⟩ | ⟨_, e⟩ | ⟨_, e⟩ <;> (rw [h] at e; cases e))
    exact .inl (m.rd h n).1
  · exact .inr h
theorem Mono.tupX (m : Mono U W H U' W' H') {a : Addr} {xs : List V} (h : SqX K H a xs) : SqX K H' a xs := by
  rcases h with ⟨o, t, h⟩ | h
  · have n : ¬ W a := fun w => by rcases m.lv a w with ⟨_, e⟩ | ⟨_, e⟩ | ⟨_, e⟩ <;> (rw [h] at e; cases e)
    exact .inl ⟨o, t, m.keep a _ n h⟩
  · exact .inr h
theorem Mono.scr (m : Mono U W H U' W' H') {a : Addr} {xs : List V} (h : Scr K H a xs) : Scr K H' a xs := by
  rcases h with ⟨o, h⟩ | h
  · have n : ¬ W a := fun w => by rcases m.lv a w with ⟨_, e⟩ | ⟨_, e⟩ | ⟨_, e⟩ <;> (rw [h] at e; cases e)
    exact .inl ⟨o, m.keep a _ n h⟩
  · exact .inr h
mutual
theorem Rp.mono (m : Mono U W H U' W' H') : ∀ {v : V} {d : D}, Rp K W H v d → Rp K W' H' v d
  | _, _, .non => .non
  | _, _, .bl b => .bl b
  | _, _, .int i => .int i
  | _, _, .str l => .str l
  | _, _, .tup h t => .tup (m.tupX h) (Rps.mono m t)
  | _, _, .lst h n t => .lst (m.keep _ _ n h) (m.free _ _ n h) (Rps.mono m t)
  | _, _, .scr h t => .scr (m.scr h) (Rps.mono m t)
  | _, _, .dic h n e t => .dic (m.keep _ _ n h) (m.free _ _ n h) e (Rps.mono m t)
theorem Rps.mono (m : Mono U W H U' W' H') : ∀ {v : List V} {d : List D}, Rps K W H v d → Rps K W' H' v d
  | _, _, .nil => .nil
  | _, _, .cons h t => .cons (Rp.mono m h) (Rps.mono m t)
end
theorem KR.mono {κ : Type} (m : Mono U W H U' W' H') {v : List (κ × V)} {d : List (κ × D)} (h : KR K W H v d) : KR K W' H' v d := Paired.mapP h fun _ _ q => ⟨q.1, q.2.mono m⟩
theorem SR.mono (m : Mono U W H U' W' H') {v : V} {s : S} (h : SR K U W H v s) (ho : ∀ a o, s.own = true → v = .ref a → H a = some o → H' a = some o) : SR K U' W' H' v s := by
  cases h with
  | fz x => exact .fz (x.mono m)
  | ol e x => exact .ol (ho _ _ rfl rfl e) (x.mono m)
  | br e x => exact .br (ho _ _ rfl rfl e) (x.mono m)
  | lk e u x => exact .lk (m.keepU _ _ u e) (m.sub _ u) (x.mono m)
  | od e x => exact .od (ho _ _ rfl rfl e) (x.mono m)
  | bd e x => exact .bd (ho _ _ rfl rfl e) (x.mono m)
  | kd e x => exact .kd (e.to fun o h => m.keep _ _ (fun w => (m.lv _ w).fzn h) h) (x.mono m)
  | exc e x => exact .exc (m.keep _ _ (fun w => (m.lv _ w).xd e) e) (x.mono m)
  | nd x => exact .nd (x.mono m)
  | nh e x => exact .nh (e.to fun o u h => m.keep _ _ (fun w => (m.lv _ w).fzn h) h) (x.mono m)
  | ot e x => exact .ot (ho _ _ rfl rfl e) (x.mono m)
  | kt e x => exact .kt (e.to fun o h => m.keep _ _ (fun w => (m.lv _ w).fzn h) h) (x.mono m)
  | ky h => exact .ky (h.to m.tup)
end
/-- an operand: a slot's thing as it stands when it is used, or a value of its own -/
inductive Opd where
  | loc (i : Nat) | val (s : S)
def res (r : Rho) : Opd → Option S
  | .loc i => (r[i]?).join
  | .val s => some s
def OpOk (C : Ct) (U : Addr → Prop) (H : Hp) (σ : St) (r : Rho) (o : Opd) (v : V) : Prop :=
  match o with
  | .loc i => σ[i]? = some (some v) ∧ ∃ s, r[i]? = some (some s)
  | .val s => SR C.K U (Wn U σ r) H v s ∧ (∀ p, s.own = true → v = .ref p → U p) ∧ s.hard = false
/-- from one state of the code to a later one -/
structure Aft (U : Addr → Prop) (H : Hp) (σ : St) (r : Rho) (U' : Addr → Prop) (H' : Hp) (σ' : St) (r' : Rho) : Prop where
  sub : ∀ a, U a → U' a
  new : ∀ a, U' a → U a ∨ H a = none ∨ Own σ r a
  grow : ∀ a, Own σ' r' a → Own σ r a ∨ H a = none
  keep : ∀ a o, H a = some o → ¬ Own σ r a → H' a = some o
  there : ∀ a o, H a = some o → ∃ o', H' a = some o'
  pin : ∀ (i : Nat) (s : S), r[i]? = some (some s) → s.hard = true → ∃ s', r'[i]? = some (some s') ∧ Sl s s' ∧ σ'[i]? = σ[i]?
  lok : ∀ (i : Nat) (s : S), r'[i]? = some (some s) → s.lkd = true → r[i]? = some (some s) ∧ σ'[i]? = σ[i]?
/-- within an expression the slots stay -/
def Per (r r' : Rho) : Prop := ∀ (i : Nat) (s : S), r[i]? = some (some s) → ∃ s', r'[i]? = some (some s')
section
variable {C : Ct} {U U' U'' : Addr → Prop} {H H' H'' : Hp} {σ σ' σ'' : St} {r r' r'' : Rho}
theorem Sl.refl (s : S) : Sl s s := by cases s <;> simp [Sl]
theorem Sl.hard {s t : S} (h : Sl s t) (k : s.hard = true) : t.hard = true := by
  cases s <;> simp [S.hard] at k <;> simp [Sl] at h
  · obtain ⟨_, rfl⟩ := h; rfl
  · subst h; rfl
  · obtain ⟨_, rfl⟩ := h; rfl
  · subst h; rfl
theorem Sl.trans {s t u : S} (h : Sl s t) (k : Sl t u) : Sl s u := by
  cases s <;> simp only [Sl] at *
  · obtain ⟨_, rfl⟩ := h; simpa [Sl] using k
  · subst h; simpa [Sl] using k
  · obtain ⟨_, rfl⟩ := h; simpa [Sl] using k
  · subst h; simpa [Sl] using k
theorem Aft.refl : Aft U H σ r U H σ r := ⟨fun _ h => h, fun _ h => .inl h, fun _ h => .inl h, fun _ _ h _ => h, fun _ o h => ⟨o, h⟩, fun i s h _ => ⟨s, h, Sl.refl s, rfl⟩, fun i s h _ => ⟨h, rfl⟩⟩
theorem Aft.back (x : Aft U H σ r U' H' σ' r') {a : Addr} (h : H' a = none) : H a = none := by
  cases e : H a with
  | none => rfl
  | some o =>
    obtain ⟨_, q⟩ := x.there a o e
    rw [h] at q; cases q
theorem Aft.trans (x : Aft U H σ r U' H' σ' r') (y : Aft U' H' σ' r' U'' H'' σ'' r'') : Aft U H σ r U'' H'' σ'' r'' where
  sub := fun a h => y.sub a (x.sub a h)
  new := fun a h => by
    rcases y.new a h with h | h | h
    · exact x.new a h
    · exact .inr (.inl (x.back h))
    · rcases x.grow a h with h | h
      · exact .inr (.inr h)
      · exact .inr (.inl h)
  grow := fun a h => by
    rcases y.grow a h with h | h
    · exact x.grow a h
    · exact .inr (x.back h)
  keep := fun a o h n => by
    have q := x.keep a o h n
    exact y.keep a o q fun z => by
      rcases x.grow a z with z | z
      · exact n z
      · rw [h] at z; cases z
  there := fun a o h => by
    obtain ⟨o', h'⟩ := x.there a o h
    exact y.there a o' h'
  pin := fun i s h k => by
    obtain ⟨s', h', l, e⟩ := x.pin i s h k
    obtain ⟨s'', h'', l', e'⟩ := y.pin i s' h' (l.hard k)
    exact ⟨s'', h'', l.trans l', e'.trans e⟩
  lok := fun i s h k => by
    obtain ⟨h1, e1⟩ := y.lok i s h k
    obtain ⟨h2, e2⟩ := x.lok i s h1 k
    exact ⟨h2, e1.trans e2⟩
theorem Aft.mono (x : Aft U H σ r U' H' σ' r') (s : Sit C U H σ r) : Mono U (Wn U σ r) H U' (Wn U' σ' r') H' where
  lv := s.wlv
  keep := fun a o n h => x.keep a o h fun z => n (.inl z)
  free := fun a o n h => fun z => by
    rcases z with z | z
    · rcases x.grow a z with z | z
      · exact n (.inl z)
      · rw [h] at z; cases z
    · rcases x.new a z with z | z | z
      · exact n (.inr z)
      · rw [h] at z; cases z
      · exact n (.inl z)
  keepU := fun a o u h => x.keep a o h fun z => s.dis a z u
  sub := x.sub
theorem OpOk.after {o : Opd} {v : V} (k : OpOk C U H σ r o v) (x : Aft U H σ r U' H' σ r') (s : Sit C U H σ r) (p : Per r r') : OpOk C U' H' σ r' o v := by
  cases o with
  | loc i => exact ⟨k.1, let ⟨t, h⟩ := k.2; p i t h⟩
  | val t =>
    obtain ⟨k1, k2, k3⟩ := k
    refine ⟨k1.mono (x.mono s) fun a o ho hv h => ?_, fun p ho hv => x.sub p (k2 p ho hv), k3⟩
    exact x.keep a o h fun z => s.dis a z (k2 a ho hv)
theorem OpOk.res {o : Opd} {v : V} (k : OpOk C U H σ r o v) (s : Sit C U H σ r) : ∃ t, res r o = some t ∧ SR C.K U (Wn U σ r) H v t := by
  cases o with
  | loc i =>
    obtain ⟨e, t, h⟩ := k
    obtain ⟨v', e', y⟩ := s.rep i t h
    rw [e] at e'; cases e'
    exact ⟨t, by simp [GB.res, h], y⟩
  | val t => exact ⟨t, rfl, k.1⟩
theorem Per.refl : Per r r := fun _ s h => ⟨s, h⟩
theorem Per.trans (x : Per r r') (y : Per r' r'') : Per r r'' := fun i s h => let ⟨t, h'⟩ := x i s h; y i t h'
end
/-- an exception: its class by name, its fields -/
def XRp (C : Ct) (W : Addr → Prop) (c : Str) (fs : List (Str × D)) (cls : Value) (d : Option Addr) (H : Hp) : Prop :=
  ∃ (a dx : Addr) (fv : List (Str × V)), cls = .ref a ∧ C.mg c = some (.ref a) ∧ d = some dx ∧ H dx = some (.xd fv) ∧ KR C.K W H fv fs
/-- what is wanted where an exception leaves -/
def XWant (C : Ct) (U : Addr → Prop) (H : Hp) (σ : St) (r : Rho) (c : Str) (fs : List (Str × D)) (r' : Rho) : Prop :=
  ∀ cls d σ' H' U', Sit C U' H' σ' r' → Aft U H σ r U' H' σ' r' → XRp C (Wn U' σ' r') c fs cls d H' → C.W cls d σ' H'
/-- a value of its own is a new object -/
def New (H : Hp) (o : Opd) (v : V) : Prop := ∀ s p, o = .val s → s.own = true → v = .ref p → H p = none
/-- the reading of an expression by its function -/
def tE (C : Ct) (f : Rho → Rs Opd) : TE := fun σ H Q => ∃ U r, Sit C U H σ r ∧
  match f r with
  | .ok o r' => ∀ v H' U', Sit C U' H' σ r' → Aft U H σ r U' H' σ r' → Per r r' → OpOk C U' H' σ r' o v → New H o v → Q v H'
  | .ex c fs r' => XWant C U H σ r c fs r'
  | .st => False
abbrev GE (X : Cx) (C : Ct) (e : Expr) (f : Rho → Rs Opd) : Prop := PE X e (tE C f)
end GB
namespace GB
open PySem PySem.Spec PyProof.Rows L2
theorem weakE {X : Cx} {e : Expr} {t t' : TE} (h : PE X e t) (k : ∀ σ H Q, t' σ H Q → t σ H Q) : PE X e t' := ⟨fun pins s σ H Q I q => h.run pins s σ H Q I (k σ H Q q)⟩
theorem weakT {X : Cx} {e : Expr} {t t' : TT} (h : PT X e t) (k : ∀ σ H Q, t' σ H Q → t σ H Q) : PT X e t' := ⟨fun pins s σ H Q I q => h.run pins s σ H Q I (k σ H Q q)⟩
theorem orE {X : Cx} {e : Expr} {t t' : TE} (h : PE X e t) (h' : PE X e t') : PE X e (fun σ H Q => t σ H Q ∨ t' σ H Q) := ⟨fun pins s σ H Q I q => q.elim (h.run pins s σ H Q I) (h'.run pins s σ H Q I)⟩
section
variable {C : Ct} {U U' : Addr → Prop} {H H' : Hp} {σ : St} {r : Rho}
theorem Lv.grow {a : Addr} (h : Lv H a) (k : ∀ a o, H a = some o → H' a = some o) : Lv H' a := by
  rcases h with ⟨x, h⟩ | ⟨x, h⟩ | ⟨x, h⟩
  · exact .inl ⟨x, k _ _ h⟩
  · exact .inr (.inl ⟨x, k _ _ h⟩)
  · exact .inr (.inr ⟨x, k _ _ h⟩)
theorem Lv.ne {a : Addr} (h : Lv H a) (k : H a = none) : False := by
  rcases h with ⟨x, h⟩ | ⟨x, h⟩ | ⟨x, h⟩ <;> (rw [h] at k; cases k)
/-- the heap has grown -/
theorem Sit.ext (s : Sit C U H σ r) (k : ∀ a o, H a = some o → H' a = some o) (u1 : ∀ a, U a → U' a) (u2 : ∀ a, U' a → U a ∨ H a = none) (u3 : ∀ a, U' a → Lv H' a) : Sit C U' H' σ r ∧ Aft U H σ r U' H' σ r := by
  have x : Aft U H σ r U' H' σ r := ⟨u1, fun a h => (u2 a h).elim .inl fun z => .inr (.inl z), fun _ h => .inl h, fun a o h _ => k a o h, fun a o h => ⟨o, k a o h⟩, fun i s h _ => ⟨s, h, Sl.refl s, rfl⟩, fun i s h _ => ⟨h, rfl⟩⟩
  refine ⟨⟨s.len, fun i t h => ?_, s.inj, fun a h z => ?_, u3⟩, x⟩
  · obtain ⟨v, e, y⟩ := s.rep i t h
    exact ⟨v, e, y.mono (x.mono s) fun a o _ _ q => k a o q⟩
  · rcases u2 a z with z | z
    · exact s.dis a h z
    · exact (s.wlv a (.inl h)).ne z
/-- what a built-in gives: a frozen tree, or a new object of its own -/
inductive Got (K : PySem.W.Frag) (W : Addr → Prop) (H : Hp) : S → V → Hp → Prop
  | fz {v : V} {d : D} {H' : Hp} : (∀ a o, H a = some o → H' a = some o) → Rp K W H' v d → Got K W H (.fz d) v H'
  | ol {p : Addr} {xs : List V} {ds : List D} {H' : Hp} : (∀ a o, H a = some o → H' a = some o) → H p = none → H' p = some (.lst xs) → Rps K (fun a => W a ∨ a = p) H' xs ds → Got K W H (.ol ds) (.ref p) H'
  | od {p : Addr} {xs : List (Key × V)} {ds : List (Key × D)} {H' : Hp} : (∀ a o, H a = some o → H' a = some o) → H p = none → H' p = some (.dK xs) → KR K (fun a => W a ∨ a = p) H' xs ds → Got K W H (.od ds) (.ref p) H'
  | ot {p : Addr} {xs : List (List Key × V)} {ds : List (List Key × D)} {H' : Hp} : (∀ a o, H a = some o → H' a = some o) → H p = none → H' p = some (.dT xs) → KR K (fun a => W a ∨ a = p) H' xs ds → Got K W H (.ot ds) (.ref p) H'
theorem own_set {p : Addr} (hp : H p = none) (s : Sit C U H σ r) (k : ∀ a o, H a = some o → H' a = some o) (l : Lv H' p) : Sit C (fun a => U a ∨ a = p) H' σ r ∧ Aft U H σ r (fun a => U a ∨ a = p) H' σ r :=
  s.ext k (fun a h => .inl h) (fun a h => h.elim .inl fun z => .inr (by rw [z]; exact hp)) fun a h => h.elim (fun z => (s.uok a z).grow k) fun z => by rw [z]; exact l
theorem wn_or {p : Addr} : (Wn (fun a => U a ∨ a = p) σ r) = fun a => Wn U σ r a ∨ a = p := by
  funext a
  simp only [Wn, or_assoc]
theorem Got.fin {s : S} {v : V} (g : Got C.K (Wn U σ r) H s v H') (st : Sit C U H σ r) : ∃ U', Sit C U' H' σ r ∧ Aft U H σ r U' H' σ r ∧ OpOk C U' H' σ r (.val s) v ∧ New H (.val s) v := by
  cases g with
  | fz k x =>
    obtain ⟨s1, a1⟩ := st.ext k (fun _ h => h) (fun _ h => .inl h) fun a h => (st.uok a h).grow k
    exact ⟨U, s1, a1, ⟨.fz x, fun p h => (nomatch h), rfl⟩, fun _ _ h q _ => by cases h; cases q⟩
  | @ol p xs ds _ k hp e x =>
    obtain ⟨s1, a1⟩ := own_set hp st k (.inl ⟨_, e⟩)
    refine ⟨_, s1, a1, ⟨.ol e (by rw [wn_or]; exact x), fun q _ h => .inr (V.ref.inj h).symm, rfl⟩, fun _ _ _ _ h => by cases h; exact hp⟩
  | @od p xs ds _ k hp e x =>
    obtain ⟨s1, a1⟩ := own_set hp st k (.inr (.inl ⟨_, e⟩))
    refine ⟨_, s1, a1, ⟨.od e (by rw [wn_or]; exact x), fun q _ h => .inr (V.ref.inj h).symm, rfl⟩, fun _ _ _ _ h => by cases h; exact hp⟩
  | @ot p xs ds _ k hp e x =>
    obtain ⟨s1, a1⟩ := own_set hp st k (.inr (.inr ⟨_, e⟩))
    refine ⟨_, s1, a1, ⟨.ot e (by rw [wn_or]; exact x), fun q _ h => .inr (V.ref.inj h).symm, rfl⟩, fun _ _ _ _ h => by cases h; exact hp⟩
/-- a new object at p: the trees stay -/
theorem monoNew {W : Addr → Prop} {p : Addr} (lv : ∀ a, W a → Lv H a) (hp : H p = none) (k : ∀ a o, H a = some o → H' a = some o) : Mono (fun _ => False) W H (fun _ => False) (fun a => W a ∨ a = p) H' :=
  ⟨lv, fun a o _ h => k a o h, fun a o n h z => z.elim n fun z => (by rw [z, hp] at h; cases h), fun _ _ z => z.elim, fun _ z => z.elim⟩
theorem monoKeep {W : Addr → Prop} (lv : ∀ a, W a → Lv H a) (k : ∀ a o, H a = some o → H' a = some o) : Mono (fun _ => False) W H (fun _ => False) W H' :=
  ⟨lv, fun a o _ h => k a o h, fun a o n h => n, fun _ _ z => z.elim, fun _ z => z.elim⟩
theorem upd_keep {p : Addr} {o : HO} (hp : H p = none) : ∀ a u, H a = some u → upd H p o a = some u := fun a u h => by rw [upd_ne (ne_of_none h hp)]; exact h
theorem Got.newL {W : Addr → Prop} {p : Addr} {xs : List V} {ds : List D} (lv : ∀ a, W a → Lv H a) (hp : H p = none) (x : Rps C.K W H xs ds) : Got C.K W H (.ol ds) (.ref p) (upd H p (.lst xs)) :=
  .ol (upd_keep hp) hp upd_same (x.mono (monoNew lv hp (upd_keep hp)))
theorem Got.newT {W : Addr → Prop} {p : Addr} {xs : List V} {ds : List D} {o : Obj} (lv : ∀ a, W a → Lv H a) (hp : H p = none) (ho : TupO o) (x : Rps C.K W H xs ds) : Got C.K W H (.fz (.tup ds)) (.ref p) (upd H p (.frz o (.tup xs))) :=
  .fz (upd_keep hp) (.tup (.inl ⟨o, ho, upd_same⟩) (x.mono (monoKeep lv (upd_keep hp))))
theorem Got.same {K : PySem.W.Frag} {W : Addr → Prop} {v : V} {d : D} (x : Rp K W H v d) : Got K W H (.fz d) v H := .fz (fun _ _ h => h) x
end
section
variable {X : Cx} {C : Ct} {a b e : Expr} {es : List Expr} {fa fb fe : Rho → Rs Opd} {pos : Pos}
def eVar (i : Nat) : Rho → Rs Opd := fun r => match r[i]? with
  | some (some _) => .ok (.loc i) r
  | _ => .st
theorem ge_var {i : Nat} {x : Str} (hN : X.N[i]? = some x) (hv : Vis X.env.scope x) (hd : (x == ("__debug__" : Str)) = false := by decide) (hcd : (x == ("__classdict__" : Str)) = false := by decide) : GE X C (.Name x pos) (eVar i) := by
  refine weakE (pe_var hN hv hd hcd) fun σ H Q h => ?_
  obtain ⟨U, r, s, h⟩ := h
  unfold eVar at h
  split at h
  · rename_i z h'
    split at h'
    · rename_i t ht
      obtain ⟨v, ev, y⟩ := s.rep i t ht
      cases h'
      exact ⟨v, ev, h v H U s Aft.refl Per.refl ⟨ev, t, ht⟩ fun _ _ z => (nomatch z)⟩
    · cases h'
  · rename_i h'
    split at h' <;> cases h'
  · exact h.elim
def eC (d : D) : Rho → Rs Opd := fun r => .ok (.val (.fz d)) r
theorem ge_c {v : V} {d : D} (h : PE X e (tC v)) (hr : ∀ W H, Rp C.K W H v d) : GE X C e (eC d) := by
  refine weakE h fun σ H Q h => ?_
  obtain ⟨U, r, s, h⟩ := h
  exact h v H U s Aft.refl Per.refl ⟨.fz (hr _ _), fun p z => (nomatch z), rfl⟩ fun _ _ z q _ => by cases z; cases q
abbrev OpsOk (C : Ct) (U : Addr → Prop) (H : Hp) (σ : St) (r : Rho) : List Opd → List V → Prop := Paired fun o v => OpOk C U H σ r o v
abbrev NewS (H : Hp) : List Opd → List V → Prop := Paired fun o v => New H o v
def tA (C : Ct) (f : Rho → Rs (List Opd)) : TA := fun σ H Q => ∃ U r, Sit C U H σ r ∧
  match f r with
  | .ok os r' => ∀ vs H' U', Sit C U' H' σ r' → Aft U H σ r U' H' σ r' → Per r r' → OpsOk C U' H' σ r' os vs → NewS H os vs → Q vs H'
  | .ex c fs r' => XWant C U H σ r c fs r'
  | .st => False
abbrev GA (X : Cx) (C : Ct) (es : List Expr) (f : Rho → Rs (List Opd)) : Prop := PA X es (tA C f)
def eNil : Rho → Rs (List Opd) := fun r => .ok [] r
def eCons (fe : Rho → Rs Opd) (fr : Rho → Rs (List Opd)) : Rho → Rs (List Opd) := fun r => (fe r).bind fun o r1 => (fr r1).bind fun os r2 => .ok (o :: os) r2
theorem weakA {t t' : TA} (h : PA X es t) (k : ∀ σ H Q, t' σ H Q → t σ H Q) : PA X es t' := ⟨fun pos pins s σ H Q I q => h.run pos pins s σ H Q I (k σ H Q q)⟩
theorem ga_nil : GA X C [] eNil := by
  refine weakA pa_nil fun σ H Q h => ?_
  obtain ⟨U, r, s, h⟩ := h
  exact h [] H U s Aft.refl Per.refl .nil .nil
theorem XWant.before {U U' : Addr → Prop} {H H' : Hp} {σ σ' : St} {r r' r'' : Rho} {c : Str} {fs : List (Str × D)} (x : XWant C U H σ r c fs r'') (a : Aft U H σ r U' H' σ' r') : XWant C U' H' σ' r' c fs r'' :=
  fun cls d σ2 H2 U2 s2 a2 e2 => x cls d σ2 H2 U2 s2 (a.trans a2) e2
/-- one expression, then what follows with it -/
theorem tE_then {α : Type} {f : Rho → Rs Opd} {g : Opd → Rho → Rs α} {σ : St} {H : Hp} {Q : VK} {U : Addr → Prop} {r : Rho} {R : Rs α → Prop} (s : Sit C U H σ r) (h : R ((f r).bind g))
    (hst : R .st → False) (hex : ∀ c fs r', R (.ex c fs r') → XWant C U H σ r c fs r')
    (hok : ∀ o r' v H' U', Sit C U' H' σ r' → Aft U H σ r U' H' σ r' → Per r r' → OpOk C U' H' σ r' o v → New H o v → R (g o r') → Q v H') : tE C f σ H Q := by
  refine ⟨U, r, s, ?_⟩
  cases e : f r with
  | ok o r' => rw [e] at h; exact fun v H' U' s' a' p' k' n' => hok o r' v H' U' s' a' p' k' n' h
  | ex c fs r' => rw [e] at h; exact hex c fs r' h
  | st => rw [e] at h; exact hst h
theorem tA_then {α : Type} {f : Rho → Rs (List Opd)} {g : List Opd → Rho → Rs α} {σ : St} {H : Hp} {Q : List V → Hp → Prop} {U : Addr → Prop} {r : Rho} {R : Rs α → Prop} (s : Sit C U H σ r) (h : R ((f r).bind g))
    (hst : R .st → False) (hex : ∀ c fs r', R (.ex c fs r') → XWant C U H σ r c fs r')
    (hok : ∀ o r' v H' U', Sit C U' H' σ r' → Aft U H σ r U' H' σ r' → Per r r' → OpsOk C U' H' σ r' o v → NewS H o v → R (g o r') → Q v H') : tA C f σ H Q := by
  refine ⟨U, r, s, ?_⟩
  cases e : f r with
  | ok o r' => rw [e] at h; exact fun v H' U' s' a' p' k' n' => hok o r' v H' U' s' a' p' k' n' h
  | ex c fs r' => rw [e] at h; exact hex c fs r' h
  | st => rw [e] at h; exact hst h
theorem OpsOk.after {U U' : Addr → Prop} {H H' : Hp} {σ : St} {r r' : Rho} (x : Aft U H σ r U' H' σ r') (s : Sit C U H σ r) (p : Per r r') : ∀ {os : List Opd} {vs : List V}, OpsOk C U H σ r os vs → OpsOk C U' H' σ r' os vs
  | _, _, .nil => .nil
  | _, _, .cons k t => .cons (k.after x s p) (OpsOk.after x s p t)
theorem New.back {U U' : Addr → Prop} {H H' : Hp} {σ σ' : St} {r r' : Rho} (a : Aft U H σ r U' H' σ' r') {o : Opd} {v : V} (n : New H' o v) : New H o v := fun s p e1 e2 e3 => a.back (n s p e1 e2 e3)
theorem NewS.back {U U' : Addr → Prop} {H H' : Hp} {σ σ' : St} {r r' : Rho} (a : Aft U H σ r U' H' σ' r') {os : List Opd} {vs : List V} (n : NewS H' os vs) : NewS H os vs := Paired.mapP n fun _ _ q => q.back a
theorem ga_cons {fr : Rho → Rs (List Opd)} (he : GE X C e fe) (hr : GA X C es fr) (hs : starEach (e :: es) X.env = (false, eval e X.env) :: starEach es X.env := by rfl) : GA X C (e :: es) (eCons fe fr) := by
  refine weakA (pa_cons he hr hs) fun σ H Q h => ?_
  obtain ⟨U, r, s, h⟩ := h
  refine tE_then (R := fun z => match z with | .ok os r' => ∀ vs H' U', Sit C U' H' σ r' → Aft U H σ r U' H' σ r' → Per r r' → OpsOk C U' H' σ r' os vs → NewS H os vs → Q vs H' | .ex c fs r' => XWant C U H σ r c fs r' | .st => False) s h id (fun _ _ _ z => z) ?_
  intro o r1 v H1 U1 s1 a1 p1 k1 n1 h1
  refine tA_then (R := fun z => match z with | .ok os r' => ∀ vs H' U', Sit C U' H' σ r' → Aft U H σ r U' H' σ r' → Per r r' → OpsOk C U' H' σ r' os vs → NewS H os vs → Q vs H' | .ex c fs r' => XWant C U H σ r c fs r' | .st => False) s1 h1 id (fun _ _ _ z => XWant.before z a1) ?_
  intro os r2 vs H2 U2 s2 a2 p2 k2 n2 h2
  exact h2 (v :: vs) H2 U2 s2 (a1.trans a2) (p1.trans p2) (.cons (k1.after a2 s1 p2) k2) (.cons n1 (NewS.back a1 n2))
def resAll (r : Rho) : List Opd → Option (List S)
  | [] => some []
  | o :: os => match res r o, resAll r os with
    | some s, some ss => some (s :: ss)
    | _, _ => none
abbrev SRs (K : PySem.W.Frag) (U W : Addr → Prop) (H : Hp) : List V → List S → Prop := Paired fun v s => SR K U W H v s
theorem OpsOk.res {U : Addr → Prop} {H : Hp} {σ : St} {r : Rho} (s : Sit C U H σ r) : ∀ {os : List Opd} {vs : List V}, OpsOk C U H σ r os vs → ∃ ss, resAll r os = some ss ∧ SRs C.K U (Wn U σ r) H vs ss
  | _, _, .nil => ⟨[], rfl, .nil⟩
  | _, _, .cons k t => by
    obtain ⟨a, e1, x1⟩ := k.res s
    obtain ⟨as, e2, x2⟩ := OpsOk.res s t
    exact ⟨a :: as, by simp only [resAll, e1, e2], .cons x1 x2⟩
/-- a built-in by its function on words -/
abbrev Pr := List S → Option S
def PN (C : Ct) (rr : List V → Hp → VK → Prop) (p : Pr) : Prop :=
  ∀ (U W : Addr → Prop) (H : Hp) (vs : List V) (ss : List S) (s : S) (Q : VK), (∀ a, W a → Lv H a) → SRs C.K U W H vs ss → p ss = some s → (∀ v H', Got C.K W H s v H' → Q v H') → rr vs H Q
/-- the words' function applied to operands -/
def eP (p : Pr) (os : List Opd) (r : Rho) : Rs Opd := match resAll r os with
  | some ss => (match p ss with | some s => .ok (.val s) r | none => .st)
  | none => .st
def eCall (p : Pr) (fa : Rho → Rs (List Opd)) : Rho → Rs Opd := fun r => (fa r).bind (eP p)
theorem eP_fin {rr : List V → Hp → VK → Prop} {p : Pr} (hp : PN C rr p) {U U' : Addr → Prop} {H H' : Hp} {σ : St} {r r' : Rho} {os : List Opd} {vs : List V} {Q : VK} (s : Sit C U' H' σ r') (a : Aft U H σ r U' H' σ r') (pe : Per r r') (k : OpsOk C U' H' σ r' os vs)
    (h : match eP p os r' with | .ok o r' => ∀ v H' U', Sit C U' H' σ r' → Aft U H σ r U' H' σ r' → Per r r' → OpOk C U' H' σ r' o v → New H o v → Q v H' | .ex c fs r' => XWant C U H σ r c fs r' | .st => False) : rr vs H' Q := by
  obtain ⟨ss, e, x⟩ := k.res s
  unfold eP at h
  simp only [e] at h
  cases e2 : p ss with
  | none => simp only [e2] at h
  | some t =>
    simp only [e2] at h
    refine hp U' _ H' vs ss t Q s.wlv x e2 fun v H2 g => ?_
    obtain ⟨U2, s2, a2, k2, n2⟩ := g.fin s
    exact h v H2 U2 s2 (a.trans a2) pe k2 (n2.back a)
theorem ge_call {rr : List V → Hp → VK → Prop} {p : Pr} {f : Rho → Rs (List Opd)} (hp : PN C rr p) (h : PE X e (tCB rr (tA C f))) : GE X C e (eCall p f) := by
  refine weakE h fun σ H Q h => ?_
  obtain ⟨U, r, s, h⟩ := h
  refine tA_then (R := fun z => match z with | .ok o r' => ∀ v H' U', Sit C U' H' σ r' → Aft U H σ r U' H' σ r' → Per r r' → OpOk C U' H' σ r' o v → New H o v → Q v H' | .ex c fs r' => XWant C U H σ r c fs r' | .st => False) s h id (fun _ _ _ z => z) ?_
  intro os r1 vs H1 U1 s1 a1 p1 k1 n1 h1
  exact eP_fin hp s1 a1 p1 k1 h1
/-- two operands -/
theorem ge_op {rr : R2} {p : Pr} (hp : PN C (fun vs H Q => ∃ x y, vs = [x, y] ∧ rr x y H Q) p) (h : PE X e (tOp rr (tE C fa) (tE C fb))) : GE X C e (eCall p (eCons fa (eCons fb eNil))) := by
  refine weakE h fun σ H Q h => ?_
  obtain ⟨U, r, s, h⟩ := h
  refine tE_then (g := fun o r1 => ((fb r1).bind fun o2 r2 => eP p [o, o2] r2)) (R := fun z => match z with | .ok o r' => ∀ v H' U', Sit C U' H' σ r' → Aft U H σ r U' H' σ r' → Per r r' → OpOk C U' H' σ r' o v → New H o v → Q v H' | .ex c fs r' => XWant C U H σ r c fs r' | .st => False) s ?_ id (fun _ _ _ z => z) ?_
  · refine cast ?_ h
    unfold eCall eCons eNil Rs.bind
    cases fa r with
    | ok o r1 => simp only []; cases fb r1 <;> rfl
    | ex c fs r' => rfl
    | st => rfl
  intro o r1 v H1 U1 s1 a1 p1 k1 n1 h1
  refine tE_then (R := fun z => match z with | .ok o r' => ∀ v H' U', Sit C U' H' σ r' → Aft U H σ r U' H' σ r' → Per r r' → OpOk C U' H' σ r' o v → New H o v → Q v H' | .ex c fs r' => XWant C U H σ r c fs r' | .st => False) s1 h1 id (fun _ _ _ z => XWant.before z a1) ?_
  intro o2 r2 v2 H2 U2 s2 a2 p2 k2 n2 h2
  obtain ⟨x, y, e, q⟩ := eP_fin hp s2 (a1.trans a2) (p1.trans p2) (.cons (k1.after a2 s1 p2) (.cons k2 .nil)) h2
  cases e
  exact q
end
end GB
namespace GB
open PySem PySem.Spec PyProof.Rows L2
section
variable {C : Ct} {U U' : Addr → Prop} {H H' : Hp} {σ σ' : St} {r r' : Rho} {K : PySem.W.Frag} {W W' : Addr → Prop}
mutual
theorem Rp.less (h : ∀ a, W' a → W a) : ∀ {v : V} {d : D}, Rp K W H v d → Rp K W' H v d
  | _, _, .non => .non
  | _, _, .bl b => .bl b
  | _, _, .int i => .int i
  | _, _, .str l => .str l
  | _, _, .tup h1 t => .tup h1 (Rps.less h t)
  | _, _, .lst h1 n t => .lst h1 (fun z => n (h _ z)) (Rps.less h t)
  | _, _, .scr h1 t => .scr h1 (Rps.less h t)
  | _, _, .dic h1 n e t => .dic h1 (fun z => n (h _ z)) e (Rps.less h t)
theorem Rps.less (h : ∀ a, W' a → W a) : ∀ {v : List V} {d : List D}, Rps K W H v d → Rps K W' H v d
  | _, _, .nil => .nil
  | _, _, .cons h1 t => .cons (Rp.less h h1) (Rps.less h t)
end
theorem KR.less {κ : Type} (h : ∀ a, W' a → W a) {v : List (κ × V)} {d : List (κ × D)} (x : KR K W H v d) : KR K W' H v d := Paired.mapP x fun _ _ q => ⟨q.1, q.2.less h⟩
/-- a smaller world of what may be written -/
theorem SR.less (h : ∀ a, W' a → W a) {v : V} {s : S} (x : SR K U W H v s) (hl : ∀ p, s.lkd = true → v = .ref p → U' p) : SR K U' W' H v s := by
  cases x with
  | fz x => exact .fz (x.less h)
  | ol e x => exact .ol e (x.less h)
  | br e x => exact .br e (x.less h)
  | lk e u x => exact .lk e (hl _ rfl rfl) (x.less h)
  | od e x => exact .od e (x.less h)
  | bd e x => exact .bd e (x.less h)
  | kd e x => exact .kd e (x.less h)
  | exc e x => exact .exc e (x.less h)
  | nd x => exact .nd (x.less h)
  | nh e x => exact .nh e (x.less h)
  | ot e x => exact .ot e (x.less h)
  | kt e x => exact .kt e (x.less h)
  | ky e => exact .ky e
theorem SR.lkLv {v : V} {s : S} (x : SR K U W H v s) {p : Addr} (h : s.lkd = true) (e : v = .ref p) : U p := by
  cases x with
  | lk _ u _ => cases e; exact u
  | kd _ _ => cases h
  | exc _ _ => cases h
  | nd _ => cases h
  | nh _ _ => cases h
  | ot _ _ => cases h
  | kt _ _ => cases h
  | ky _ => cases h
  | fz _ => cases h
  | ol _ _ => cases h
  | br _ _ => cases h
  | od _ _ => cases h
  | bd _ _ => cases h
theorem lkd_hard {s : S} (h : s.lkd = true) : s.hard = true := by cases s <;> first | rfl | cases h
/-- new objects need no longer be held as writable -/
theorem Sit.drop (s0 : Sit C U H σ r) (s : Sit C U' H' σ' r') (a : Aft U H σ r U' H' σ' r') (Z : Addr → Prop) (hz : ∀ a, Z a → H a = none) :
    Sit C (fun a => U' a ∧ ¬ Z a) H' σ' r' ∧ Aft U H σ r (fun a => U' a ∧ ¬ Z a) H' σ' r' := by
  have u0 : ∀ a, U a → ¬ Z a := fun a h z => (s0.uok a h).ne (hz a z)
  refine ⟨⟨s.len, fun i t h => ?_, s.inj, fun b h z => s.dis b h z.1, fun b h => s.uok b h.1⟩, ⟨fun b h => ⟨a.sub b h, u0 b h⟩, fun b h => a.new b h.1, a.grow, a.keep, a.there, a.pin, a.lok⟩⟩
  obtain ⟨v, e, x⟩ := s.rep i t h
  refine ⟨v, e, x.less (fun b z => z.elim .inl fun z => .inr z.1) fun p hl hv => ?_⟩
  obtain ⟨h1, e1⟩ := a.lok i t h hl
  obtain ⟨v0, e0, x0⟩ := s0.rep i t h1
  rw [e1, e0] at e; cases e
  have q := x0.lkLv hl hv
  exact ⟨a.sub p q, u0 p q⟩
/-- one operand kept in a tree -/
def frz1 (o : Opd) (r : Rho) : Option (D × Rho) := match o with
  | .val (.fz d) => some (d, r)
  | .val (.ol ds) => some (.lst ds, r)
  | .val (.od kvs) => some (.dic (kvs.map Prod.fst) (kvs.map Prod.snd), r)
  | .val _ => none
  | .loc i => match r[i]? with
    | some (some (.fz d)) => some (d, r)
    | some (some (.ol ds)) => some (.lst ds, r.set i (some (.fz (.lst ds))))
    | _ => none
def frzAll : List Opd → Rho → Option (List D × Rho)
  | [], r => some ([], r)
  | o :: os, r => match frz1 o r with
    | some (d, r1) => (match frzAll os r1 with | some (ds, r2) => some (d :: ds, r2) | none => none)
    | none => none
/-- the operand's thing without its own object being held -/
def Ops2 (C : Ct) (U : Addr → Prop) (H : Hp) (σ : St) (r : Rho) (o : Opd) (v : V) : Prop :=
  match o with
  | .loc i => σ[i]? = some (some v) ∧ ∃ s, r[i]? = some (some s)
  | .val s => SR C.K U (Wn U σ r) H v s ∧ (∀ p, s.own = true → v = .ref p → ¬ Wn U σ r p) ∧ s.hard = false
theorem own_setfz {i : Nat} {d : D} {a : Addr} (h : Own σ (r.set i (some (.fz d))) a) : Own σ r a ∧ σ[i]? ≠ some (some (V.ref a)) ∨ (∃ j s, j ≠ i ∧ r[j]? = some (some s) ∧ s.own = true ∧ σ[j]? = some (some (V.ref a))) := by
  obtain ⟨j, s, h1, h2, h3⟩ := h
  by_cases e : i = j
  · subst e
    by_cases hl : i < r.length
    · rw [List.getElem?_set_self hl] at h1; cases h1; cases h2
    · rw [List.getElem?_eq_none (by simpa using hl)] at h1; cases h1
  · rw [List.getElem?_set_ne e] at h1
    exact .inr ⟨j, s, fun z => e z.symm, h1, h2, h3⟩
/-- a slot's own list becomes a frozen one -/
theorem frzSlot {i : Nat} {ds : List D} {v : V} (s : Sit C U H σ r) (hi : r[i]? = some (some (.ol ds))) (hv : σ[i]? = some (some v)) :
    Sit C U H σ (r.set i (some (.fz (.lst ds)))) ∧ Aft U H σ r U H σ (r.set i (some (.fz (.lst ds)))) ∧ Per r (r.set i (some (.fz (.lst ds)))) ∧ Rp C.K (Wn U σ (r.set i (some (.fz (.lst ds))))) H v (.lst ds) := by
  have hlt : i < r.length := by
    by_cases q : i < r.length
    · exact q
    · rw [List.getElem?_eq_none (by simpa using q)] at hi; cases hi
  have sub : ∀ a, Own σ (r.set i (some (.fz (.lst ds)))) a → Own σ r a ∧ σ[i]? ≠ some (some (V.ref a)) := fun a h => by
    rcases own_setfz h with h | ⟨j, t, n, h1, h2, h3⟩
    · exact h
    · refine ⟨⟨j, t, h1, h2, h3⟩, fun z => n ?_⟩
      refine (s.inj i j (.ol ds) t (.ref a) hi rfl h1 ?_ z h3).symm
      cases t <;> first | rfl | cases h2
  have wsub : ∀ a, Wn U σ (r.set i (some (.fz (.lst ds)))) a → Wn U σ r a := fun a h => h.elim (fun z => .inl (sub a z).1) .inr
  have rv : Rp C.K (Wn U σ (r.set i (some (.fz (.lst ds))))) H v (.lst ds) := by
    obtain ⟨v', e, x⟩ := s.rep i _ hi
    rw [hv] at e; cases e
    cases x with
    | ol e x =>
      refine .lst e (fun z => ?_) (x.less wsub)
      rcases z with z | z
      · exact (sub _ z).2 hv
      · exact s.dis _ ⟨i, _, hi, rfl, hv⟩ z
  have at' : ∀ (j : Nat) (t : S), (r.set i (some (.fz (.lst ds))))[j]? = some (some t) → (j = i ∧ t = .fz (.lst ds)) ∨ (j ≠ i ∧ r[j]? = some (some t)) := fun j t h => by
    by_cases e : i = j
    · subst e; rw [List.getElem?_set_self hlt] at h; cases h; exact .inl ⟨rfl, rfl⟩
    · rw [List.getElem?_set_ne e] at h; exact .inr ⟨fun z => e z.symm, h⟩
  refine ⟨⟨by rw [List.length_set]; exact s.len, fun j t h => ?_, fun j k t u w h1 q1 h2 q2 => ?_, fun a h => s.dis a (sub a h).1, s.uok⟩, ⟨fun _ h => h, fun _ h => .inl h, fun a h => .inl (sub a h).1, fun a o h _ => h, fun a o h => ⟨o, h⟩, fun j t h k => ?_, fun j t h k => ?_⟩, fun j t h => ?_, rv⟩
  · rcases at' j t h with ⟨rfl, rfl⟩ | ⟨n, h⟩
    · exact ⟨v, hv, .fz rv⟩
    · obtain ⟨w, e, x⟩ := s.rep j t h
      exact ⟨w, e, x.less wsub fun p hl hp => x.lkLv hl hp⟩
  · rcases at' j t h1 with ⟨rfl, rfl⟩ | ⟨n, h1⟩
    · cases q1
    · rcases at' k u h2 with ⟨rfl, rfl⟩ | ⟨n', h2⟩
      · cases q2
      · exact s.inj j k t u w h1 q1 h2 q2
  · have n : i ≠ j := fun z => by subst z; rw [hi] at h; cases h; cases k
    exact ⟨t, by rw [List.getElem?_set_ne n]; exact h, Sl.refl t, rfl⟩
  · rcases at' j t h with ⟨rfl, rfl⟩ | ⟨n, h⟩
    · cases k
    · exact ⟨h, rfl⟩
  · by_cases e : i = j
    · subst e; exact ⟨_, List.getElem?_set_self hlt⟩
    · exact ⟨t, by rw [List.getElem?_set_ne e]; exact h⟩
theorem kr_rps {κ : Type} : ∀ {xs : List (κ × V)} {ds : List (κ × D)}, KR K W H xs ds → xs.map Prod.fst = ds.map Prod.fst ∧ Rps K W H (xs.map Prod.snd) (ds.map Prod.snd)
  | _, _, .nil => ⟨rfl, .nil⟩
  | _, _, .cons h t => by
    obtain ⟨h1, h2⟩ := kr_rps t
    exact ⟨by rw [List.map_cons, List.map_cons, h.1, h1], .cons h.2 h2⟩
theorem frz1_ok {o : Opd} {v : V} {d : D} {r1 : Rho} (s : Sit C U H σ r) (k : Ops2 C U H σ r o v) (h : frz1 o r = some (d, r1)) :
    Sit C U H σ r1 ∧ Aft U H σ r U H σ r1 ∧ Per r r1 ∧ Rp C.K (Wn U σ r1) H v d := by
  cases o with
  | val t =>
    obtain ⟨x, n, _⟩ := k
    cases t with
    | fz d' => cases h; cases x with | fz x => exact ⟨s, Aft.refl, Per.refl, x⟩
    | ol ds =>
      cases h
      cases x with
      | ol e x => exact ⟨s, Aft.refl, Per.refl, .lst e (n _ rfl rfl) x⟩
    | od kvs =>
      cases h
      cases x with
      | od e x => exact ⟨s, Aft.refl, Per.refl, .dic e (n _ rfl rfl) (kr_rps x).1 (kr_rps x).2⟩
    | _ => cases h
  | loc i =>
    obtain ⟨hv, t, ht⟩ := k
    unfold frz1 at h
    simp only [ht] at h
    cases t with
    | fz d' =>
      cases h
      obtain ⟨w, e, x⟩ := s.rep i _ ht
      rw [hv] at e; cases e
      cases x with | fz x => exact ⟨s, Aft.refl, Per.refl, x⟩
    | ol ds =>
      cases h
      exact frzSlot s ht hv
    | _ => cases h
theorem Ops2.after {o : Opd} {v : V} (k : Ops2 C U H σ r o v) (x : Aft U H σ r U H σ r') (s : Sit C U H σ r) (p : Per r r') : Ops2 C U H σ r' o v := by
  cases o with
  | loc i => exact ⟨k.1, let ⟨t, h⟩ := k.2; p i t h⟩
  | val t =>
    obtain ⟨k1, k2, k3⟩ := k
    refine ⟨k1.mono (x.mono s) fun a o ho hv h => h, fun p ho hv z => ?_, k3⟩
    obtain ⟨q, e, l⟩ := k1.ownLv ho
    rw [hv] at e; cases e
    have n := k2 p ho hv
    rcases z with z | z
    · rcases x.grow p z with z | z
      · exact n (.inl z)
      · exact l.ne z
    · exact n (.inr z)
theorem frzAll_ok (s : Sit C U H σ r) : ∀ {os : List Opd} {vs : List V} {ds : List D} {r1 : Rho}, Paired (fun o v => Ops2 C U H σ r o v) os vs → frzAll os r = some (ds, r1) →
    Sit C U H σ r1 ∧ Aft U H σ r U H σ r1 ∧ Per r r1 ∧ Rps C.K (Wn U σ r1) H vs ds := by
  intro os
  induction os generalizing r with
  | nil =>
    intro vs ds r1 k h
    cases k
    cases h
    exact ⟨s, Aft.refl, Per.refl, .nil⟩
  | cons o os ih =>
    intro vs ds r1 k h
    cases k with
    | cons k1 k2 =>
      unfold frzAll at h
      cases e : frz1 o r with
      | none => simp only [e] at h; cases h
      | some q =>
        obtain ⟨d, r2⟩ := q
        simp only [e] at h
        obtain ⟨s2, a2, p2, x2⟩ := frz1_ok s k1 e
        cases e' : frzAll os r2 with
        | none => simp only [e'] at h; cases h
        | some q =>
          obtain ⟨ds', r3⟩ := q
          simp only [e'] at h
          cases h
          obtain ⟨s3, a3, p3, x3⟩ := ih s2 (Paired.mapP k2 fun _ _ z => z.after a2 s p2) e'
          exact ⟨s3, a2.trans a3, p2.trans p3, .cons (x2.mono (a3.mono s2)) x3⟩
/-- operands behind their evaluation: their own objects are let go -/
theorem ops_drop (s0 : Sit C U H σ r) (s : Sit C U' H' σ r') (a : Aft U H σ r U' H' σ r') {os : List Opd} {vs : List V} (k : OpsOk C U' H' σ r' os vs) (n : NewS H os vs) :
    ∃ U2, Sit C U2 H' σ r' ∧ Aft U H σ r U2 H' σ r' ∧ (∀ a, U2 a → U' a) ∧ Paired (fun o v => Ops2 C U2 H' σ r' o v) os vs := by
  let Z : Addr → Prop := fun a => ∃ s, s.own = true ∧ (∃ i : Nat, os[i]? = some (.val s) ∧ vs[i]? = some (V.ref a))
  have hz : ∀ a, Z a → H a = none := by
    rintro a ⟨t, ho, i, h1, h2⟩
    clear s k
    induction n generalizing i with
    | nil => cases h1
    | cons q _ ih =>
      cases i with
      | zero => cases h1; cases h2; exact q t a rfl ho rfl
      | succ i => exact ih i h1 h2
  obtain ⟨s2, a2⟩ := s0.drop s a Z hz
  refine ⟨_, s2, a2, fun a h => h.1, ?_⟩
  have key : ∀ (os' : List Opd) (vs' : List V), OpsOk C U' H' σ r' os' vs' → (∀ (i : Nat) o v, os'[i]? = some o → vs'[i]? = some v → ∃ j : Nat, os[j]? = some o ∧ vs[j]? = some v) → Paired (fun o v => Ops2 C (fun a => U' a ∧ ¬ Z a) H' σ r' o v) os' vs' := by
    intro os' vs' k'
    induction k' with
    | nil => exact fun _ => .nil
    | @cons o v os' vs' q _ ih =>
      intro hj
      refine .cons ?_ (ih fun i o v h1 h2 => hj (i + 1) o v h1 h2)
      cases o with
      | loc i => exact q
      | val t =>
        obtain ⟨x, hu, hh⟩ := q
        refine ⟨x.less (fun b z => z.elim .inl fun z => .inr z.1) fun p hl _ => ?_, fun p ho hv z => ?_, hh⟩
        · rw [lkd_hard hl] at hh; cases hh
        · obtain ⟨j, h1, h2⟩ := hj 0 _ v rfl rfl
          rcases z with z | z
          · exact s.dis p z (hu p ho hv)
          · exact z.2 ⟨t, ho, j, h1, by rw [h2, hv]⟩
  exact key os vs k fun i o v h1 h2 => ⟨i, h1, h2⟩
end
section
variable {X : Cx} {C : Ct} {e : Expr} {es : List Expr}
def eTup (fa : Rho → Rs (List Opd)) : Rho → Rs Opd := fun r => (fa r).bind fun os r1 => match frzAll os r1 with
  | some (ds, r2) => if os.length ≤ 1000 then .ok (.val (.fz (.tup ds))) r2 else .st
  | none => .st
def eLst (fa : Rho → Rs (List Opd)) : Rho → Rs Opd := fun r => (fa r).bind fun os r1 => match frzAll os r1 with
  | some (ds, r2) => if os.length ≤ 1000 then .ok (.val (.ol ds)) r2 else .st
  | none => .st
theorem k1000 {n : Nat} (h : n ≤ 1000) : n ≤ sizeLine := by rw [sizeLine_eq]; omega
abbrev RE (C : Ct) (U : Addr → Prop) (H : Hp) (σ : St) (r : Rho) (Q : VK) (z : Rs Opd) : Prop := match z with
  | .ok o r' => ∀ v H' U', Sit C U' H' σ r' → Aft U H σ r U' H' σ r' → Per r r' → OpOk C U' H' σ r' o v → New H o v → Q v H'
  | .ex c fs r' => XWant C U H σ r c fs r'
  | .st => False
def tTupX (t : TA) : TE := fun σ H Q => t σ H fun xs H1 => xs.length ≤ sizeLine ∧ ∀ p o, TupO o → H1 p = none → Q (.ref p) (upd H1 p (.frz o (.tup xs)))
theorem pe_tupX {X : Cx} {es : List Expr} {t : TA} {pos : Pos} {x1 : Nat} (h : PA X es t) : PE X (.Tuple es x1 pos) (tTupX t) := by
  refine ⟨fun pins s σ H Q I hq => ?_⟩
  refine wpAny_Tuple_spliced (thn (h.run pos pins s σ H _ I hq) fun us s1 ⟨xs, H1, I1, r, z, q⟩ => ⟨by rw [← r.length]; exact z, ?_⟩)
  have hf : H1 s1.heap.objs.size = none := I1.hok.fresh (Nat.le_refl _)
  refine ⟨.ref s1.heap.objs.size, upd H1 s1.heap.objs.size (.frz { cls := .type "tuple", data := .seq us.toArray } (.tup xs)), I1.laid (t' := s1.toks) (fun b u e => Heap.get?_push_of_some _ e) (Nat.le_refl _) ?_, rfl, q _ _ ⟨rfl, rfl⟩ hf⟩
  exact ⟨Heap.get?_push_size _ rfl, z, us, r, ⟨_, Heap.get?_push_size _ rfl, rfl, _, rfl⟩⟩
theorem ge_tup {fa : Rho → Rs (List Opd)} (h : PE X e (tTupX (tA C fa))) : GE X C e (eTup fa) := by
  refine weakE h fun σ H Q h => ?_
  obtain ⟨U, r, s, h⟩ := h
  refine tA_then (R := RE C U H σ r Q) s h id (fun _ _ _ z => z) ?_
  intro os r1 vs H1 U1 s1 a1 p1 k1 n1 h1
  cases e : frzAll os r1 with
  | none => simp only [e] at h1; exact (show False from h1).elim
  | some q =>
    obtain ⟨ds, r2⟩ := q
    simp only [e] at h1
    by_cases hl : os.length ≤ 1000
    · rw [if_pos hl] at h1
      obtain ⟨U2, s2, a2, u2, k2⟩ := ops_drop s s1 a1 k1 n1
      obtain ⟨s3, a3, p3, x3⟩ := frzAll_ok s2 k2 e
      refine ⟨k1000 (by rw [← Paired.length k1]; exact hl), fun p o ho hp => ?_⟩
      obtain ⟨U4, s4, a4, k4, n4⟩ := (Got.newT s3.wlv hp ho x3).fin s3
      exact h1 _ _ U4 s4 ((a2.trans a3).trans a4) (p1.trans p3) k4 (n4.back a1)
    · rw [if_neg hl] at h1
      exact h1.elim
theorem ge_lst {fa : Rho → Rs (List Opd)} (h : PE X e (tLst (tA C fa))) : GE X C e (eLst fa) := by
  refine weakE h fun σ H Q h => ?_
  obtain ⟨U, r, s, h⟩ := h
  refine tA_then (R := RE C U H σ r Q) s h id (fun _ _ _ z => z) ?_
  intro os r1 vs H1 U1 s1 a1 p1 k1 n1 h1
  cases e : frzAll os r1 with
  | none => simp only [e] at h1; exact (show False from h1).elim
  | some q =>
    obtain ⟨ds, r2⟩ := q
    simp only [e] at h1
    by_cases hl : os.length ≤ 1000
    · rw [if_pos hl] at h1
      obtain ⟨U2, s2, a2, u2, k2⟩ := ops_drop s s1 a1 k1 n1
      obtain ⟨s3, a3, p3, x3⟩ := frzAll_ok s2 k2 e
      refine ⟨k1000 (by rw [← Paired.length k1]; exact hl), fun p hp => ?_⟩
      obtain ⟨U4, s4, a4, k4, n4⟩ := (Got.newL s3.wlv hp x3).fin s3
      exact h1 _ _ U4 s4 ((a2.trans a3).trans a4) (p1.trans p3) k4 (n4.back a1)
    · rw [if_neg hl] at h1
      exact h1.elim
end
end GB
namespace GB
open PySem PySem.Spec PyProof.Rows L2
/-- a def's end: its value, what its borrowed things are behind it -/
inductive FR where
  | ok (s : S) (outs : List S) | ex (c : Str) (fs : List (Str × D)) (outs : List S) | st
abbrev Fs := List S → FR
abbrev slots (vs : List V) : St := vs.map some
abbrev words (ss : List S) : Rho := ss.map some
/-- the promise of a def that is run by F -/
def spF (C : Ct) (n : Nat) (F : Fs) : Sp := fun vs H Q E => vs.length = n ∧ ∃ U ss, (∀ s ∈ ss, s.own = true → s.hard = true) ∧ Sit C U H (slots vs) (words ss) ∧
  match F ss with
  | .ok s outs => ∀ v H' U', Sit C U' H' (slots vs) (words outs) → Aft U H (slots vs) (words ss) U' H' (slots vs) (words outs) → OpOk C U' H' (slots vs) (words outs) (.val s) v → New H (.val s) v → Q v H'
  | .ex c fs outs => ∀ cls d H' U', Sit C U' H' (slots vs) (words outs) → Aft U H (slots vs) (words ss) U' H' (slots vs) (words outs) → XRp C (Wn U' (slots vs) (words outs)) c fs cls d H' → E cls d H'
  | .st => False
def pass1 (r : Rho) : Opd → Option S
  | .val (.fz d) => some (.fz d)
  | .val (.ol ds) => some (.fz (.lst ds))
  | .val _ => none
  | .loc i => match r[i]? with
    | some (some s) => (match s with
      | .fz d => some (.fz d) | .ol ds => some (.br ds) | .br ds => some (.br ds) | .lk ds => some (.lk ds)
      | .od k => some (.bd k) | .bd k => some (.bd k) | .kd _ _ _ => none | .exc _ _ _ _ => none | .nd _ _ => none | .nh _ _ _ => none | .ot _ => none | .kt _ _ _ => none | .ky _ => none)
    | _ => none
def passAll (r : Rho) : List Opd → Option (List S)
  | [] => some []
  | o :: os => match pass1 r o, passAll r os with
    | some s, some ss => some (s :: ss)
    | _, _ => none
def isLoc (i : Nat) : Opd → Bool
  | .loc j => i == j
  | _ => false
def hardAt (r : Rho) (i : Nat) : Bool := match r[i]? with
  | some (some s) => !s.soft
  | _ => false
/-- nothing writable is handed in twice -/
def dst (r : Rho) : List Opd → Bool
  | [] => true
  | o :: os => (match o with | .loc i => if hardAt r i then !(os.any (isLoc i)) else true | _ => true) && dst r os
def wb1 (o : Opd) (t : S) (r : Rho) : Option Rho := match o with
  | .val _ => some r
  | .loc i => match r[i]? with
    | some (some (.ol _)) => (match t with | .br ds => some (r.set i (some (.ol ds))) | _ => none)
    | some (some (.br _)) => (match t with | .br ds => some (r.set i (some (.br ds))) | _ => none)
    | some (some (.od _)) => (match t with | .bd ds => some (r.set i (some (.od ds))) | _ => none)
    | some (some (.bd _)) => (match t with | .bd ds => some (r.set i (some (.bd ds))) | _ => none)
    | some (some (.ot _)) => none
    | some (some _) => some r
    | _ => none
def wbAll : List Opd → List S → Rho → Option Rho
  | [], [], r => some r
  | o :: os, t :: ts, r => (match wb1 o t r with | some r1 => wbAll os ts r1 | none => none)
  | _, _, _ => none
def eFnO (F : Fs) (os : List Opd) (r : Rho) : Rs Opd := match passAll r os with
  | some ss => if dst r os then
      (match F ss with
        | .ok s outs => (match wbAll os outs r with | some r1 => .ok (.val s) r1 | none => .st)
        | .ex c fs outs => (match wbAll os outs r with | some r1 => .ex c fs r1 | none => .st)
        | .st => .st)
      else .st
  | none => .st
def eFn (F : Fs) (fa : Rho → Rs (List Opd)) : Rho → Rs Opd := fun r => (fa r).bind (eFnO F)
/-- a borrowed thing as its owner has it again -/
def Ub (t' t : S) : Prop := (∃ ds, t' = .br ds ∧ (t = .ol ds ∨ t = .br ds)) ∨ (∃ k, t' = .bd k ∧ (t = .od k ∨ t = .bd k))
def Kd (s t : S) : Prop := t.own = true ∧ (s.hard = true → Sl s t) ∧ t.lkd = false ∧ s.own = true
theorem Ub.own {t' t : S} (h : Ub t' t) : t.own = true := by
  rcases h with ⟨_, _, h | h⟩ | ⟨_, _, h | h⟩ <;> (subst h; rfl)
theorem wb1_spec {o : Opd} {t : S} {r r1 : Rho} (h : wb1 o t r = some r1) : r1.length = r.length ∧ Per r r1 ∧ ∀ (j : Nat) (u : S), r1[j]? = some (some u) →
    (r[j]? = some (some u) ∧ (o = .loc j → u.own = false)) ∨ (∃ s, o = .loc j ∧ r[j]? = some (some s) ∧ Ub t u ∧ Kd s u) := by
  cases o with
  | val s => cases h; exact ⟨rfl, Per.refl, fun j u q => .inl ⟨q, fun z => nomatch z⟩⟩
  | loc i =>
    unfold wb1 at h
    cases e : r[i]? with
    | none => simp only [e] at h; cases h
    | some q =>
      cases q with
      | none => simp only [e] at h; cases h
      | some s =>
        have hlt : i < r.length := by
          by_cases q : i < r.length
          · exact q
          · rw [List.getElem?_eq_none (by simpa using q)] at e; cases e
        have setc : ∀ w, Ub t w → Kd s w → (r.set i (some w)).length = r.length ∧ Per r (r.set i (some w)) ∧ ∀ (j : Nat) (u : S), (r.set i (some w))[j]? = some (some u) →
            (r[j]? = some (some u) ∧ (Opd.loc i = .loc j → u.own = false)) ∨ (∃ s, Opd.loc i = .loc j ∧ r[j]? = some (some s) ∧ Ub t u ∧ Kd s u) := fun w h1 h2 => by
          refine ⟨List.length_set, fun j u q => ?_, fun j u q => ?_⟩
          · by_cases z : i = j
            · subst z; exact ⟨w, List.getElem?_set_self hlt⟩
            · exact ⟨u, by rw [List.getElem?_set_ne z]; exact q⟩
          · by_cases z : i = j
            · subst z; rw [List.getElem?_set_self hlt] at q; cases q; exact .inr ⟨s, rfl, e, h1, h2⟩
            · rw [List.getElem?_set_ne z] at q; exact .inl ⟨q, fun y => by cases y; exact absurd rfl z⟩
        have same : s.own = false → r1 = r → r1.length = r.length ∧ Per r r1 ∧ ∀ (j : Nat) (u : S), r1[j]? = some (some u) →
            (r[j]? = some (some u) ∧ (Opd.loc i = .loc j → u.own = false)) ∨ (∃ s, Opd.loc i = .loc j ∧ r[j]? = some (some s) ∧ Ub t u ∧ Kd s u) := fun h1 h2 => by
          subst h2
          exact ⟨rfl, Per.refl, fun j u q => .inl ⟨q, fun z => by cases z; rw [e] at q; cases q; exact h1⟩⟩
        simp only [e] at h
        cases s with
        | ol ds => cases t <;> first | (cases h; done) | (cases h; exact setc _ (.inl ⟨_, rfl, .inl rfl⟩) ⟨rfl, (fun z => nomatch z), rfl, rfl⟩)
        | br ds => cases t <;> first | (cases h; done) | (cases h; exact setc _ (.inl ⟨_, rfl, .inr rfl⟩) ⟨rfl, fun z => ⟨_, rfl⟩, rfl, rfl⟩)
        | od ds => cases t <;> first | (cases h; done) | (cases h; exact setc _ (.inr ⟨_, rfl, .inl rfl⟩) ⟨rfl, (fun z => nomatch z), rfl, rfl⟩)
        | bd ds => cases t <;> first | (cases h; done) | (cases h; exact setc _ (.inr ⟨_, rfl, .inr rfl⟩) ⟨rfl, fun z => ⟨_, rfl⟩, rfl, rfl⟩)
        | fz d => cases h; exact same rfl rfl
        | lk d => cases h; exact same rfl rfl
        | kd _ _ d => cases h; exact same rfl rfl
        | exc _ _ _ _ => cases h; exact same rfl rfl
        | nd _ _ => cases h; exact same rfl rfl
        | nh _ _ _ => cases h; exact same rfl rfl
        | ot _ => cases h
        | kt _ _ _ => cases h; exact same rfl rfl
        | ky _ => cases h; exact same rfl rfl
theorem Kd.trans {s t u : S} (h : Kd s t) (k : Kd t u) : Kd s u := ⟨k.1, fun z => (h.2.1 z).trans (k.2.1 ((h.2.1 z).hard z)), k.2.2.1, h.2.2.2⟩
theorem wbAll_spec : ∀ {os : List Opd} {ts : List S} {r r1 : Rho}, wbAll os ts r = some r1 → r1.length = r.length ∧ Per r r1 ∧ ∀ (j : Nat) (u : S), r1[j]? = some (some u) →
    (r[j]? = some (some u) ∧ (∀ k : Nat, os[k]? = some (.loc j) → u.own = false)) ∨ (∃ (k : Nat) (s t : S), os[k]? = some (.loc j) ∧ ts[k]? = some t ∧ r[j]? = some (some s) ∧ Ub t u ∧ Kd s u)
  | [], [], r, r1, h => by cases h; exact ⟨rfl, Per.refl, fun j u q => .inl ⟨q, (fun k z => by simp at z)⟩⟩
  | [], _ :: _, _, _, h => by cases h
  | _ :: _, [], _, _, h => by cases h
  | o :: os, t :: ts, r, r1, h => by
    unfold wbAll at h
    cases e : wb1 o t r with
    | none => simp only [e] at h; cases h
    | some r2 =>
      simp only [e] at h
      obtain ⟨l1, p1, c1⟩ := wb1_spec e
      obtain ⟨l2, p2, c2⟩ := wbAll_spec h
      refine ⟨l2.trans l1, p1.trans p2, fun j u q => ?_⟩
      rcases c2 j u q with ⟨q2, n2⟩ | ⟨k, s, t', h1, h2, h3, h4, h5⟩
      · rcases c1 j u q2 with ⟨q1, n1⟩ | ⟨s, h1, h2, h3, h4⟩
        · refine .inl ⟨q1, fun k hk => ?_⟩
          cases k with
          | zero => exact n1 (by simpa using hk)
          | succ k => exact n2 k (by simpa using hk)
        · exact .inr ⟨0, s, t, by simp [h1], rfl, h2, h3, h4⟩
      · rcases c1 j s h3 with ⟨q1, n1⟩ | ⟨s', g1, g2, g3, g4⟩
        · exact .inr ⟨k + 1, s, t', by simpa using h1, by simpa using h2, q1, h4, h5⟩
        · exact .inr ⟨k + 1, s', t', by simpa using h1, by simpa using h2, g2, h4, g4.trans h5⟩
theorem dst_spec {r : Rho} : ∀ {os : List Opd}, dst r os = true → ∀ (k l i : Nat), os[k]? = some (.loc i) → os[l]? = some (.loc i) → hardAt r i = true → k = l
  | [], _, _, _, _, h, _, _ => by simp at h
  | o :: os, h, k, l, i, h1, h2, h3 => by
    unfold dst at h
    rw [Bool.and_eq_true] at h
    have no : ∀ m : Nat, o = .loc i → os[m]? = some (.loc i) → False := fun m e hm => by
      subst e
      have q := h.1
      simp only [h3, if_true] at q
      have : os.any (isLoc i) = true := List.any_eq_true.mpr ⟨.loc i, List.mem_of_getElem? hm, by simp [isLoc]⟩
      rw [this] at q; cases q
    cases k with
    | zero =>
      cases l with
      | zero => rfl
      | succ l => exact (no l (by simpa using h1) (by simpa using h2)).elim
    | succ k =>
      cases l with
      | zero => exact (no k (by simpa using h2) (by simpa using h1)).elim
      | succ l => exact congrArg (· + 1) (dst_spec h.2 k l i (by simpa using h1) (by simpa using h2) h3)
theorem pass_spec {r : Rho} : ∀ {os : List Opd} {ss : List S}, passAll r os = some ss → os.length = ss.length ∧ ∀ (k : Nat) (s : S), ss[k]? = some s → ∃ o, os[k]? = some o ∧ pass1 r o = some s
  | [], ss, h => by cases h; exact ⟨rfl, fun k s z => by simp at z⟩
  | o :: os, ss, h => by
    unfold passAll at h
    cases e1 : pass1 r o with
    | none => simp only [e1] at h; cases h
    | some s =>
      cases e2 : passAll r os with
      | none => simp only [e1, e2] at h; cases h
      | some ss' =>
        simp only [e1, e2] at h
        cases h
        obtain ⟨l, c⟩ := pass_spec e2
        refine ⟨by simp [l], fun k t z => ?_⟩
        cases k with
        | zero => cases z; exact ⟨o, rfl, e1⟩
        | succ k => exact c k t (by simpa using z)
end GB
namespace GB
open PySem PySem.Spec PyProof.Rows L2
section
variable {C : Ct} {U : Addr → Prop} {H : Hp} {σ : St} {r : Rho}
theorem slots_at {vs : List V} {k : Nat} {v : V} : (slots vs)[k]? = some (some v) ↔ vs[k]? = some v := by
  unfold slots
  rw [List.getElem?_map]
  cases vs[k]? <;> simp
theorem words_at {ss : List S} {k : Nat} {s : S} : (words ss)[k]? = some (some s) ↔ ss[k]? = some s := by
  unfold words
  rw [List.getElem?_map]
  cases ss[k]? <;> simp
theorem paired_at {α β : Type} {F : α → β → Prop} : ∀ {xs : List α} {ys : List β}, Paired F xs ys → ∀ (k : Nat) (x : α), xs[k]? = some x → ∃ y, ys[k]? = some y ∧ F x y
  | _, _, .nil, _, _, h => by simp at h
  | _, _, .cons p _, 0, _, h => by cases h; exact ⟨_, rfl, p⟩
  | _, _, .cons _ t, k + 1, x, h => paired_at t k x (by simpa using h)
/-- what a word of an argument says of the operand -/
theorem pass1_spec {o : Opd} {s : S} (h : pass1 r o = some s) : (∃ d, s = .fz d) ∨ (∃ i t, o = .loc i ∧ r[i]? = some (some t) ∧ t.soft = false ∧ s.hard = true ∧ s.own = t.own ∧ s.lkd = t.lkd) := by
  cases o with
  | val t => cases t <;> first | (cases h; done) | (cases h; exact .inl ⟨_, rfl⟩)
  | loc i =>
    unfold pass1 at h
    cases e : r[i]? with
    | none => simp only [e] at h; cases h
    | some q =>
      cases q with
      | none => simp only [e] at h; cases h
      | some t =>
        simp only [e] at h
        cases t <;> cases h <;> first | exact .inl ⟨_, rfl⟩ | exact .inr ⟨i, _, rfl, e, rfl, rfl, rfl, rfl⟩
theorem soft_of_own {s : S} (h : s.own = true) : s.soft = false := by cases s <;> first | rfl | cases h
/-- the arguments' own state -/
theorem args_sit {os : List Opd} {vs : List V} {ss : List S} (s : Sit C U H σ r) (k : Paired (fun o v => Ops2 C U H σ r o v) os vs) (hp : passAll r os = some ss) (hd : dst r os = true) :
    Sit C (fun a => Wn U σ r a ∧ ¬ Own (slots vs) (words ss) a) H (slots vs) (words ss) ∧
    (∀ a, Own (slots vs) (words ss) a → ∃ (n i : Nat) (t : S), os[n]? = some (.loc i) ∧ r[i]? = some (some t) ∧ t.own = true ∧ σ[i]? = some (some (V.ref a)) ∧ vs[n]? = some (V.ref a)) := by
  obtain ⟨hl, hs⟩ := pass_spec hp
  have own : ∀ a, Own (slots vs) (words ss) a → ∃ (n i : Nat) (t : S), os[n]? = some (.loc i) ∧ r[i]? = some (some t) ∧ t.own = true ∧ σ[i]? = some (some (V.ref a)) ∧ vs[n]? = some (V.ref a) := by
    rintro a ⟨n, t, h1, h2, h3⟩
    rw [words_at] at h1
    rw [slots_at] at h3
    obtain ⟨o, ho, hq⟩ := hs n t h1
    rcases pass1_spec hq with ⟨d, rfl⟩ | ⟨i, u, rfl, hi, hu, ht, e1, e2⟩
    · cases h2
    · obtain ⟨v, hv, kv⟩ := paired_at k n _ ho
      rw [h3] at hv; cases hv
      exact ⟨n, i, u, ho, hi, e1.symm.trans h2, kv.1, h3⟩
  have wsub : ∀ a, Wn (fun a => Wn U σ r a ∧ ¬ Own (slots vs) (words ss) a) (slots vs) (words ss) a → Wn U σ r a := fun a h => by
    rcases h with h | h
    · obtain ⟨n, i, t, _, h2, h3, h4, _⟩ := own a h
      exact .inl ⟨i, t, h2, h3, h4⟩
    · exact h.1
  refine ⟨⟨?_, fun n t h => ?_, fun m n t u v h1 q1 h2 q2 e1 e2 => ?_, fun a h z => z.2 h, fun a h => s.wlv a h.1⟩, own⟩
  · simp only [slots, words, List.length_map]
    rw [← Paired.length k, hl]
  · rw [words_at] at h
    obtain ⟨o, ho, hq⟩ := hs n t h
    obtain ⟨v, hv, kv⟩ := paired_at k n _ ho
    refine ⟨v, slots_at.mpr hv, ?_⟩
    cases o with
    | val u =>
      obtain ⟨x, nw, _⟩ := kv
      cases u with
      | fz d => cases hq; cases x with | fz x => exact .fz (x.less wsub)
      | ol ds =>
        cases hq
        cases x with
        | ol e x => exact .fz (.lst e (fun z => nw _ rfl rfl (wsub _ z)) (x.less wsub))
      | _ => cases hq
    | loc i =>
      obtain ⟨kv1, u, hu⟩ := kv
      obtain ⟨w, hw, x⟩ := s.rep i u hu
      rw [kv1] at hw; cases hw
      unfold pass1 at hq
      simp only [hu] at hq
      cases x with
      | fz x => cases hq; exact .fz (x.less wsub)
      | ol e x => cases hq; exact .br e (x.less wsub)
      | br e x => cases hq; exact .br e (x.less wsub)
      | od e x => cases hq; exact .bd e (x.less wsub)
      | bd e x => cases hq; exact .bd e (x.less wsub)
      | exc _ _ => cases hq
      | nd _ => cases hq
      | nh _ _ => cases hq
      | ot _ _ => cases hq
      | kt _ _ => cases hq
      | ky _ => cases hq
      | @lk p _ _ e u' x =>
        cases hq
        refine .lk e ⟨.inr u', fun z => ?_⟩ (x.less wsub)
        obtain ⟨_, j, t', _, z2, z3, z4, _⟩ := own p z
        exact s.dis p ⟨j, t', z2, z3, z4⟩ u'
      | kd _ _ => cases hq
  · rw [words_at] at h1 h2
    rw [slots_at] at e1 e2
    obtain ⟨o1, ho1, hq1⟩ := hs m t h1
    obtain ⟨o2, ho2, hq2⟩ := hs n u h2
    rcases pass1_spec hq1 with ⟨d, rfl⟩ | ⟨i, t1, rfl, hi, hti, _, _, _⟩
    · cases q1
    rcases pass1_spec hq2 with ⟨d, rfl⟩ | ⟨j, t2, rfl, hj, htj, _, _, _⟩
    · cases q2
    obtain ⟨v1, hv1, k1⟩ := paired_at k m _ ho1
    obtain ⟨v2, hv2, k2⟩ := paired_at k n _ ho2
    rw [e1] at hv1; cases hv1
    rw [e2] at hv2; cases hv2
    have ij := s.inj i j t1 t2 v hi hti hj htj k1.1 k2.1
    subst ij
    exact dst_spec hd m n i ho1 ho2 (by simp [hardAt, hi, hti])
end
end GB
namespace GB
open PySem PySem.Spec PyProof.Rows L2
section
variable {C : Ct} {U : Addr → Prop} {H : Hp} {σ : St} {r : Rho}
theorem Aft.ownPin {U U' : Addr → Prop} {H H' : Hp} {vs : List V} {ss outs : List S} (x : Aft U H (slots vs) (words ss) U' H' (slots vs) (words outs)) (hh : ∀ (k : Nat) (s : S), ss[k]? = some s → s.own = true → s.hard = true) {a : Addr} (h : Own (slots vs) (words ss) a) : Own (slots vs) (words outs) a := by
  obtain ⟨k, s, h1, h2, h3⟩ := h
  have hd := hh k s (words_at.mp h1) h2
  obtain ⟨s', h1', l, e⟩ := x.pin k s h1 hd
  refine ⟨k, s', h1', ?_, h3⟩
  cases s <;> simp [S.hard] at hd <;> simp [S.own] at h2 <;> simp [Sl] at l <;> (obtain ⟨_, rfl⟩ := l; rfl)
theorem Ub.sr {K : PySem.W.Frag} {U W U' W' : Addr → Prop} {H : Hp} {v : V} {t' t : S} (u : Ub t' t) (h : ∀ a, W' a → W a) (x : SR K U W H v t') : SR K U' W' H v t := by
  rcases u with ⟨ds, rfl, rfl | rfl⟩ | ⟨ds, rfl, rfl | rfl⟩
  · cases x with | br e x => exact .ol e (x.less h)
  · cases x with | br e x => exact .br e (x.less h)
  · cases x with | bd e x => exact .od e (x.less h)
  · cases x with | bd e x => exact .bd e (x.less h)
/-- the caller's state behind a call; Z: the value's own object, new -/
theorem call_back {os : List Opd} {vs : List V} {ss outs : List S} {H' : Hp} {U' : Addr → Prop} {r1 : Rho} (s : Sit C U H σ r) (k : Paired (fun o v => Ops2 C U H σ r o v) os vs) (hp : passAll r os = some ss) (hd : dst r os = true)
    (s' : Sit C U' H' (slots vs) (words outs)) (a' : Aft (fun a => Wn U σ r a ∧ ¬ Own (slots vs) (words ss) a) H (slots vs) (words ss) U' H' (slots vs) (words outs)) (hw : wbAll os outs r = some r1)
    (Z : Addr → Prop) (hz : ∀ a, Z a → H a = none ∧ U' a ∧ Lv H' a) :
    Sit C (fun a => U a ∨ Z a) H' σ r1 ∧ Aft U H σ r (fun a => U a ∨ Z a) H' σ r1 ∧ Per r r1 ∧ ∀ a, Wn (fun a => U a ∨ Z a) σ r1 a → Wn U' (slots vs) (words outs) a := by
  obtain ⟨sA, own⟩ := args_sit s k hp hd
  obtain ⟨hl, hs⟩ := pass_spec hp
  obtain ⟨wl, wp, wc⟩ := wbAll_spec hw
  have hh : ∀ (k : Nat) (s : S), ss[k]? = some s → s.own = true → s.hard = true := fun n t h1 h2 => by
    obtain ⟨o, _, hq⟩ := hs n t h1
    rcases pass1_spec hq with ⟨d, rfl⟩ | ⟨_, _, _, _, _, q, _, _⟩
    · cases h2
    · exact q
  -- the owned objects are the same
  have own1 : ∀ a, Own σ r1 a → Own σ r a := fun a ⟨j, t, h1, h2, h3⟩ => by
    rcases wc j t h1 with ⟨q, _⟩ | ⟨_, u, _, _, _, q, _, kd⟩
    · exact ⟨j, t, q, h2, h3⟩
    · exact ⟨j, u, q, kd.2.2.2, h3⟩
  have wsub : ∀ a, Wn (fun a => U a ∨ Z a) σ r1 a → Wn U' (slots vs) (words outs) a := fun a h => by
    have base : Wn U σ r a → Wn U' (slots vs) (words outs) a := fun h => by
      by_cases q : Own (slots vs) (words ss) a
      · exact .inl (a'.ownPin hh q)
      · exact .inr (a'.sub a ⟨h, q⟩)
    rcases h with h | h | h
    · exact base (.inl (own1 a h))
    · exact base (.inr h)
    · exact .inr (hz a h).2.1
  have m : Mono U (Wn U σ r) H (fun a => U a ∨ Z a) (Wn (fun a => U a ∨ Z a) σ r1) H' := by
    refine ⟨s.wlv, fun a o n h => a'.keep a o h fun z => ?_, fun a o n h z => ?_, fun a o u h => a'.keep a o h fun z => ?_, fun a h => .inl h⟩
    · obtain ⟨_, i, t, _, z2, z3, z4, _⟩ := own a z
      exact n (.inl ⟨i, t, z2, z3, z4⟩)
    · rcases z with z | z | z
      · exact n (.inl (own1 a z))
      · exact n (.inr z)
      · have q := (hz a z).1
        rw [h] at q; cases q
    · obtain ⟨_, i, t, _, z2, z3, z4, _⟩ := own a z
      exact s.dis a ⟨i, t, z2, z3, z4⟩ u
  have softeq : ∀ (j : Nat) (t : S), r1[j]? = some (some t) → ∃ u, r[j]? = some (some u) ∧ (t.soft = false → u.soft = false) := fun j t h1 => by
    rcases wc j t h1 with ⟨q, _⟩ | ⟨_, u, _, _, _, q, _, kd⟩
    · exact ⟨t, q, id⟩
    · exact ⟨u, q, fun _ => soft_of_own kd.2.2.2⟩
  have npass : ∀ (j : Nat) (t : S) (a : Addr), r[j]? = some (some t) → t.own = true → σ[j]? = some (some (V.ref a)) → (∀ k : Nat, os[k]? = some (.loc j) → t.own = false) → ¬ Own (slots vs) (words ss) a := fun j t a h1 h2 h3 h4 z => by
    obtain ⟨n, i, u, z1, z2, z3, z4, _⟩ := own a z
    have ij := s.inj i j u t (.ref a) z2 (soft_of_own z3) h1 (soft_of_own h2) z4 h3
    subst ij
    rw [h4 n z1] at h2; cases h2
  refine ⟨⟨by rw [wl]; exact s.len, fun j t h1 => ?_, fun i j t u v h1 q1 h2 q2 e1 e2 => ?_, fun a h z => ?_, fun a h => ?_⟩, ⟨fun a h => .inl h, fun a h => ?_, fun a h => .inl (own1 a h), fun a o h n => a'.keep a o h fun z => ?_, fun a o h => a'.there a o h, fun j t h1 h2 => ?_, fun j t h1 h2 => ?_⟩, wp, wsub⟩
  · rcases wc j t h1 with ⟨q, nq⟩ | ⟨n, u, t', z1, z2, z3, z4, kd⟩
    · obtain ⟨v, e, x⟩ := s.rep j t q
      refine ⟨v, e, x.mono m fun a o ho hv h => a'.keep a o h ?_⟩
      exact npass j t a q ho (by rw [e, hv]) nq
    · obtain ⟨v, hv, kv⟩ := paired_at k n _ z1
      obtain ⟨w, hw', x⟩ := s'.rep n t' (words_at.mpr z2)
      rw [slots_at] at hw'
      rw [hv] at hw'; cases hw'
      exact ⟨v, kv.1, z4.sr wsub x⟩
  · obtain ⟨t', g1, g2⟩ := softeq i t h1
    obtain ⟨u', g3, g4⟩ := softeq j u h2
    exact s.inj i j t' u' v g1 (g2 q1) g3 (g4 q2) e1 e2
  · rcases z with z | z
    · exact s.dis a (own1 a h) z
    · exact (s.wlv a (.inl (own1 a h))).ne (hz a z).1
  · rcases h with h | h
    · have l := s.uok a h
      have nA : ¬ Own (slots vs) (words ss) a := fun z => by
        obtain ⟨_, i, t, _, z2, z3, z4, _⟩ := own a z
        exact s.dis a ⟨i, t, z2, z3, z4⟩ h
      rcases l with ⟨x, l⟩ | ⟨x, l⟩ | ⟨x, l⟩
      · exact .inl ⟨x, a'.keep a _ l nA⟩
      · exact .inr (.inl ⟨x, a'.keep a _ l nA⟩)
      · exact .inr (.inr ⟨x, a'.keep a _ l nA⟩)
    · exact (hz a h).2.2
  · rcases h with h | h
    · exact .inl h
    · exact .inr (.inl (hz a h).1)
  · obtain ⟨_, i, t, _, z2, z3, z4, _⟩ := own a z
    exact n ⟨i, t, z2, z3, z4⟩
  · obtain ⟨u, hu⟩ := wp j t h1
    refine ⟨u, hu, ?_, rfl⟩
    rcases wc j u hu with ⟨q, _⟩ | ⟨_, u', _, _, _, q, _, kd⟩
    · rw [h1] at q; cases q; exact Sl.refl _
    · rw [h1] at q; cases q; exact kd.2.1 h2
  · rcases wc j t h1 with ⟨q, _⟩ | ⟨_, u', _, _, _, q, _, kd⟩
    · exact ⟨q, rfl⟩
    · rw [kd.2.2.1] at h2; cases h2
end
section
variable {X : Cx} {C : Ct} {e : Expr}
def Ar (fa : Rho → Rs (List Opd)) (n : Nat) : Prop := ∀ r os r1, fa r = .ok os r1 → os.length = n
theorem ar_nil : Ar eNil 0 := fun r os r1 h => by cases h; rfl
theorem ar_cons {fe : Rho → Rs Opd} {fr : Rho → Rs (List Opd)} {n : Nat} (h : Ar fr n) : Ar (eCons fe fr) (n + 1) := fun r os r1 e => by
  unfold eCons Rs.bind at e
  cases e1 : fe r with
  | st => rw [e1] at e; cases e
  | ex c fs r' => rw [e1] at e; cases e
  | ok o r2 =>
    rw [e1] at e
    simp only [] at e
    cases e2 : fr r2 with
    | st => rw [e2] at e; cases e
    | ex c fs r' => rw [e2] at e; cases e
    | ok os' r3 =>
      rw [e2] at e
      cases e
      rw [List.length_cons, h r2 os' _ e2]
theorem pass_hard {r : Rho} {os : List Opd} {ss : List S} (h : passAll r os = some ss) : ∀ s ∈ ss, s.own = true → s.hard = true := fun s hs ho => by
  obtain ⟨k, hk⟩ := List.mem_iff_getElem?.mp hs
  obtain ⟨o, _, q⟩ := (pass_spec h).2 k s hk
  rcases pass1_spec q with ⟨d, rfl⟩ | ⟨_, _, _, _, _, z, _, _⟩
  · cases ho
  · exact z
theorem fn_reading {n : Nat} {F : Fs} {fa : Rho → Rs (List Opd)} {σ : St} {H : Hp} {Q : VK} {E : XK} (hn : Ar fa n) (hE : ∀ cls d H2, C.W cls d σ H2 → E cls d H2) (h : tE C (eFn F fa) σ H Q) :
    tA C fa σ H (fun vs H1 => spF C n F (vs ++ []) H1 Q E) := by
  obtain ⟨U, r, s, h⟩ := h
  have hfa := hn r
  refine ⟨U, r, s, ?_⟩
  unfold eFn at h
  cases e : fa r with
  | ex c fs r' => rw [e] at h; exact h
  | st => rw [e] at h; exact h
  | ok os r1 =>
    rw [e] at h
    simp only [Rs.bind] at h
    intro vs H1 U1 s1 a1 p1 k1 n1
    obtain ⟨U2, s2, a2, u2, k2⟩ := ops_drop s s1 a1 k1 n1
    unfold eFnO at h
    cases hp : passAll r1 os with
    | none => simp only [hp] at h
    | some ss =>
      simp only [hp] at h
      by_cases hd : dst r1 os = true
      · rw [if_pos hd] at h
        obtain ⟨sA, own⟩ := args_sit s2 k2 hp hd
        obtain ⟨hl, hs⟩ := pass_spec hp
        rw [List.append_nil]
        refine ⟨by rw [← Paired.length k1, hl]; rw [← hl]; exact hfa os r1 e, _, ss, pass_hard hp, sA, ?_⟩
        cases hF : F ss with
        | st => simp only [hF] at h
        | ok t outs =>
          simp only [hF] at h
          intro v H2 U' s' a' ok' nw
          cases hw : wbAll os outs r1 with
          | none => simp only [hw] at h
          | some r2 =>
            simp only [hw] at h
            obtain ⟨x, hu, hh⟩ := ok'
            obtain ⟨s3, a3, p3, w3⟩ := call_back s2 k2 hp hd s' a' hw (fun a => t.own = true ∧ v = .ref a) (fun a ⟨z1, z2⟩ => ⟨nw t a rfl z1 z2, hu a z1 z2, by
              obtain ⟨p, e1, l⟩ := x.ownLv z1
              rw [z2] at e1; cases e1; exact l⟩)
            refine h v H2 _ s3 (a2.trans a3) (p1.trans p3) ⟨?_, fun p z1 z2 => .inr ⟨z1, z2⟩, hh⟩ (nw.back a2)
            exact x.less w3 fun p z1 z2 => by rw [lkd_hard z1] at hh; cases hh
        | ex c fs outs =>
          simp only [hF] at h
          intro cls d H2 U' s' a' x
          cases hw : wbAll os outs r1 with
          | none => simp only [hw] at h
          | some r2 =>
            simp only [hw] at h
            obtain ⟨s3, a3, p3, w3⟩ := call_back s2 k2 hp hd s' a' hw (fun a => False) (fun a z => z.elim)
            obtain ⟨b, dx, fv, e1, e2, e3, e4, e5⟩ := x
            exact hE cls d H2 (h cls d σ H2 _ s3 (a2.trans a3) ⟨b, dx, fv, e1, e2, e3, e4, e5.less w3⟩)
      · rw [if_neg hd] at h
        exact h.elim
end
end GB
namespace GB
open PySem PySem.Spec PyProof.Rows L2
section
variable {C : Ct} {U U' : Addr → Prop} {H H' : Hp} {σ σ' : St} {r r' : Rho}
theorem lt_of_at {α : Type} {l : List α} {i : Nat} {x : α} (h : l[i]? = some x) : i < l.length := by
  by_cases q : i < l.length
  · exact q
  · rw [List.getElem?_eq_none (by simpa using q)] at h; cases h
theorem at_set {α : Type} {l : List α} {i j : Nat} {x y : α} (h : (l.set i x)[j]? = some y) : (j = i ∧ y = x) ∨ (j ≠ i ∧ l[j]? = some y) := by
  by_cases e : i = j
  · subst e
    have := lt_of_at h
    rw [List.length_set] at this
    rw [List.getElem?_set_self this] at h; cases h; exact .inl ⟨rfl, rfl⟩
  · rw [List.getElem?_set_ne e] at h; exact .inr ⟨fun z => e z.symm, h⟩
/-- a slot that may be stored to -/
def free (r : Rho) (i : Nat) : Bool := match r[i]? with
  | some none => true
  | some (some s) => !s.hard
  | none => false
theorem free_lt {i : Nat} (h : free r i = true) : i < r.length := by
  unfold free at h
  cases e : r[i]? with
  | none => rw [e] at h; cases h
  | some q => exact lt_of_at e
theorem free_hard {i : Nat} {s : S} (h : free r i = true) (e : r[i]? = some (some s)) : s.hard = false := by
  unfold free at h
  rw [e] at h
  simpa using h
theorem soft_cases {s : S} (h : s.soft = false) : s.own = true ∨ s.lkd = true := by cases s <;> first | exact .inl rfl | exact .inr rfl | cases h
/-- name i = v -/
theorem Sit.store {i : Nat} {s : S} {v : V} (st : Sit C U H σ r) (hf : free r i = true) (op : OpOk C U H σ r (.val s) v)
    (hlk : ∀ (j : Nat) (t : S) (q : Addr), r[j]? = some (some t) → t.lkd = true → σ[j]? = some (some (V.ref q)) → ¬ (s.own = true ∧ v = .ref q)) :
    Sit C (fun a => U a ∧ ¬ (s.own = true ∧ v = .ref a)) H (σ.set i (some v)) (r.set i (some s)) ∧ (∀ a, Own (σ.set i (some v)) (r.set i (some s)) a → Own σ r a ∨ (s.own = true ∧ v = .ref a)) := by
  have hlt := free_lt hf
  have hls : i < σ.length := by rw [st.len]; exact hlt
  obtain ⟨x, hu, hs⟩ := op
  have own' : ∀ a, Own (σ.set i (some v)) (r.set i (some s)) a → Own σ r a ∨ (s.own = true ∧ v = .ref a) := fun a ⟨j, t, h1, h2, h3⟩ => by
    rcases at_set h1 with ⟨rfl, e⟩ | ⟨n, h1⟩
    · cases e
      rw [List.getElem?_set_self hls] at h3
      exact .inr ⟨h2, by simpa using h3⟩
    · rw [List.getElem?_set_ne (fun z => n z.symm)] at h3
      exact .inl ⟨j, t, h1, h2, h3⟩
  have wsub : ∀ a, Wn (fun a => U a ∧ ¬ (s.own = true ∧ v = .ref a)) (σ.set i (some v)) (r.set i (some s)) a → Wn U σ r a := fun a h => by
    rcases h with h | h
    · rcases own' a h with h | ⟨h1, h2⟩
      · exact .inl h
      · exact .inr (hu a h1 h2)
    · exact .inr h.1
  refine ⟨⟨by rw [List.length_set, List.length_set]; exact st.len, fun j t h => ?_, fun j k t u w h1 q1 h2 q2 e1 e2 => ?_, fun a h z => ?_, fun a h => st.uok a h.1⟩, own'⟩
  · rcases at_set h with ⟨rfl, e⟩ | ⟨n, h⟩
    · cases e
      exact ⟨v, List.getElem?_set_self hls, x.less wsub fun p hl _ => by rw [lkd_hard hl] at hs; cases hs⟩
    · obtain ⟨w, e, y⟩ := st.rep j t h
      refine ⟨w, by rw [List.getElem?_set_ne (fun z => n z.symm)]; exact e, y.less wsub fun p hl hp => ⟨y.lkLv hl hp, ?_⟩⟩
      exact hlk j t p h hl (by rw [e, hp])
  · have clash : ∀ (k : Nat) (u : S), r[k]? = some (some u) → u.soft = false → s.soft = false → σ[k]? = some (some v) → False := fun k u g1 g2 g3 g4 => by
      have so : s.own = true := (soft_cases g3).resolve_right fun z => by rw [lkd_hard z] at hs; cases hs
      obtain ⟨p, e, _⟩ := x.ownLv so
      subst e
      rcases soft_cases g2 with g | g
      · exact st.dis p ⟨k, u, g1, g, g4⟩ (hu p so rfl)
      · exact hlk k u p g1 g g4 ⟨so, rfl⟩
    rcases at_set h1 with ⟨rfl, z1⟩ | ⟨n1, g1⟩
    · cases z1
      rw [List.getElem?_set_self hls] at e1; cases e1
      rcases at_set h2 with ⟨rfl, z2⟩ | ⟨n2, h2⟩
      · rfl
      · rw [List.getElem?_set_ne (fun z => n2 z.symm)] at e2
        exact (clash k u h2 q2 q1 e2).elim
    · rw [List.getElem?_set_ne (fun z => n1 z.symm)] at e1
      rcases at_set h2 with ⟨rfl, z2⟩ | ⟨n2, g2⟩
      · cases z2
        rw [List.getElem?_set_self hls] at e2; cases e2
        exact (clash j t g1 q1 q2 e1).elim
      · rw [List.getElem?_set_ne (fun z => n2 z.symm)] at e2
        exact st.inj j k t u w g1 q1 g2 q2 e1 e2
  · rcases own' a h with h | h
    · exact st.dis a h z.1
    · exact z.2 h
/-- the store behind an expression -/
theorem store_aft {i : Nat} {s : S} {v : V} (s0 : Sit C U H σ r) (st : Sit C U' H' σ r') (a : Aft U H σ r U' H' σ r') (hf : free r' i = true) (op : OpOk C U' H' σ r' (.val s) v) (nw : New H (.val s) v) :
    ∃ U2, Sit C U2 H' (σ.set i (some v)) (r'.set i (some s)) ∧ Aft U H σ r U2 H' (σ.set i (some v)) (r'.set i (some s)) := by
  have hlk : ∀ (j : Nat) (t : S) (q : Addr), r'[j]? = some (some t) → t.lkd = true → σ[j]? = some (some (V.ref q)) → ¬ (s.own = true ∧ v = .ref q) := fun j t q h1 h2 h3 ⟨z1, z2⟩ => by
    obtain ⟨g1, _⟩ := a.lok j t h1 h2
    obtain ⟨w, e, x⟩ := s0.rep j t g1
    rw [h3] at e; cases e
    exact (s0.uok q (x.lkLv h2 rfl)).ne (nw s q rfl z1 z2)
  obtain ⟨s1, own'⟩ := st.store hf op hlk
  refine ⟨_, s1, ⟨fun b h => ⟨a.sub b h, fun z => (s0.uok b h).ne (nw s b rfl z.1 z.2)⟩, fun b h => a.new b h.1, fun b h => ?_, a.keep, a.there, fun j t h1 h2 => ?_, fun j t h1 h2 => ?_⟩⟩
  · rcases own' b h with h | h
    · exact a.grow b h
    · exact .inr (nw s b rfl h.1 h.2)
  · obtain ⟨t', g1, g2, g3⟩ := a.pin j t h1 h2
    have n : i ≠ j := fun z => by
      subst z
      have := free_hard hf g1
      rw [g2.hard h2] at this; cases this
    exact ⟨t', by rw [List.getElem?_set_ne n]; exact g1, g2, by rw [List.getElem?_set_ne n]⟩
  · rcases at_set h1 with ⟨rfl, e⟩ | ⟨n, h1⟩
    · cases e
      have := op.2.2
      rw [lkd_hard h2] at this; cases this
    · obtain ⟨g1, g2⟩ := a.lok j t h1 h2
      exact ⟨g1, by rw [List.getElem?_set_ne (fun z => n z.symm)]⟩
end
inductive Fl where
  | nx (r : Rho) | rt (s : S) (r : Rho) | bk (r : Rho) | ct (r : Rho) | ex (c : Str) (fs : List (Str × D)) (r : Rho) | st
/-- a value handed back: a new object, or one that was a slot's -/
def NewO (H : Hp) (σ : St) (r : Rho) (s : S) (v : V) : Prop := ∀ p, s.own = true → v = .ref p → Own σ r p ∨ H p = none
def RS (C : Ct) (U : Addr → Prop) (H : Hp) (σ : St) (r : Rho) (D : Ends) : Fl → Prop
  | .nx r' => ∀ σ' H' U', Sit C U' H' σ' r' → Aft U H σ r U' H' σ' r' → D.nx σ' H'
  | .rt s r' => ∀ v σ' H' U', Sit C U' H' σ' r' → Aft U H σ r U' H' σ' r' → OpOk C U' H' σ' r' (.val s) v → NewO H σ r s v → D.rt v H'
  | .bk r' => ∀ σ' H' U', Sit C U' H' σ' r' → Aft U H σ r U' H' σ' r' → D.bk σ' H'
  | .ct r' => ∀ σ' H' U', Sit C U' H' σ' r' → Aft U H σ r U' H' σ' r' → D.ct σ' H'
  | .ex c fs r' => XWant C U H σ r c fs r'
  | .st => False
def tS (C : Ct) (f : Rho → Fl) : TS := fun D σ H => ∃ U r, Sit C U H σ r ∧ RS C U H σ r D (f r)
abbrev GS (X : Cx) (C : Ct) (st : Stmt) (f : Rho → Fl) : Prop := PS X st (tS C f)
abbrev GSs (X : Cx) (C : Ct) (st : List Stmt) (f : Rho → Fl) : Prop := PSs X st (tS C f)
section
variable {X : Cx} {C : Ct} {st : Stmt} {sts : List Stmt} {f g : Rho → Fl} {e : Expr} {fe : Rho → Rs Opd} {pos : Pos}
theorem weakS {t t' : TS} (h : PS X st t) (k : ∀ D σ H, t' D σ H → t D σ H) : PS X st t' := ⟨fun pins s σ H D I q => h.run pins s σ H D I (k D σ H q)⟩
theorem weakSs {t t' : TS} (h : PSs X sts t) (k : ∀ D σ H, t' D σ H → t D σ H) : PSs X sts t' := ⟨fun pins s σ H D I q => h.run pins s σ H D I (k D σ H q)⟩
/-- what is wanted later is wanted now -/
theorem RS.before {U U' : Addr → Prop} {H H' : Hp} {σ σ' : St} {r r' : Rho} {D : Ends} {z : Fl} (h : RS C U H σ r D z) (a : Aft U H σ r U' H' σ' r') : RS C U' H' σ' r' D z := by
  cases z with
  | nx r2 => exact fun σ2 H2 U2 s2 a2 => h σ2 H2 U2 s2 (a.trans a2)
  | bk r2 => exact fun σ2 H2 U2 s2 a2 => h σ2 H2 U2 s2 (a.trans a2)
  | ct r2 => exact fun σ2 H2 U2 s2 a2 => h σ2 H2 U2 s2 (a.trans a2)
  | rt s r2 => exact fun v σ2 H2 U2 s2 a2 o n => h v σ2 H2 U2 s2 (a.trans a2) o fun p e1 e2 => (n p e1 e2).elim (a.grow p) fun z => .inr (a.back z)
  | ex c fs r2 => exact fun cls d σ2 H2 U2 s2 a2 x => h cls d σ2 H2 U2 s2 (a.trans a2) x
  | st => exact h
def fSeq (f g : Rho → Fl) : Rho → Fl := fun r => match f r with
  | .nx r1 => g r1
  | z => z
def fNil : Rho → Fl := fun r => .nx r
theorem gs_nil : GSs X C [] fNil := weakSs pss_nil fun D σ H ⟨U, r, s, h⟩ => h σ H U s Aft.refl
theorem gs_cons (h1 : GS X C st f) (h2 : GSs X C sts g) : GSs X C (st :: sts) (fSeq f g) := by
  refine weakSs (pss_cons h1 h2) fun D σ H h => ?_
  obtain ⟨U, r, s, h⟩ := h
  refine ⟨U, r, s, ?_⟩
  unfold fSeq at h
  cases e : f r with
  | nx r1 => rw [e] at h; exact fun σ' H' U' s' a' => ⟨U', r1, s', RS.before h a'⟩
  | rt t r1 => rw [e] at h; exact h
  | bk r1 => rw [e] at h; exact h
  | ct r1 => rw [e] at h; exact h
  | ex c fs r1 => rw [e] at h; exact h
  | st => rw [e] at h; exact h
theorem gs_one (h1 : GS X C st f) : GSs X C [st] f := weakSs (pss_one h1) fun D σ H h => h
/-- an expression within a statement -/
theorem tE_stmt {k : Opd → Rho → Fl} {σ : St} {H : Hp} {Q : VK} {D : Ends} {U : Addr → Prop} {r : Rho} (s : Sit C U H σ r)
    (h : RS C U H σ r D (match fe r with | .ok o r1 => k o r1 | .ex c fs r1 => .ex c fs r1 | .st => .st))
    (hok : ∀ o r' v H' U', Sit C U' H' σ r' → Aft U H σ r U' H' σ r' → Per r r' → OpOk C U' H' σ r' o v → New H o v → RS C U H σ r D (k o r') → Q v H') : tE C fe σ H Q := by
  refine ⟨U, r, s, ?_⟩
  cases e : fe r with
  | ok o r' => rw [e] at h; exact fun v H' U' s' a' p' k' n' => hok o r' v H' U' s' a' p' k' n' h
  | ex c fs r' => rw [e] at h; exact h
  | st => rw [e] at h; exact h
def fExpr (fe : Rho → Rs Opd) : Rho → Fl := fun r => match fe r with
  | .ok _ r1 => .nx r1
  | .ex c fs r1 => .ex c fs r1
  | .st => .st
theorem gs_expr (he : GE X C e fe) (hs : swapsWith e none pos.line X.env = pure false := by rfl) : GS X C (.Expr e pos) (fExpr fe) := by
  refine weakS (ps_expr he hs) fun D σ H h => ?_
  obtain ⟨U, r, s, h⟩ := h
  exact tE_stmt (k := fun _ r1 => .nx r1) s h fun o r' v H' U' s' a' p' k' n' q => q σ H' U' s' a'
/-- what is stored of an operand -/
def take (o : Opd) (r : Rho) : Option (S × Rho) := match o with
  | .val s => if s.hard then none else some (s, r)
  | .loc _ => match frz1 o r with
    | some (d, r1) => some (.fz d, r1)
    | none => none
theorem take_ok {U' : Addr → Prop} {H H' : Hp} {σ : St} {r' r2 : Rho} {o : Opd} {v : V} {s : S} (s' : Sit C U' H' σ r') (k : OpOk C U' H' σ r' o v) (n : New H o v) (h : take o r' = some (s, r2)) :
    Sit C U' H' σ r2 ∧ Aft U' H' σ r' U' H' σ r2 ∧ Per r' r2 ∧ OpOk C U' H' σ r2 (.val s) v ∧ New H (.val s) v := by
  cases o with
  | val t =>
    unfold take at h
    dsimp only at h
    split at h
    · cases h
    · cases h
      exact ⟨s', Aft.refl, Per.refl, k, n⟩
  | loc i =>
    unfold take at h
    dsimp only at h
    cases e : frz1 (.loc i) r' with
    | none => rw [e] at h; cases h
    | some q =>
      obtain ⟨d, r3⟩ := q
      rw [e] at h
      cases h
      obtain ⟨s2, a2, p2, x2⟩ := frz1_ok s' (o := .loc i) k e
      exact ⟨s2, a2, p2, ⟨.fz x2, fun p z => (nomatch z), rfl⟩, fun _ _ z q _ => by cases z; cases q⟩
def putS (i : Nat) (o : Opd) (r : Rho) : Fl := match take o r with
  | some (s, r1) => if free r1 i then .nx (r1.set i (some s)) else .st
  | none => .st
def fSet (i : Nat) (fe : Rho → Rs Opd) : Rho → Fl := fun r => match fe r with
  | .ok o r1 => putS i o r1
  | .ex c fs r1 => .ex c fs r1
  | .st => .st
theorem put_ok {i : Nat} {U U' : Addr → Prop} {H H' : Hp} {σ : St} {r r' : Rho} {o : Opd} {v : V} {D : Ends} (s0 : Sit C U H σ r) (s' : Sit C U' H' σ r') (a' : Aft U H σ r U' H' σ r') (k : OpOk C U' H' σ r' o v) (n : New H o v) (q : RS C U H σ r D (putS i o r')) : D.nx (σ.set i (some v)) H' := by
  unfold putS at q
  cases e : take o r' with
  | none => rw [e] at q; exact q.elim
  | some z =>
    obtain ⟨t, r2⟩ := z
    rw [e] at q
    dsimp only at q
    obtain ⟨s2, a2, p2, k2, n2⟩ := take_ok s' k n e
    by_cases hf : free r2 i = true
    · rw [if_pos hf] at q
      obtain ⟨U3, s3, a3⟩ := store_aft s0 s2 (a'.trans a2) hf k2 n2
      exact q _ _ U3 s3 a3
    · rw [if_neg hf] at q
      exact q.elim
theorem gs_set {i : Nat} {x : Str} {pos' : Pos} (hN : X.N.Nodup) (hi : X.N[i]? = some x) (hx : Loc X.env.scope x) (he : GE X C e fe) (hs : swapsWith e (some (.Name x pos')) pos.line X.env = pure false := by rfl) (hf : X.fn x = true ∨ X.env.scope.names.lookup x = some .local := by first | exact .inl rfl | exact .inr rfl | assumption) :
    GS X C (.Assign [.Name x pos'] e pos) (fSet i fe) := by
  refine weakS (ps_set hN hi hx he hs hf) fun D σ H h => ?_
  obtain ⟨U, r, s, h⟩ := h
  exact tE_stmt (k := putS i) s h fun o r' v H' U' s' a' p' k' n' q => put_ok s s' a' k' n' q
end
end GB
namespace GB
open PySem PySem.Spec PyProof.Rows L2
section
variable {C : Ct} {U U' : Addr → Prop} {H H' : Hp} {σ σ' : St} {r r' : Rho}
/-- a slot is emptied, its thing handed on -/
theorem Sit.moved {i : Nat} {s : S} {v : V} (st : Sit C U H σ r) (hi : r[i]? = some (some s)) (ho : s.own = true) (hv : σ[i]? = some (some v)) :
    Sit C (fun a => U a ∨ v = .ref a) H σ (r.set i none) ∧ (∀ a, Own σ (r.set i none) a → Own σ r a) ∧ SR C.K (fun a => U a ∨ v = .ref a) (Wn (fun a => U a ∨ v = .ref a) σ (r.set i none)) H v s := by
  obtain ⟨w, e, x⟩ := st.rep i s hi
  rw [hv] at e; cases e
  obtain ⟨p, e, l⟩ := x.ownLv ho
  subst e
  have own' : ∀ a, Own σ (r.set i none) a → Own σ r a ∧ a ≠ p := fun a ⟨j, t, h1, h2, h3⟩ => by
    rcases at_set h1 with ⟨_, e⟩ | ⟨n, h1⟩
    · cases e
    · refine ⟨⟨j, t, h1, h2, h3⟩, fun z => n ?_⟩
      subst z
      exact st.inj j i t s _ h1 (soft_of_own h2) hi (soft_of_own ho) h3 hv
  have wsub : ∀ a, Wn (fun a => U a ∨ V.ref p = .ref a) σ (r.set i none) a → Wn U σ r a := fun a h => by
    rcases h with h | h | h
    · exact .inl (own' a h).1
    · exact .inr h
    · cases h; exact .inl ⟨i, s, hi, ho, hv⟩
  have slot : ∀ (j : Nat) (t : S), (r.set i none)[j]? = some (some t) → r[j]? = some (some t) := fun j t h => by
    rcases at_set h with ⟨_, e⟩ | ⟨n, h⟩
    · cases e
    · exact h
  refine ⟨⟨by rw [List.length_set]; exact st.len, fun j t h => ?_, fun j k t u w h1 q1 h2 q2 e1 e2 => st.inj j k t u w (slot j t h1) q1 (slot k u h2) q2 e1 e2, fun a h z => ?_, fun a h => ?_⟩, fun a h => (own' a h).1, x.less wsub fun q z1 z2 => .inl (x.lkLv z1 z2)⟩
  · obtain ⟨w, e, y⟩ := st.rep j t (slot j t h)
    exact ⟨w, e, y.less wsub fun q z1 z2 => .inl (y.lkLv z1 z2)⟩
  · rcases z with z | z
    · exact st.dis a (own' a h).1 z
    · cases z; exact (own' _ h).2 rfl
  · rcases h with h | h
    · exact st.uok a h
    · cases h; exact l
theorem moved_aft {i : Nat} {s : S} {v : V} (st : Sit C U H σ r) (hi : r[i]? = some (some s)) (ho : s.own = true) (hh : s.hard = false) (hv : σ[i]? = some (some v)) :
    Aft U H σ r (fun a => U a ∨ v = .ref a) H σ (r.set i none) := by
  obtain ⟨_, own', _⟩ := st.moved hi ho hv
  refine ⟨fun a h => .inl h, fun a h => h.elim .inl fun z => .inr (.inr ⟨i, s, hi, ho, by rw [hv, z]⟩), fun a h => .inl (own' a h), fun a o h _ => h, fun a o h => ⟨o, h⟩, fun j t h1 h2 => ?_, fun j t h1 h2 => ?_⟩
  · have n : i ≠ j := fun z => by subst z; rw [hi] at h1; cases h1; rw [h2] at hh; cases hh
    exact ⟨t, by rw [List.getElem?_set_ne n]; exact h1, Sl.refl t, rfl⟩
  · rcases at_set h1 with ⟨_, e⟩ | ⟨n, h1⟩
    · cases e
    · exact ⟨h1, rfl⟩
end
section
variable {X : Cx} {C : Ct} {st : Stmt} {sts : List Stmt} {f g : Rho → Fl} {a b c e : Expr} {fe fa fb : Rho → Rs Opd} {pos : Pos}
/-- what a return gives of an operand -/
def handed (o : Opd) (r : Rho) : Fl := match o with
  | .val s => if s.hard then .st else .rt s r
  | .loc i => match r[i]? with
    | some (some (.fz d)) => .rt (.fz d) r
    | some (some (.ol ds)) => .rt (.ol ds) (r.set i none)
    | some (some (.od ds)) => .rt (.od ds) (r.set i none)
    | _ => .st
def fRet (fe : Rho → Rs Opd) : Rho → Fl := fun r => match fe r with
  | .ok o r1 => handed o r1
  | .ex c fs r1 => .ex c fs r1
  | .st => .st
theorem gs_ret (he : GE X C e fe) : GS X C (.Return (some e) pos) (fRet fe) := by
  refine weakS (ps_ret he) fun D σ H h => ?_
  obtain ⟨U, r, s, h⟩ := h
  refine tE_stmt (k := handed) s h fun o r' v H' U' s' a' p' k' n' q => ?_
  cases o with
  | val t =>
    unfold handed at q
    dsimp only at q
    split at q
    · exact q.elim
    · exact q v σ H' U' s' a' k' fun p e1 e2 => .inr (n' t p rfl e1 e2)
  | loc i =>
    obtain ⟨hv, t, ht⟩ := k'
    unfold handed at q
    simp only [ht] at q
    have move : ∀ t, r'[i]? = some (some t) → t.own = true → t.hard = false → RS C U H σ r D (.rt t (r'.set i none)) → D.rt v H' := fun t ht ho hh q => by
      obtain ⟨s2, _, x2⟩ := s'.moved ht ho hv
      have a2 := moved_aft s' ht ho hh hv
      refine q v σ H' _ s2 (a'.trans a2) ⟨x2, fun p _ z => .inr z, hh⟩ fun p _ z => a'.grow p ⟨i, t, ht, ho, by rw [hv, z]⟩
    cases t with
    | fz d =>
      obtain ⟨w, e, x⟩ := s'.rep i _ ht
      rw [hv] at e; cases e
      exact q v σ H' U' s' a' ⟨x, fun p z => (nomatch z), rfl⟩ fun p z => (nomatch z)
    | ol ds => exact move _ ht rfl rfl q
    | od ds => exact move _ ht rfl rfl q
    | _ => exact q.elim
abbrev RT (C : Ct) (U : Addr → Prop) (H : Hp) (σ : St) (r : Rho) (Q : Bool → Hp → Prop) : Rs Bool → Prop
  | .ok b r' => ∀ H' U', Sit C U' H' σ r' → Aft U H σ r U' H' σ r' → Per r r' → Q b H'
  | .ex c fs r' => XWant C U H σ r c fs r'
  | .st => False
def tT (C : Ct) (f : Rho → Rs Bool) : TT := fun σ H Q => ∃ U r, Sit C U H σ r ∧ RT C U H σ r Q (f r)
abbrev GT (X : Cx) (C : Ct) (e : Expr) (f : Rho → Rs Bool) : Prop := PT X e (tT C f)
abbrev GW (X : Cx) (C : Ct) (e : Expr) (f : Rho → Rs Bool) : Prop := PW X e (tT C f)
theorem weakW {t t' : TT} (h : PW X e t) (k : ∀ σ H Q, t' σ H Q → t σ H Q) : PW X e t' := ⟨fun w pins s σ H Q I q => h.run w pins s σ H Q I (k σ H Q q)⟩
theorem RT.before {U U' : Addr → Prop} {H H' : Hp} {σ : St} {r r' : Rho} {Q : Bool → Hp → Prop} {z : Rs Bool} (h : RT C U H σ r Q z) (a : Aft U H σ r U' H' σ r') (p : Per r r') : RT C U' H' σ r' Q z := by
  cases z with
  | ok b r2 => exact fun H2 U2 s2 a2 p2 => h H2 U2 s2 (a.trans a2) (p.trans p2)
  | ex c fs r2 => exact XWant.before h a
  | st => exact h
theorem RE.before {U U' : Addr → Prop} {H H' : Hp} {σ : St} {r r' : Rho} {Q : VK} {z : Rs Opd} (h : RE C U H σ r Q z) (a : Aft U H σ r U' H' σ r') (p : Per r r') : RE C U' H' σ r' Q z := by
  cases z with
  | ok b r2 => exact fun v H2 U2 s2 a2 p2 o n => h v H2 U2 s2 (a.trans a2) (p.trans p2) o (n.back a)
  | ex c fs r2 => exact XWant.before h a
  | st => exact h
/-- a word's truth -/
def tru : S → Option Bool
  | .fz .non => some false
  | .fz (.bl b) => some b
  | .fz (.int i) => some (i != 0)
  | .fz (.str l) => if l.length ≤ 16777216 then some (!l.isEmpty) else none
  | .fz (.tup ds) => some (!ds.isEmpty)
  | .fz (.lst ds) => some (!ds.isEmpty)
  | .fz (.scr ds) => some (!ds.isEmpty)
  | .fz (.dic _ _) => none
  | .ol ds => some (!ds.isEmpty)
  | .br ds => some (!ds.isEmpty)
  | .lk ds => some (!ds.isEmpty)
  | .od k => some (!k.isEmpty)
  | .bd k => some (!k.isEmpty)
  | .kd _ _ _ => none
  | .exc _ _ _ _ => none
  | .nd _ _ => none
  | .nh _ _ _ => none
  | .ot _ => none
  | .kt _ _ _ => none
  | .ky _ => none
theorem Rps.len {K : PySem.W.Frag} {W : Addr → Prop} {H : Hp} : ∀ {xs : List V} {ds : List D}, Rps K W H xs ds → xs.length = ds.length
  | _, _, .nil => rfl
  | _, _, .cons _ t => congrArg (· + 1) (Rps.len t)
theorem KR.len {κ : Type} {K : PySem.W.Frag} {W : Addr → Prop} {H : Hp} {xs : List (κ × V)} {ds : List (κ × D)} (h : KR K W H xs ds) : xs.length = ds.length := Paired.length h
theorem emp_len {α β : Type} {xs : List α} {ys : List β} (h : xs.length = ys.length) : (!ys.isEmpty) = !xs.isEmpty := by
  cases xs <;> cases ys <;> first | rfl | (simp at h)
theorem truV_of {K : PySem.W.Frag} {U W : Addr → Prop} {H : Hp} {v : V} {s : S} {k : Bool} (x : SR K U W H v s) (h : tru s = some k) : TruV K v H k := by
  cases x with
  | fz x =>
    cases x with
    | non => cases h; rfl
    | bl b => cases h; rfl
    | int i => cases h; rfl
    | str l =>
      have h : (if l.length ≤ 16777216 then some (!l.isEmpty) else none) = some k := h
      by_cases hl : l.length ≤ 16777216
      · rw [if_pos hl] at h
        cases h
        have e : (⟨l.toArray⟩ : Str).length = l.length := by simp [Str.length]
        refine ⟨by rw [e, sizeLine_eq]; exact hl, ?_⟩
        rw [e]
        cases l with
        | nil => rfl
        | cons a r =>
          have q : ((((a :: r).length : Nat) : Int) != 0) = true := by
            rw [bne_iff_ne]
            simp only [List.length_cons]
            omega
          rw [q]; rfl
      · rw [if_neg hl] at h; cases h
    | tup e x => cases h; exact .inr (.inl ⟨_, e.sq, emp_len x.len⟩)
    | lst e n x => cases h; exact .inl ⟨_, .inl (.inl e), emp_len x.len⟩
    | scr e x => cases h; exact .inl ⟨_, e.seq, emp_len x.len⟩
    | dic _ _ _ _ => cases h
  | ol e x => cases h; exact .inl ⟨_, .inl (.inl e), emp_len x.len⟩
  | br e x => cases h; exact .inl ⟨_, .inl (.inl e), emp_len x.len⟩
  | lk e u x => cases h; exact .inl ⟨_, .inl (.inl e), emp_len x.len⟩
  | od e x => cases h; exact .inr (.inr ⟨_, e, emp_len x.len⟩)
  | bd e x => cases h; exact .inr (.inr ⟨_, e, emp_len x.len⟩)
  | kd _ _ => cases h
  | exc _ _ => cases h
  | nd _ => cases h
  | nh _ _ => cases h
  | ot _ _ => cases h
  | kt _ _ => cases h
  | ky _ => cases h
def tTru (o : Opd) (r : Rho) : Rs Bool := match res r o with
  | some s => (match tru s with | some b => .ok b r | none => .st)
  | none => .st
def eTru (fe : Rho → Rs Opd) : Rho → Rs Bool := fun r => (fe r).bind tTru
theorem gt_tru (he : GE X C e fe) (hp : ∀ whole, isTrue e X.env whole = (do let v ← whole; standAt e.pos; holding [v] (truthy v)) := by intro _; rfl) (hK : C.K = X.K := by rfl) : GT X C e (eTru fe) := by
  refine weakT (pt_truth he hp) fun σ H Q h => ?_
  obtain ⟨U, r, s, h⟩ := h
  refine tE_then (R := RT C U H σ r Q) s h id (fun _ _ _ z => z) ?_
  intro o r1 v H1 U1 s1 a1 p1 k1 n1 h1
  obtain ⟨t, e, x⟩ := k1.res s1
  unfold tTru at h1
  simp only [e] at h1
  cases e2 : tru t with
  | none => simp only [e2] at h1; exact (show False from h1).elim
  | some b =>
    simp only [e2] at h1
    exact ⟨b, hK ▸ truV_of x e2, h1 H1 U1 s1 a1 p1⟩
def eNotT (f : Rho → Rs Bool) : Rho → Rs Bool := fun r => (f r).bind fun b r1 => .ok (!b) r1
def eAndT (f g : Rho → Rs Bool) : Rho → Rs Bool := fun r => (f r).bind fun b r1 => if b then g r1 else .ok false r1
def eOrT (f g : Rho → Rs Bool) : Rho → Rs Bool := fun r => (f r).bind fun b r1 => if b then .ok true r1 else g r1
theorem tT_then {α : Type} {f : Rho → Rs Bool} {g : Bool → Rho → Rs α} {σ : St} {H : Hp} {Q : Bool → Hp → Prop} {U : Addr → Prop} {r : Rho} {R : Rs α → Prop} (s : Sit C U H σ r) (h : R ((f r).bind g))
    (hst : R .st → False) (hex : ∀ c fs r', R (.ex c fs r') → XWant C U H σ r c fs r')
    (hok : ∀ b r' H' U', Sit C U' H' σ r' → Aft U H σ r U' H' σ r' → Per r r' → R (g b r') → Q b H') : tT C f σ H Q := by
  refine ⟨U, r, s, ?_⟩
  cases e : f r with
  | ok o r' => rw [e] at h; exact fun H' U' s' a' p' => hok o r' H' U' s' a' p' h
  | ex c fs r' => rw [e] at h; exact hex c fs r' h
  | st => rw [e] at h; exact hst h
variable {ft gt : Rho → Rs Bool} {rest : List Expr}
theorem gt_not (h : GT X C a ft) : GT X C (.UnaryOp .Not a pos) (eNotT ft) := by
  refine weakT (pt_not h) fun σ H Q h => ?_
  obtain ⟨U, r, s, h⟩ := h
  exact tT_then (R := RT C U H σ r Q) s h id (fun _ _ _ z => z) fun b r1 H1 U1 s1 a1 p1 h1 => h1 H1 U1 s1 a1 p1
theorem gw_and1 (h : GT X C a ft) : GW X C (.BoolOp .And [a] pos) ft := weakW (pw_and1 h) fun σ H Q h => h
theorem gw_or1 (h : GT X C a ft) : GW X C (.BoolOp .Or [a] pos) ft := weakW (pw_or1 h) fun σ H Q h => h
theorem gw_and (h : GT X C a ft) (h' : GW X C (.BoolOp .And (b :: rest) pos) gt) : GW X C (.BoolOp .And (a :: b :: rest) pos) (eAndT ft gt) := by
  refine weakW (pw_and h h') fun σ H Q h => ?_
  obtain ⟨U, r, s, h⟩ := h
  refine tT_then (R := RT C U H σ r Q) s h id (fun _ _ _ z => z) fun b r1 H1 U1 s1 a1 p1 h1 => ?_
  cases b with
  | true => exact ⟨U1, r1, s1, RT.before h1 a1 p1⟩
  | false => exact h1 H1 U1 s1 a1 p1
theorem gw_or (h : GT X C a ft) (h' : GW X C (.BoolOp .Or (b :: rest) pos) gt) : GW X C (.BoolOp .Or (a :: b :: rest) pos) (eOrT ft gt) := by
  refine weakW (pw_or h h') fun σ H Q h => ?_
  obtain ⟨U, r, s, h⟩ := h
  refine tT_then (R := RT C U H σ r Q) s h id (fun _ _ _ z => z) fun b r1 H1 U1 s1 a1 p1 h1 => ?_
  cases b with
  | true => exact h1 H1 U1 s1 a1 p1
  | false => exact ⟨U1, r1, s1, RT.before h1 a1 p1⟩
theorem gt_w (h : GW X C e ft) : GT X C e ft := h.pt
def tBl (o : Opd) (r : Rho) : Rs Bool := match o with
  | .val (.fz (.bl b)) => .ok b r
  | _ => .st
def eBl (fe : Rho → Rs Opd) : Rho → Rs Bool := fun r => (fe r).bind tBl
/-- a test whose parts are compared: by its value -/
theorem gt_cmp {op : CmpOp} {rr : R2} {p : Pr} (ho : OpR X (compareOp op) rr) (hp : PN C (fun vs H Q => ∃ x y, vs = [x, y] ∧ rr x y H Q) p) (ha : GE X C a fa) (hb : GE X C b fb) (hm : behindInMarks op b = false) :
    GT X C (.Compare a [op] [b] pos) (eBl (eCall p (eCons fa (eCons fb eNil)))) := by
  refine weakT (pt_cmpR ho ha hb hm) fun σ H Q h => ?_
  show tOp rr (tE C fa) (tE C fb) σ H fun x H' => ∃ k, x = .bl k ∧ Q k H'
  obtain ⟨U, r, s, h⟩ := h
  refine tE_then (g := fun o r1 => ((fb r1).bind fun o2 r2 => (eP p [o, o2] r2).bind tBl)) (R := RT C U H σ r Q) s ?_ id (fun _ _ _ z => z) ?_
  · refine cast ?_ h
    unfold eBl eCall eCons eNil Rs.bind
    cases fa r with
    | ok o r1 => simp only []; cases fb r1 <;> rfl
    | ex c fs r' => rfl
    | st => rfl
  intro o r1 v H1 U1 s1 a1 p1 k1 n1 h1
  refine tE_then (R := RT C U H σ r Q) s1 h1 id (fun _ _ _ z => XWant.before z a1) ?_
  intro o2 r2 v2 H2 U2 s2 a2 p2 k2 n2 h2
  obtain ⟨ss, e, x⟩ := OpsOk.res s2 (.cons (k1.after a2 s1 p2) (.cons k2 .nil))
  unfold eP at h2
  simp only [e] at h2
  cases e2 : p ss with
  | none => simp only [e2, Rs.bind] at h2; exact (show False from h2).elim
  | some t =>
    simp only [e2, Rs.bind] at h2
    obtain ⟨x1, y1, e3, q⟩ := hp U2 _ H2 [v, v2] ss t (fun x H' => ∃ k, x = .bl k ∧ Q k H') s2.wlv x e2 fun w H3 g => by
      obtain ⟨U3, s3, a3, k3, n3⟩ := g.fin s2
      cases t with
      | fz d =>
        cases d with
        | bl k' =>
          have fin : RT C U H σ r Q (.ok k' r2) := h2
          cases k3.1 with | fz y => cases y; exact ⟨_, rfl, fin H3 U3 s3 ((a1.trans a2).trans a3) (p1.trans p2)⟩
        | _ => exact (show False from h2).elim
      | _ => exact (show False from h2).elim
    cases e3
    exact q
end
end GB
namespace GB
open PySem PySem.Spec PyProof.Rows L2
section
variable {X : Cx} {C : Ct} {st : Stmt} {sts sts' : List Stmt} {f g : Rho → Fl} {a b c e : Expr} {fe fa fb : Rho → Rs Opd} {ft : Rho → Rs Bool} {pos : Pos}
def ofR {α : Type} (z : Rs α) (k : α → Rho → Fl) : Fl := match z with
  | .ok o r1 => k o r1
  | .ex c fs r1 => .ex c fs r1
  | .st => .st
theorem tT_stmt {k : Bool → Rho → Fl} {σ : St} {H : Hp} {Q : Bool → Hp → Prop} {D : Ends} {U : Addr → Prop} {r : Rho} (s : Sit C U H σ r)
    (h : RS C U H σ r D (ofR (ft r) k))
    (hok : ∀ b r' H' U', Sit C U' H' σ r' → Aft U H σ r U' H' σ r' → Per r r' → RS C U H σ r D (k b r') → Q b H') : tT C ft σ H Q := by
  refine ⟨U, r, s, ?_⟩
  cases e : ft r with
  | ok o r' => rw [e] at h; exact fun H' U' s' a' p' => hok o r' H' U' s' a' p' h
  | ex c fs r' => rw [e] at h; exact h
  | st => rw [e] at h; exact h
def fIf (ft : Rho → Rs Bool) (f g : Rho → Fl) : Rho → Fl := fun r => ofR (ft r) fun b r1 => if b then f r1 else g r1
theorem gs_if (hc : GT X C c ft) (ha : GSs X C sts f) (hb : GSs X C sts' g) : GS X C (.If c sts sts' pos) (fIf ft f g) := by
  refine weakS (ps_if hc ha hb) fun D σ H h => ?_
  obtain ⟨U, r, s, h⟩ := h
  refine tT_stmt (D := D) s h fun b r' H' U' s' a' p' q => ?_
  cases b with
  | true => exact ⟨U', r', s', RS.before q a'⟩
  | false => exact ⟨U', r', s', RS.before q a'⟩
def whileN (ft : Rho → Rs Bool) (f : Rho → Fl) : Nat → Rho → Option Fl
  | 0, _ => none
  | n + 1, r => match ft r with
    | .ok true r1 => (match f r1 with
      | .nx r2 => whileN ft f n r2
      | .ct r2 => whileN ft f n r2
      | .bk r2 => some (.nx r2)
      | z => some z)
    | .ok false r1 => some (.nx r1)
    | .ex c fs r1 => some (.ex c fs r1)
    | .st => some .st
open Classical in
noncomputable def fWhile (ft : Rho → Rs Bool) (f : Rho → Fl) : Rho → Fl := fun r => if h : ∃ n z, whileN ft f n r = some z then h.choose_spec.choose else .st
theorem whileN_succ {ft : Rho → Rs Bool} {f : Rho → Fl} : ∀ {n : Nat} {r : Rho} {z : Fl}, whileN ft f n r = some z → whileN ft f (n + 1) r = some z := by
  intro n
  induction n with
  | zero => intro r z h; cases h
  | succ n ih =>
    intro r z h
    unfold whileN at h ⊢
    cases e : ft r with
    | ok b r1 =>
      cases b with
      | true =>
        simp only [e] at h ⊢
        cases e2 : f r1 with
        | nx r2 => simp only [e2] at h ⊢; exact ih h
        | ct r2 => simp only [e2] at h ⊢; exact ih h
        | bk r2 => simp only [e2] at h ⊢; exact h
        | rt s r2 => simp only [e2] at h ⊢; exact h
        | ex c fs r2 => simp only [e2] at h ⊢; exact h
        | st => simp only [e2] at h ⊢; exact h
      | false => simp only [e] at h ⊢; exact h
    | ex c fs r1 => simp only [e] at h ⊢; exact h
    | st => simp only [e] at h ⊢; exact h
theorem whileN_le {ft : Rho → Rs Bool} {f : Rho → Fl} {m n : Nat} {r : Rho} {z : Fl} (h : whileN ft f m r = some z) (l : m ≤ n) : whileN ft f n r = some z := by
  induction l with
  | refl => exact h
  | step _ ih => exact whileN_succ ih
theorem fWhile_of {ft : Rho → Rs Bool} {f : Rho → Fl} {n : Nat} {r : Rho} {z : Fl} (h : whileN ft f n r = some z) : fWhile ft f r = z := by
  unfold fWhile
  have ex : ∃ n z, whileN ft f n r = some z := ⟨n, z, h⟩
  rw [dif_pos ex]
  have h' := ex.choose_spec.choose_spec
  have h1 := whileN_le h (Nat.le_max_left n ex.choose)
  have h2 := whileN_le h' (Nat.le_max_right n ex.choose)
  rw [h1] at h2
  exact (Option.some.inj h2).symm
theorem fWhile_some {ft : Rho → Rs Bool} {f : Rho → Fl} {r : Rho} : fWhile ft f r = .st ∨ ∃ n, whileN ft f n r = some (fWhile ft f r) := by
  by_cases ex : ∃ n z, whileN ft f n r = some z
  · obtain ⟨n, z, h⟩ := ex
    exact .inr ⟨n, by rw [fWhile_of h]; exact h⟩
  · left; unfold fWhile; rw [dif_neg ex]
/-- a while's own equation -/
theorem fWhile_eq (ft : Rho → Rs Bool) (f : Rho → Fl) (r : Rho) : fWhile ft f r = ofR (ft r) fun b r1 => if b then (match f r1 with | .nx r2 => fWhile ft f r2 | .ct r2 => fWhile ft f r2 | .bk r2 => .nx r2 | z => z) else .nx r1 := by
  have go : ∀ r2, (∃ n, whileN ft f n r2 = some (fWhile ft f r2)) ∨ (fWhile ft f r2 = .st ∧ ∀ n, whileN ft f n r2 = none ∨ whileN ft f n r2 = some .st) := fun r2 => by
    rcases fWhile_some (ft := ft) (f := f) (r := r2) with h | h
    · refine .inr ⟨h, fun n => ?_⟩
      cases e : whileN ft f n r2 with
      | none => exact .inl rfl
      | some z => rw [← fWhile_of e, h]; exact .inr rfl
    · exact .inl h
  have lift : ∀ r1 r2 : Rho, ft r = .ok true r1 → (f r1 = .nx r2 ∨ f r1 = .ct r2) → fWhile ft f r = fWhile ft f r2 := fun r1 r2 h1 h2 => by
    have step : ∀ n, whileN ft f (n + 1) r = whileN ft f n r2 := fun n => by
      rw [whileN]
      rcases h2 with h2 | h2 <;> simp only [h1, h2]
    rcases go r2 with ⟨n, h⟩ | ⟨h, hn⟩
    · exact fWhile_of (n := n + 1) ((step n).trans h)
    · rw [h]
      rcases fWhile_some (ft := ft) (f := f) (r := r) with q | ⟨m, q⟩
      · exact q
      · cases m with
        | zero => cases q
        | succ m =>
          rw [step] at q
          rcases hn m with z | z
          · rw [z] at q; cases q
          · rw [z] at q; exact (Option.some.inj q).symm
  cases e : ft r with
  | ok b r1 =>
    cases b with
    | true =>
      cases e2 : f r1 with
      | nx r2 => exact (lift r1 r2 e (.inl e2)).trans (by simp [ofR, e2])
      | ct r2 => exact (lift r1 r2 e (.inr e2)).trans (by simp [ofR, e2])
      | bk r2 => exact fWhile_of (n := 1) (by simp only [whileN, e, e2]; simp [ofR, e2])
      | rt s r2 => exact fWhile_of (n := 1) (by simp only [whileN, e, e2]; simp [ofR, e2])
      | ex c fs r2 => exact fWhile_of (n := 1) (by simp only [whileN, e, e2]; simp [ofR, e2])
      | st => exact fWhile_of (n := 1) (by simp only [whileN, e, e2]; simp [ofR, e2])
    | false => exact fWhile_of (n := 1) (by simp only [whileN, e]; simp [ofR])
  | ex c fs r1 => exact fWhile_of (n := 1) (by simp only [whileN, e]; simp [ofR])
  | st => exact fWhile_of (n := 1) (by simp only [whileN, e]; simp [ofR])
theorem gs_while (hp : PassesOwn (model X.prog X.w) X.A X.env X.xe) (hc : GT X C c ft) (hb : GSs X C sts f) : GS X C (.While c sts [] pos) (fWhile ft f) := by
  refine weakS (ps_while hp hc hb) fun D σ H h => ?_
  obtain ⟨U, r, s, h⟩ := h
  rcases fWhile_some (ft := ft) (f := f) (r := r) with q | ⟨n, q⟩
  · rw [q] at h; exact h.elim
  refine ⟨fun m σ' H' => ∃ U' r', Sit C U' H' σ' r' ∧ Aft U H σ r U' H' σ' r' ∧ whileN ft f m r' = some (fWhile ft f r), ⟨n, U, r, s, Aft.refl, q⟩, ?_⟩
  rintro m σ1 H1 ⟨U1, r1, s1, a1, e1⟩
  cases m with
  | zero => cases e1
  | succ m =>
    rw [whileN] at e1
    refine ⟨U1, r1, s1, ?_⟩
    cases e : ft r1 with
    | ok b r2 =>
      intro H2 U2 s2 a2 p2
      cases b with
      | false =>
        simp only [e] at e1
        rw [← Option.some.inj e1] at h
        exact h σ1 H2 U2 s2 (a1.trans a2)
      | true =>
        simp only [e] at e1
        rw [if_pos rfl]
        refine ⟨fun σ' H' => ∃ U' r', Sit C U' H' σ' r' ∧ Aft U H σ r U' H' σ' r' ∧ whileN ft f m r' = some (fWhile ft f r), fun σ' H' z => ⟨m, Nat.lt_succ_self m, z⟩, U2, r2, s2, ?_⟩
        cases e2 : f r2 with
        | nx r3 => simp only [e2] at e1; exact fun σ' H' U' s' a' => ⟨U', r3, s', (a1.trans a2).trans a', e1⟩
        | ct r3 => simp only [e2] at e1; exact fun σ' H' U' s' a' => ⟨U', r3, s', (a1.trans a2).trans a', e1⟩
        | bk r3 => simp only [e2] at e1; rw [← Option.some.inj e1] at h; exact fun σ' H' U' s' a' => h σ' H' U' s' ((a1.trans a2).trans a')
        | rt t r3 => simp only [e2] at e1; rw [← Option.some.inj e1] at h; exact RS.before h (a1.trans a2)
        | ex c fs r3 => simp only [e2] at e1; rw [← Option.some.inj e1] at h; exact RS.before h (a1.trans a2)
        | st => simp only [e2] at e1; rw [← Option.some.inj e1] at h; exact h
    | ex c fs r2 =>
      simp only [e] at e1
      rw [← Option.some.inj e1] at h
      exact XWant.before (show XWant C U H σ r c fs r2 from h) a1
    | st =>
      simp only [e] at e1
      rw [← Option.some.inj e1] at h
      exact h
end
end GB
namespace GB
open PySem PySem.Spec PyProof.Rows L2
/-- an item: a tree; b: or a pair that was made for a walk -/
def RpB (b : Bool) (K : PySem.W.Frag) (W : Addr → Prop) (H : Hp) (v : V) (d : D) : Prop := Rp K W H v d ∨ (b = true ∧ ∃ a xs ds, v = .ref a ∧ d = .tup ds ∧ SqT K H a xs ∧ Rps K W H xs ds)
theorem RpB.tree {K : PySem.W.Frag} {W : Addr → Prop} {H : Hp} {v : V} {d : D} (h : RpB false K W H v d) : Rp K W H v d := h.elim id fun z => nomatch z.1
def tG (C : Ct) (tgt : List Nat) (fg : D → Rho → Option Rho) (b : Bool := false) : TG := fun v σ H Q => ∃ U r d, Sit C U H σ r ∧ RpB b C.K (Wn U σ r) H v d ∧
  match fg d r with
  | some r' => ∀ σ' U', Sit C U' H σ' r' → Aft U H σ r U' H σ' r' → (Per r r' ∧ σ'.length = σ.length) → (∀ j, j ∉ tgt → σ'[j]? = σ[j]?) → Q σ' H
  | none => False
def tGs (C : Ct) (tgt : List Nat) (fg : List D → Rho → Option Rho) : TGs := fun vs σ H Q => ∃ U r ds, Sit C U H σ r ∧ Rps C.K (Wn U σ r) H vs ds ∧
  match fg ds r with
  | some r' => ∀ σ' U', Sit C U' H σ' r' → Aft U H σ r U' H σ' r' → (Per r r' ∧ σ'.length = σ.length) → (∀ j, j ∉ tgt → σ'[j]? = σ[j]?) → Q σ' H
  | none => False
section
variable {X : Cx} {C : Ct} {e : Expr} {es : List Expr} {pos : Pos}
abbrev GG (X : Cx) (C : Ct) (e : Expr) (tgt : List Nat) (fg : D → Rho → Option Rho) (b : Bool := false) : Prop := PG X e (tG C tgt fg b)
abbrev GGs (X : Cx) (C : Ct) (es : List Expr) (tgt : List Nat) (fg : List D → Rho → Option Rho) : Prop := PGs X es (tGs C tgt fg)
theorem weakG {t t' : TG} (h : PG X e t) (k : ∀ v σ H Q, t' v σ H Q → t v σ H Q) : PG X e t' := ⟨fun pins s σ H v u Q I r q => h.run pins s σ H v u Q I r (k v σ H Q q)⟩
theorem weakGs {t t' : TGs} (h : PGs X es t) (k : ∀ v σ H Q, t' v σ H Q → t v σ H Q) : PGs X es t' := ⟨fun pins s σ H v u Q I r q => h.run pins s σ H v u Q I r (k v σ H Q q)⟩
def gNm (i : Nat) : D → Rho → Option Rho := fun d r => if free r i then some (r.set i (some (.fz d))) else none
theorem gg_name {i : Nat} {x : Str} (hN : X.N.Nodup) (hi : X.N[i]? = some x) (hx : Loc X.env.scope x) (hf : X.fn x = true ∨ X.env.scope.names.lookup x = some .local := by first | exact .inl rfl | exact .inr rfl | assumption) : GG X C (.Name x pos) [i] (gNm i) := by
  refine weakG (pg_name hN hi hx hf) fun v σ H Q h => ?_
  obtain ⟨U, r, d, s, x, h⟩ := h
  have x := x.tree
  unfold gNm at h
  by_cases hf : free r i = true
  · rw [if_pos hf] at h
    obtain ⟨U3, s3, a3⟩ := store_aft (s := .fz d) (v := v) s s Aft.refl hf ⟨.fz x, fun p z => (nomatch z), rfl⟩ fun _ _ z q _ => by cases z; cases q
    exact h _ U3 s3 a3 ⟨fun j t hj => (by
      by_cases z : i = j
      · subst z; exact ⟨_, List.getElem?_set_self (free_lt hf)⟩
      · exact ⟨t, by rw [List.getElem?_set_ne z]; exact hj⟩), List.length_set⟩ fun j hj => by rw [List.getElem?_set_ne (fun z => hj (by simp [z]))]
  · rw [if_neg hf] at h
    exact h.elim
def gsNil : List D → Rho → Option Rho
  | [], r => some r
  | _, _ => none
def gsCons (f : D → Rho → Option Rho) (g : List D → Rho → Option Rho) : List D → Rho → Option Rho
  | d :: ds, r => (match f d r with | some r1 => g ds r1 | none => none)
  | [], _ => none
theorem ggs_nil : GGs X C [] [] gsNil := by
  refine weakGs pgs_nil fun vs σ H Q h => ?_
  obtain ⟨U, r, ds, s, x, h⟩ := h
  cases x with
  | nil => exact ⟨rfl, h σ U s Aft.refl ⟨Per.refl, rfl⟩ fun _ _ => rfl⟩
  | cons _ _ => exact h.elim
theorem ggs_cons {f : D → Rho → Option Rho} {g : List D → Rho → Option Rho} {t1 t2 : List Nat} (h1 : GG X C e t1 f) (h2 : GGs X C es t2 g)
    (hs : (assignEach (e :: es) X.env).map (·.2) = assign e X.env :: (assignEach es X.env).map (·.2) := by rfl) : GGs X C (e :: es) (t1 ++ t2) (gsCons f g) := by
  refine weakGs (pgs_cons h1 h2 hs) fun vs σ H Q h => ?_
  obtain ⟨U, r, ds, s, x, h⟩ := h
  cases x with
  | nil => exact h.elim
  | @cons v vs d ds x xs =>
    refine ⟨v, vs, rfl, U, r, d, s, .inl x, ?_⟩
    unfold gsCons at h
    cases e1 : f d r with
    | none => simp only [e1] at h
    | some r1 =>
      simp only [e1] at h
      intro σ1 U1 s1 a1 l1 o1
      refine ⟨U1, r1, ds, s1, xs.mono (a1.mono s), ?_⟩
      cases e2 : g ds r1 with
      | none => simp only [e2] at h
      | some r2 =>
        simp only [e2] at h
        intro σ2 U2 s2 a2 l2 o2
        exact h σ2 U2 s2 (a1.trans a2) ⟨l1.1.trans l2.1, l2.2.trans l1.2⟩ fun j hj => (o2 j fun z => hj (List.mem_append_right _ z)).trans (o1 j fun z => hj (List.mem_append_left _ z))
def gTp (n : Nat) (f : List D → Rho → Option Rho) : D → Rho → Option Rho := fun d r => match d with
  | .tup ds => if ds.length = n then f ds r else none
  | _ => none
theorem gg_tup {b : Bool} {k : Nat} {f : List D → Rho → Option Rho} {n : Nat} {t : List Nat} (hc : X.calm = true) (h : GGs X C es t f) (hK : C.K = X.K := by rfl)
    (hn : (assignEach es X.env).length = n := by rfl) (hst : (assignEach es X.env).findIdx? (·.1) = none := by rfl) : GG X C (.Tuple es k pos) t (gTp n f) b := by
  refine weakG (pg_tup hc h hn hst) fun v σ H Q h => ?_
  obtain ⟨U, r, d, s, x | ⟨_, a, xs, ds, rfl, rfl, q, xs'⟩, h⟩ := h
  case inr =>
    unfold gTp at h
    dsimp only at h
    by_cases hl : ds.length = n
    · rw [if_pos hl] at h
      exact ⟨a, xs, rfl, hK ▸ q, xs'.len.trans hl, U, r, ds, s, xs', h⟩
    · rw [if_neg hl] at h
      exact h.elim
  cases x with
  | @tup a xs ds q xs' =>
    unfold gTp at h
    dsimp only at h
    by_cases hl : ds.length = n
    · rw [if_pos hl] at h
      exact ⟨a, xs, rfl, hK ▸ q.sq, xs'.len.trans hl, U, r, ds, s, xs', h⟩
    · rw [if_neg hl] at h
      exact h.elim
  | _ => exact h.elim
/-- target = e (a tuple of names; one name is gs_set) -/
def fAsg (fg : D → Rho → Option Rho) (fe : Rho → Rs Opd) : Rho → Fl := fun r => ofR (fe r) fun o r1 => match frz1 o r1 with
  | some (d, r2) => (match fg d r2 with | some r3 => .nx r3 | none => .st)
  | none => .st
theorem tE_stmt2 {fe : Rho → Rs Opd} {k : Opd → Rho → Fl} {σ : St} {H : Hp} {Q : VK} {D : Ends} {U : Addr → Prop} {r : Rho} (s : Sit C U H σ r) (h : RS C U H σ r D (ofR (fe r) k))
    (hok : ∀ o r' v H' U', Sit C U' H' σ r' → Aft U H σ r U' H' σ r' → Per r r' → OpOk C U' H' σ r' o v → New H o v → RS C U H σ r D (k o r') → Q v H') : tE C fe σ H Q := by
  refine ⟨U, r, s, ?_⟩
  cases e : fe r with
  | ok o r' => rw [e] at h; exact fun v H' U' s' a' p' k' n' => hok o r' v H' U' s' a' p' k' n' h
  | ex c fs r' => rw [e] at h; exact h
  | st => rw [e] at h; exact h
theorem op1_drop {U U' : Addr → Prop} {H H' : Hp} {σ : St} {r r' : Rho} {o : Opd} {v : V} (s0 : Sit C U H σ r) (s : Sit C U' H' σ r') (a : Aft U H σ r U' H' σ r') (k : OpOk C U' H' σ r' o v) (n : New H o v) :
    ∃ U2, Sit C U2 H' σ r' ∧ Aft U H σ r U2 H' σ r' ∧ (∀ a, U2 a → U' a) ∧ Ops2 C U2 H' σ r' o v := by
  obtain ⟨U2, s2, a2, u2, k2⟩ := ops_drop s0 s a (.cons k .nil) (.cons n .nil)
  cases k2 with
  | cons k2 _ => exact ⟨U2, s2, a2, u2, k2⟩
theorem gs_asg {fe : Rho → Rs Opd} {tg : Expr} {t : List Nat} {fg : D → Rho → Option Rho} (he : GE X C e fe) (hg : GG X C tg t fg) (hs : swapsWithSole [tg] e pos.line X.env = pure false := by rfl) (hw : swappedStores [tg] e X.env = pure none := by rfl)
    (h1 : (assignEach [tg] X.env).map (·.2) = [assign tg X.env] := by rfl) : GS X C (.Assign [tg] e pos) (fAsg fg fe) := by
  refine weakS (ps_asg he hg hs hw h1) fun D σ H h => ?_
  obtain ⟨U, r, s, h⟩ := h
  refine tE_stmt2 (D := D) s h fun o r' v H' U' s' a' p' k' n' q => ?_
  obtain ⟨U2, s2, a2, u2, k2⟩ := op1_drop s s' a' k' n'
  cases e1 : frz1 o r' with
  | none => simp only [e1] at q; exact (show False from q).elim
  | some z =>
    obtain ⟨d, r2⟩ := z
    simp only [e1] at q
    obtain ⟨s3, a3, p3, x3⟩ := frz1_ok s2 k2 e1
    refine ⟨U2, r2, d, s3, .inl x3, ?_⟩
    cases e2 : fg d r2 with
    | none => simp only [e2] at q; exact (show False from q).elim
    | some r3 =>
      simp only [e2] at q
      exact fun σ' U3 s4 a4 _ _ => q σ' H' U3 s4 ((a2.trans a3).trans a4)
end
section
variable {C : Ct} {U U' : Addr → Prop} {H H' : Hp} {σ σ' : St} {r r' : Rho} {i : Nat} {ds : List D} {s : S} {p : Addr}
theorem Sit.lock (st : Sit C U H σ r) (hi : r[i]? = some (some s)) (hs : s = .ol ds ∨ s = .br ds) (hv : σ[i]? = some (some (V.ref p))) :
    Sit C (fun a => U a ∨ a = p) H σ (r.set i (some (.lk ds))) ∧ (∀ a, Own σ (r.set i (some (.lk ds))) a → Own σ r a ∧ a ≠ p) := by
  have ho : s.own = true := by rcases hs with h | h <;> (subst h; rfl)
  have hlt := lt_of_at hi
  obtain ⟨w, e, x⟩ := st.rep i s hi
  rw [hv] at e; cases e
  have own' : ∀ a, Own σ (r.set i (some (.lk ds))) a → Own σ r a ∧ a ≠ p := fun a ⟨j, t, h1, h2, h3⟩ => by
    rcases at_set h1 with ⟨_, e⟩ | ⟨n, h1⟩
    · cases e; cases h2
    · refine ⟨⟨j, t, h1, h2, h3⟩, fun z => n ?_⟩
      subst z
      exact st.inj j i t s _ h1 (soft_of_own h2) hi (soft_of_own ho) h3 hv
  have wsub : ∀ a, Wn (fun a => U a ∨ a = p) σ (r.set i (some (.lk ds))) a → Wn U σ r a := fun a h => by
    rcases h with h | h | h
    · exact .inl (own' a h).1
    · exact .inr h
    · subst h; exact .inl ⟨i, s, hi, ho, hv⟩
  have lk : SR C.K (fun a => U a ∨ a = p) (Wn (fun a => U a ∨ a = p) σ (r.set i (some (.lk ds)))) H (.ref p) (.lk ds) := by
    rcases hs with h | h <;> subst h
    · cases x with | ol e x => exact .lk e (.inr rfl) (x.less wsub)
    · cases x with | br e x => exact .lk e (.inr rfl) (x.less wsub)
  have slot : ∀ (j : Nat) (t : S), (r.set i (some (.lk ds)))[j]? = some (some t) → t.soft = false → ∃ u, r[j]? = some (some u) ∧ u.soft = false := fun j t h q => by
    rcases at_set h with ⟨rfl, e⟩ | ⟨n, h⟩
    · exact ⟨s, hi, soft_of_own ho⟩
    · exact ⟨t, h, q⟩
  refine ⟨⟨by rw [List.length_set]; exact st.len, fun j t h => ?_, fun j k t u w h1 q1 h2 q2 e1 e2 => ?_, fun a h z => ?_, fun a h => ?_⟩, own'⟩
  · rcases at_set h with ⟨rfl, e⟩ | ⟨n, h⟩
    · cases e; exact ⟨_, hv, lk⟩
    · obtain ⟨w, e, y⟩ := st.rep j t h
      exact ⟨w, e, y.less wsub fun q z1 z2 => .inl (y.lkLv z1 z2)⟩
  · obtain ⟨_, g1, g2⟩ := slot j t h1 q1
    obtain ⟨_, g3, g4⟩ := slot k u h2 q2
    exact st.inj j k _ _ w g1 g2 g3 g4 e1 e2
  · rcases z with z | z
    · exact st.dis a (own' a h).1 z
    · exact (own' a h).2 z
  · rcases h with h | h
    · exact st.uok a h
    · subst h
      exact st.wlv a (.inl ⟨i, s, hi, ho, hv⟩)
/-- behind the loop -/
theorem Sit.unlock (s0 : Sit C U H σ r) (hi : r[i]? = some (some s)) (hs : s = .ol ds ∨ s = .br ds) (hv : σ[i]? = some (some (V.ref p)))
    (st : Sit C U' H' σ' r') (a : Aft (fun a => U a ∨ a = p) H σ (r.set i (some (.lk ds))) U' H' σ' r') :
    Sit C (fun a => U' a ∧ a ≠ p) H' σ' (r'.set i (some s)) ∧ Aft U H σ r (fun a => U' a ∧ a ≠ p) H' σ' (r'.set i (some s)) ∧ (∀ a, Wn (fun a => U' a ∧ a ≠ p) σ' (r'.set i (some s)) a → Wn U' σ' r' a) := by
  have ho : s.own = true := by rcases hs with h | h <;> (subst h; rfl)
  have hlt := lt_of_at hi
  obtain ⟨sl, ownl⟩ := s0.lock hi hs hv
  have lp : Lv H p := s0.wlv p (.inl ⟨i, s, hi, ho, hv⟩)
  obtain ⟨t, ht, hsl, hσ⟩ := a.pin i (.lk ds) (List.getElem?_set_self hlt) rfl
  have ht' : t = .lk ds := hsl
  subst ht'
  rw [hv] at hσ
  have hlt' := lt_of_at ht
  obtain ⟨w, e, x⟩ := st.rep i _ ht
  rw [hσ] at e; cases e
  have up : U' p := x.lkLv rfl rfl
  have own' : ∀ b, Own σ' (r'.set i (some s)) b → Own σ' r' b ∨ b = p := fun b ⟨j, t, h1, h2, h3⟩ => by
    rcases at_set h1 with ⟨rfl, e⟩ | ⟨n, h1⟩
    · rw [hσ] at h3; cases h3; exact .inr rfl
    · exact .inl ⟨j, t, h1, h2, h3⟩
  have wsub : ∀ b, Wn (fun a => U' a ∧ a ≠ p) σ' (r'.set i (some s)) b → Wn U' σ' r' b := fun b h => by
    rcases h with h | h
    · rcases own' b h with h | h
      · exact .inl h
      · subst h; exact .inr up
    · exact .inr h.1
  have slot : ∀ (j : Nat) (t : S), (r'.set i (some s))[j]? = some (some t) → t.soft = false → ∃ u, r'[j]? = some (some u) ∧ u.soft = false := fun j t h q => by
    rcases at_set h with ⟨rfl, e⟩ | ⟨n, h⟩
    · exact ⟨_, ht, rfl⟩
    · exact ⟨t, h, q⟩
  have nU : ∀ b, U b → b ≠ p := fun b h z => by subst z; exact s0.dis b ⟨i, s, hi, ho, hv⟩ h
  refine ⟨⟨by rw [List.length_set]; exact st.len, fun j t h => ?_, fun j k t u w h1 q1 h2 q2 e1 e2 => ?_, fun b h z => ?_, fun b h => st.uok b h.1⟩, ⟨fun b h => ⟨a.sub b (.inl h), nU b h⟩, fun b h => ?_, fun b h => ?_, fun b o h n => ?_, a.there, fun j t h1 h2 => ?_, fun j t h1 h2 => ?_⟩, wsub⟩
  · rcases at_set h with ⟨rfl, e⟩ | ⟨n, h⟩
    · cases e
      refine ⟨_, hσ, ?_⟩
      cases x with
      | lk e1 u1 x1 => rcases hs with h | h <;> subst h
                       · exact .ol e1 (x1.less wsub)
                       · exact .br e1 (x1.less wsub)
    · obtain ⟨w, e, y⟩ := st.rep j t h
      refine ⟨w, e, y.less wsub fun q z1 z2 => ⟨y.lkLv z1 z2, fun z => n ?_⟩⟩
      subst z
      have tn : t.soft = false := by cases t <;> first | rfl | cases z1
      exact st.inj j i t _ _ h tn ht rfl e (by rw [hσ, z2])
  · obtain ⟨_, g1, g2⟩ := slot j t h1 q1
    obtain ⟨_, g3, g4⟩ := slot k u h2 q2
    exact st.inj j k _ _ w g1 g2 g3 g4 e1 e2
  · rcases own' b h with h | h
    · exact st.dis b h z.1
    · exact z.2 h
  · rcases a.new b h.1 with (z | z) | z | z
    · exact .inl z
    · exact (h.2 z).elim
    · exact .inr (.inl z)
    · exact .inr (.inr (ownl b z).1)
  · rcases own' b h with h | h
    · rcases a.grow b h with z | z
      · exact .inl (ownl b z).1
      · exact .inr z
    · subst h; exact .inl ⟨i, s, hi, ho, hv⟩
  · exact a.keep b o h fun z => n (ownl b z).1
  · by_cases n : i = j
    · subst n
      rw [hi] at h1; cases h1
      exact ⟨s, List.getElem?_set_self hlt', Sl.refl s, by rw [hσ, hv]⟩
    · obtain ⟨t', g1, g2, g3⟩ := a.pin j t (by rw [List.getElem?_set_ne n]; exact h1) h2
      exact ⟨t', by rw [List.getElem?_set_ne n]; exact g1, g2, g3⟩
  · rcases at_set h1 with ⟨rfl, e⟩ | ⟨n, h1⟩
    · cases e; rcases hs with h | h <;> (subst h; cases h2)
    · obtain ⟨g1, g2⟩ := a.lok j t h1 h2
      rw [List.getElem?_set_ne (fun z => n z.symm)] at g1
      exact ⟨g1, g2⟩
end
end GB
namespace GB
open PySem PySem.Spec PyProof.Rows L2
def lockO (o : Opd) (r : Rho) : Option (S × Rho × List (Nat × S)) := match o with
  | .val (.fz d) => some (.fz d, r, [])
  | .val (.ol ds) => some (.lk ds, r, [])
  | .val _ => none
  | .loc i => match r[i]? with
    | some (some (.fz d)) => some (.fz d, r, [])
    | some (some (.lk ds)) => some (.lk ds, r, [])
    | some (some (.ol ds)) => some (.lk ds, r.set i (some (.lk ds)), [(i, .ol ds)])
    | some (some (.br ds)) => some (.lk ds, r.set i (some (.lk ds)), [(i, .br ds)])
    | some (some (.kd o xs ks)) => some (.kd o xs ks, r, [])
    | some (some (.kt o xs ks)) => some (.kt o xs ks, r, [])
    | _ => none
def lockAll : List Opd → Rho → Option (List S × Rho × List (Nat × S))
  | [], r => some ([], r, [])
  | o :: os, r => match lockO o r with
    | some (s, r1, u1) => (match lockAll os r1 with | some (ss, r2, u2) => some (s :: ss, r2, u1 ++ u2) | none => none)
    | none => none
def unlR : List (Nat × S) → Rho → Rho
  | [], r => r
  | (i, s) :: u, r => (unlR u r).set i (some s)
def mapFl (f : Rho → Rho) : Fl → Fl
  | .nx r => .nx (f r) | .rt s r => .rt s (f r) | .bk r => .bk (f r) | .ct r => .ct (f r) | .ex c fs r => .ex c fs (f r) | .st => .st
section
variable {C : Ct} {U U' : Addr → Prop} {H H' : Hp} {σ σ' : St} {r r' : Rho}
/-- the way back from a locked state -/
def Back (C : Ct) (U : Addr → Prop) (H : Hp) (σ : St) (r : Rho) (U2 : Addr → Prop) (r2 : Rho) (u : List (Nat × S)) : Prop :=
  ∀ U' H' σ' r', Sit C U' H' σ' r' → Aft U2 H σ r2 U' H' σ' r' → ∃ U'', Sit C U'' H' σ' (unlR u r') ∧ Aft U H σ r U'' H' σ' (unlR u r') ∧ (∀ a, Wn U'' σ' (unlR u r') a → Wn U' σ' r' a) ∧ (∀ a, U' a → U'' a ∨ U2 a)
theorem Back.nil : Back C U H σ r U r [] := fun U' H' σ' r' s a => ⟨U', s, a, fun _ h => h, fun _ h => .inl h⟩
theorem lock1 {o : Opd} {v : V} {s : S} {r1 : Rho} {u : List (Nat × S)} (st : Sit C U H σ r) (k : OpOk C U H σ r o v) (h : lockO o r = some (s, r1, u)) :
    ∃ U1, Sit C U1 H σ r1 ∧ (∀ a, U a → U1 a) ∧ (∀ a, Wn U1 σ r1 a → Wn U σ r a) ∧ Per r r1 ∧ (∀ a, Own σ r1 a → Own σ r a) ∧ SR C.K U1 (Wn U1 σ r1) H v s ∧ s.own = false ∧ Back C U H σ r U1 r1 u := by
  have same : ∀ {s : S}, SR C.K U (Wn U σ r) H v s → s.own = false → r1 = r → u = [] → ∃ U1, Sit C U1 H σ r1 ∧ (∀ a, U a → U1 a) ∧ (∀ a, Wn U1 σ r1 a → Wn U σ r a) ∧ Per r r1 ∧ (∀ a, Own σ r1 a → Own σ r a) ∧ SR C.K U1 (Wn U1 σ r1) H v s ∧ s.own = false ∧ Back C U H σ r U1 r1 u := fun x n e1 e2 => by
    subst e1; subst e2
    exact ⟨U, st, fun _ h => h, fun _ h => h, Per.refl, fun _ h => h, x, n, Back.nil⟩
  cases o with
  | val t =>
    obtain ⟨x, hu, hh⟩ := k
    cases t with
    | fz d => cases h; exact same x rfl rfl rfl
    | ol ds => cases h; cases x with | ol e x => exact same (.lk e (hu _ rfl rfl) x) rfl rfl rfl
    | _ => cases h
  | loc i =>
    obtain ⟨hv, t, ht⟩ := k
    have lock : ∀ ds, (t = .ol ds ∨ t = .br ds) → s = .lk ds → r1 = r.set i (some (.lk ds)) → u = [(i, t)] → ∃ U1, Sit C U1 H σ r1 ∧ (∀ a, U a → U1 a) ∧ (∀ a, Wn U1 σ r1 a → Wn U σ r a) ∧ Per r r1 ∧ (∀ a, Own σ r1 a → Own σ r a) ∧ SR C.K U1 (Wn U1 σ r1) H v s ∧ s.own = false ∧ Back C U H σ r U1 r1 u := fun ds hs e1 e2 e3 => by
      have ho : t.own = true := by rcases hs with h | h <;> (subst h; rfl)
      obtain ⟨w, e, x⟩ := st.rep i t ht
      rw [hv] at e; cases e
      obtain ⟨p, e, l⟩ := x.ownLv ho
      subst e; subst e1; subst e2; subst e3
      obtain ⟨sl, own'⟩ := st.lock ht hs hv
      have hlt := lt_of_at ht
      obtain ⟨w, e, y⟩ := sl.rep i _ (List.getElem?_set_self hlt)
      rw [hv] at e; cases e
      refine ⟨_, sl, fun a h => .inl h, fun a h => ?_, fun j t' h => ?_, fun a h => (own' a h).1, y, rfl, fun U' H' σ' r' s' a' => ?_⟩
      · rcases h with h | h | h
        · exact .inl (own' a h).1
        · exact .inr h
        · subst h; exact .inl ⟨i, t, ht, ho, hv⟩
      · by_cases z : i = j
        · subst z; exact ⟨_, List.getElem?_set_self hlt⟩
        · exact ⟨t', by rw [List.getElem?_set_ne z]; exact h⟩
      · obtain ⟨s2, a2, w2⟩ := st.unlock ht hs hv s' a'
        refine ⟨_, s2, a2, w2, fun a h => ?_⟩
        by_cases z : a = p
        · exact .inr (.inr z)
        · exact .inl ⟨h, z⟩
    unfold lockO at h
    simp only [ht] at h
    cases t with
    | fz d =>
      cases h
      obtain ⟨w, e, x⟩ := st.rep i _ ht
      rw [hv] at e; cases e
      exact same x rfl rfl rfl
    | lk ds =>
      cases h
      obtain ⟨w, e, x⟩ := st.rep i _ ht
      rw [hv] at e; cases e
      exact same x rfl rfl rfl
    | kd _ _ ks =>
      cases h
      obtain ⟨w, e, x⟩ := st.rep i _ ht
      rw [hv] at e; cases e
      exact same x rfl rfl rfl
    | kt _ _ ks =>
      cases h
      obtain ⟨w, e, x⟩ := st.rep i _ ht
      rw [hv] at e; cases e
      exact same x rfl rfl rfl
    | ol ds => cases h; exact lock ds (.inl rfl) rfl rfl rfl
    | br ds => cases h; exact lock ds (.inr rfl) rfl rfl rfl
    | _ => cases h
theorem unlR_append (u1 u2 : List (Nat × S)) (r : Rho) : unlR (u1 ++ u2) r = unlR u1 (unlR u2 r) := by
  induction u1 with
  | nil => rfl
  | cons p u ih => obtain ⟨i, s⟩ := p; show (unlR (u ++ u2) r).set i (some s) = _; rw [ih]; rfl
theorem lock_all : ∀ {os : List Opd} {vs : List V} {ss : List S} {U : Addr → Prop} {r r2 : Rho} {u : List (Nat × S)}, Sit C U H σ r → OpsOk C U H σ r os vs → lockAll os r = some (ss, r2, u) →
    ∃ U2, Sit C U2 H σ r2 ∧ (∀ a, U a → U2 a) ∧ (∀ a, Wn U2 σ r2 a → Wn U σ r a) ∧ Per r r2 ∧ (∀ a, Own σ r2 a → Own σ r a) ∧ SRs C.K U2 (Wn U2 σ r2) H vs ss ∧ (∀ s ∈ ss, s.own = false) ∧ Back C U H σ r U2 r2 u := by
  intro os
  induction os with
  | nil =>
    intro vs ss U r r2 u st k h
    cases k
    cases h
    exact ⟨U, st, fun _ h => h, fun _ h => h, Per.refl, fun _ h => h, .nil, fun s h => by simp at h, Back.nil⟩
  | cons o os ih =>
    intro vs ss U r r2 u st k h
    cases k with
    | @cons _ v _ vs k1 k2 =>
      unfold lockAll at h
      cases e1 : lockO o r with
      | none => simp only [e1] at h; cases h
      | some q =>
        obtain ⟨s, r1, u1⟩ := q
        simp only [e1] at h
        cases e2 : lockAll os r1 with
        | none => simp only [e2] at h; cases h
        | some q =>
          obtain ⟨ss', r3, u2⟩ := q
          simp only [e2] at h
          cases h
          obtain ⟨U1, s1, b1, w1, p1, o1, x1, n1, k1'⟩ := lock1 st k1 e1
          have k2' : OpsOk C U1 H σ r1 os vs := Paired.mapP k2 fun o v q => by
            cases o with
            | loc i => exact ⟨q.1, let ⟨t, h⟩ := q.2; p1 i t h⟩
            | val t => exact ⟨q.1.less w1 fun p z1 z2 => b1 p (q.1.lkLv z1 z2), fun p z1 z2 => b1 p (q.2.1 p z1 z2), q.2.2⟩
          obtain ⟨U2, s2, b2, w2, p2, o2, x2, n2, kb⟩ := ih s1 k2' e2
          refine ⟨U2, s2, fun a h => b2 a (b1 a h), fun a h => w1 a (w2 a h), p1.trans p2, fun a h => o1 a (o2 a h), .cons (x1.less w2 fun p z1 z2 => b2 p (x1.lkLv z1 z2)) x2, fun t ht => ?_, fun U' H' σ' r' s' a' => ?_⟩
          · rcases List.mem_cons.mp ht with z | z
            · rw [z]; exact n1
            · exact n2 t z
          · obtain ⟨U3, s3, a3, w3, m3⟩ := kb U' H' σ' r' s' a'
            obtain ⟨U4, s4, a4, w4, m4⟩ := k1' U3 H' σ' _ s3 a3
            rw [unlR_append]
            refine ⟨U4, s4, a4, fun a h => w3 a (w4 a h), fun a h => ?_⟩
            rcases m3 a h with h | h
            · exact (m4 a h).elim .inl fun z => .inr (b2 a z)
            · exact .inr h
theorem RS.unlocked {U2 : Addr → Prop} {r2 : Rho} {u : List (Nat × S)} {D : Ends} {z : Fl} (s2 : Sit C U2 H σ r2) (ow : ∀ a, Own σ r2 a → Own σ r a) (b : Back C U H σ r U2 r2 u) (h : RS C U H σ r D (mapFl (unlR u) z)) : RS C U2 H σ r2 D z := by
  cases z with
  | nx r' => exact fun σ' H' U' s' a' => let ⟨U3, s3, a3, _⟩ := b U' H' σ' r' s' a'; h σ' H' U3 s3 a3
  | bk r' => exact fun σ' H' U' s' a' => let ⟨U3, s3, a3, _⟩ := b U' H' σ' r' s' a'; h σ' H' U3 s3 a3
  | ct r' => exact fun σ' H' U' s' a' => let ⟨U3, s3, a3, _⟩ := b U' H' σ' r' s' a'; h σ' H' U3 s3 a3
  | rt t r' =>
    intro v σ' H' U' s' a' k n
    obtain ⟨U3, s3, a3, w3, m3⟩ := b U' H' σ' r' s' a'
    refine h v σ' H' U3 s3 a3 ⟨k.1.less w3 (fun p z1 z2 => by have := k.2.2; rw [lkd_hard z1] at this; cases this), fun p z1 z2 => ?_, k.2.2⟩ fun p z1 z2 => (n p z1 z2).elim (fun q => .inl (ow p q)) .inr
    rcases m3 p (k.2.1 p z1 z2) with q | q
    · exact q
    · rcases n p z1 z2 with z | z
      · exact (s2.dis p z q).elim
      · exact ((s2.uok p q).ne z).elim
  | ex c fs r' =>
    intro cls d σ' H' U' s' a' x
    obtain ⟨U3, s3, a3, w3, m3⟩ := b U' H' σ' r' s' a'
    obtain ⟨e, dx, fv, e1, e2, e3, e4, e5⟩ := x
    exact h cls d σ' H' U3 s3 a3 ⟨e, dx, fv, e1, e2, e3, e4, e5.less w3⟩
  | st => exact h
end
def GItem (C : Ct) (J : It) (ds : List D) (vs : List V) (ss : List S) (b : Bool := false) : Prop :=
  ∃ G Y, Walk J ds.length G Y ∧ (∀ U W H, SRs C.K U W H vs ss → G H) ∧
    ∀ (i : Nat) H x H' d U W, ds[i]? = some d → SRs C.K U W H vs ss → (∀ a, W a → Lv H a) → Y i H x H' → (∀ a o, H a = some o → H' a = some o) ∧ RpB b C.K W H' x d
def IterOk (C : Ct) (w : List V → Hp → (It → Hp → Prop) → Prop) (mk : List S → Option (List D)) (b : Bool := false) : Prop :=
  ∀ (vs : List V) (H : Hp) (ss : List S) (ds : List D) (U W : Addr → Prop) (R : It → Hp → Prop), SRs C.K U W H vs ss → (∀ s ∈ ss, s.own = false) → mk ss = some ds → (∀ J, GItem C J ds vs ss b → R J H) → w vs H R
def GI (X : Cx) (C : Ct) (tg iter : Expr) (fa : Rho → Rs (List Opd)) (mk : List S → Option (List D)) (b : Bool := false) : Prop :=
  ∃ w, IterOk C w mk b ∧ PI X tg iter (fun σ H R => tA C fa σ H fun vs H1 => w vs H1 R)
def forL (fg : D → Rho → Option Rho) (f : Rho → Fl) : List D → Rho → Fl
  | [], r => .nx r
  | d :: ds, r => match fg d r with
    | none => .st
    | some r1 => (match f r1 with
      | .nx r2 => forL fg f ds r2
      | .ct r2 => forL fg f ds r2
      | .bk r2 => .nx r2
      | z => z)
def fFor (fa : Rho → Rs (List Opd)) (mk : List S → Option (List D)) (fg : D → Rho → Option Rho) (f : Rho → Fl) : Rho → Fl := fun r => ofR (fa r) fun os r1 => match lockAll os r1 with
  | some (ss, r2, u) => (match mk ss with | some ds => mapFl (unlR u) (forL fg f ds r2) | none => .st)
  | none => .st
theorem SRs.mono {K : PySem.W.Frag} {U W U' W' : Addr → Prop} {H H' : Hp} (m : Mono U W H U' W' H') : ∀ {vs : List V} {ss : List S}, SRs K U W H vs ss → (∀ s ∈ ss, s.own = false) → SRs K U' W' H' vs ss
  | _, _, .nil, _ => .nil
  | _, _, .cons x t, h => .cons (x.mono m fun a o z => by rw [h _ (List.mem_cons_self ..)] at z; cases z) (SRs.mono m t fun s hs => h s (List.mem_cons_of_mem _ hs))
section
variable {X : Cx} {C : Ct} {tg iter : Expr} {body : List Stmt} {f : Rho → Fl} {fg : D → Rho → Option Rho} {fa : Rho → Rs (List Opd)} {mk : List S → Option (List D)} {pos : Pos} {t : List Nat}
theorem tA_stmt {k : List Opd → Rho → Fl} {σ : St} {H : Hp} {Q : List V → Hp → Prop} {D : Ends} {U : Addr → Prop} {r : Rho} (s : Sit C U H σ r) (h : RS C U H σ r D (ofR (fa r) k))
    (hok : ∀ o r' v H' U', Sit C U' H' σ r' → Aft U H σ r U' H' σ r' → Per r r' → OpsOk C U' H' σ r' o v → NewS H o v → RS C U H σ r D (k o r') → Q v H') : tA C fa σ H Q := by
  refine ⟨U, r, s, ?_⟩
  cases e : fa r with
  | ok o r' => rw [e] at h; exact fun v H' U' s' a' p' k' n' => hok o r' v H' U' s' a' p' k' n' h
  | ex c fs r' => rw [e] at h; exact h
  | st => rw [e] at h; exact h
theorem gs_for {b : Bool} (hp : PassesOwn (model X.prog X.w) X.A X.env X.xe) (hc : X.calm = true) (hi : GI X C tg iter fa mk b) (hg : GG X C tg t fg b) (hb : GSs X C body f)
    (hs : ∀ x, foldedSetIterable iter X.env x = pure x := by intro _; rfl) : GS X C (.For tg iter body [] pos) (fFor fa mk fg f) := by
  obtain ⟨w, hw, hi⟩ := hi
  refine weakS (ps_for hp hc hi hg hb hs) fun D σ H h => ?_
  obtain ⟨U, r, s, h⟩ := h
  refine tA_stmt (D := D) s h fun os r1 vs H1 U1 s1 a1 p1 k1 n1 q => ?_
  cases e1 : lockAll os r1 with
  | none => simp only [e1] at q; exact (show False from q).elim
  | some z =>
    obtain ⟨ss, r2, u⟩ := z
    simp only [e1] at q
    cases e2 : mk ss with
    | none => simp only [e2] at q; exact (show False from q).elim
    | some ds =>
      simp only [e2] at q
      obtain ⟨U2, s2, b2, w2, p2, o2, x2, nn, kb⟩ := lock_all s1 k1 e1
      have q2 : RS C U2 H1 σ r2 D (forL fg f ds r2) := RS.unlocked s2 o2 kb (RS.before q a1)
      refine hw vs H1 ss ds U2 _ _ x2 nn e2 fun J ⟨G, Y, wk, hG, hY⟩ => ?_
      refine for_it wk (fun i σ' H' => ∃ U' r', Sit C U' H' σ' r' ∧ Aft U2 H1 σ r2 U' H' σ' r' ∧ RS C U2 H1 σ r2 D (forL fg f (ds.drop i) r')) ⟨U2, r2, s2, Aft.refl, q2⟩ ?_ ?_ ?_
      · rintro i σ' H' _ ⟨U', r', s', a', _⟩
        exact hG U' _ H' (x2.mono (a'.mono s2) nn)
      · rintro i x σ' H' H'' hi ⟨U', r', s', a', q'⟩ y
        have hd : ds[i]? = some ds[i] := List.getElem?_eq_getElem hi
        obtain ⟨kp, xd⟩ := hY i H' x H'' ds[i] U' _ hd (x2.mono (a'.mono s2) nn) s'.wlv y
        obtain ⟨s3, a3⟩ := s'.ext (U' := U') kp (fun _ h => h) (fun _ h => .inl h) fun a h => (s'.uok a h).grow kp
        rw [List.drop_eq_getElem_cons hi] at q'
        refine ⟨U', r', ds[i], s3, xd, ?_⟩
        rw [forL] at q'
        cases e3 : fg ds[i] r' with
        | none => simp only [e3] at q'; exact (show False from q').elim
        | some r3 =>
          simp only [e3] at q'
          intro σ4 U4 s4 a4 _ _
          have a5 := (a'.trans a3).trans a4
          refine ⟨U4, r3, s4, ?_⟩
          cases e4 : f r3 with
          | nx r5 => simp only [e4] at q'; exact fun σ5 H5 U5 s5 a6 => ⟨U5, r5, s5, a5.trans a6, q'⟩
          | ct r5 => simp only [e4] at q'; exact fun σ5 H5 U5 s5 a6 => ⟨U5, r5, s5, a5.trans a6, q'⟩
          | bk r5 => simp only [e4] at q'; exact fun σ5 H5 U5 s5 a6 => q' σ5 H5 U5 s5 (a5.trans a6)
          | rt z r5 => simp only [e4] at q'; exact RS.before q' a5
          | ex c fs r5 => simp only [e4] at q'; exact XWant.before (show XWant C U2 H1 σ r2 c fs r5 from q') a5
          | st => simp only [e4] at q'; exact q'
      · rintro σ' H' ⟨U', r', s', a', q'⟩
        rw [List.drop_length] at q'
        exact q' σ' H' U' s' a'
end
end GB
namespace GB
open PySem PySem.Spec PyProof.Rows L2
def wipeR (r : Rho) : List Nat → Rho
  | [] => r
  | v :: vs => (wipeR r vs).set v none
def restR (r0 r : Rho) : List Nat → Rho
  | [] => r
  | v :: vs => (restR r0 r vs).set v (r0[v]?).join
/-- the block's own slots hold nothing that may be written -/
def softs (r : Rho) (vs : List Nat) : Bool := vs.all fun v => match r[v]? with
  | some none => true
  | some (some (.fz _)) => true
  | _ => false
def cmpL (fg : D → Rho → Option Rho) (ft : Rho → Rs Bool) (fe : Rho → Rs Opd) (vs : List Nat) : List D → Rho → List D → Rs (List D)
  | [], r, acc => .ok acc r
  | d :: ds, r, acc => match fg d r with
    | none => .st
    | some r1 => (match ft r1 with
      | .ok false r2 => cmpL fg ft fe vs ds (wipeR r2 vs) acc
      | .ok true r2 => (match fe r2 with
        | .ok o r3 => (match frz1 o r3 with
          | some (y, r4) => if acc.length < 16777216 then cmpL fg ft fe vs ds (wipeR r4 vs) (acc ++ [y]) else .st
          | none => .st)
        | _ => .st)
      | _ => .st)
def eLc (fa : Rho → Rs (List Opd)) (mk : List S → Option (List D)) (fg : D → Rho → Option Rho) (ft : Rho → Rs Bool) (fe : Rho → Rs Opd) (vs : List Nat) : Rho → Rs Opd := fun r => (fa r).bind fun os r1 => match lockAll os r1 with
  | some (ss, r2, u) => (match mk ss with
    | some ds => if softs r2 vs then
        (match cmpL fg ft fe vs ds (wipeR r2 vs) [] with | .ok acc r3 => .ok (.val (.ol acc)) (unlR u (restR r2 r3 vs)) | _ => .st)
        else .st
    | none => .st)
  | none => .st
section
variable {C : Ct} {U U' : Addr → Prop} {H H' : Hp} {σ σ' : St} {r r' : Rho}
theorem wipe_at {vs : List Nat} {j : Nat} : ∀ {σ : St}, j ∉ vs → (wipe σ vs)[j]? = σ[j]? := by
  induction vs with
  | nil => intro σ _; rfl
  | cons v vs ih =>
    intro σ h
    have h1 : v ≠ j := fun z => h (by simp [z])
    show ((wipe σ vs).set v none)[j]? = _
    rw [List.getElem?_set_ne h1]
    exact ih fun z => h (List.mem_cons_of_mem _ z)
theorem wipeR_at {vs : List Nat} {j : Nat} : ∀ {r : Rho}, j ∉ vs → (wipeR r vs)[j]? = r[j]? := by
  induction vs with
  | nil => intro σ _; rfl
  | cons v vs ih =>
    intro σ h
    have h1 : v ≠ j := fun z => h (by simp [z])
    show ((wipeR σ vs).set v none)[j]? = _
    rw [List.getElem?_set_ne h1]
    exact ih fun z => h (List.mem_cons_of_mem _ z)
theorem wipeR_len {vs : List Nat} {r : Rho} : (wipeR r vs).length = r.length := by
  induction vs with
  | nil => rfl
  | cons v vs ih => show ((wipeR r vs).set v none).length = _; rw [List.length_set, ih]
theorem wipeR_in {vs : List Nat} {j : Nat} {s : S} : ∀ {r : Rho}, (wipeR r vs)[j]? = some (some s) → j ∉ vs ∧ r[j]? = some (some s) := by
  induction vs with
  | nil => intro r h; exact ⟨by simp, h⟩
  | cons v vs ih =>
    intro r h
    rcases at_set (show ((wipeR r vs).set v none)[j]? = _ from h) with ⟨_, e⟩ | ⟨n, h⟩
    · cases e
    · obtain ⟨h1, h2⟩ := ih h
      exact ⟨fun z => (List.mem_cons.mp z).elim n h1, h2⟩
theorem restR_len {vs : List Nat} {r0 r : Rho} : (restR r0 r vs).length = r.length := by
  induction vs with
  | nil => rfl
  | cons v vs ih => show ((restR r0 r vs).set v _).length = _; rw [List.length_set, ih]
theorem restR_in {vs : List Nat} {j : Nat} {s : S} {r0 : Rho} : ∀ {r : Rho}, (restR r0 r vs)[j]? = some (some s) → (j ∈ vs ∧ r0[j]? = some (some s)) ∨ (j ∉ vs ∧ r[j]? = some (some s)) := by
  induction vs with
  | nil => intro r h; exact .inr ⟨by simp, h⟩
  | cons v vs ih =>
    intro r h
    rcases at_set (show ((restR r0 r vs).set v (r0[v]?).join)[j]? = _ from h) with ⟨rfl, e⟩ | ⟨n, h⟩
    · refine .inl ⟨by simp, ?_⟩
      cases q : r0[j]? with
      | none => rw [q] at e; cases e
      | some x => rw [q] at e; rw [e]; rfl
    · rcases ih h with ⟨h1, h2⟩ | ⟨h1, h2⟩
      · exact .inl ⟨List.mem_cons_of_mem _ h1, h2⟩
      · exact .inr ⟨fun z => (List.mem_cons.mp z).elim n h1, h2⟩
theorem restR_at {vs : List Nat} {j : Nat} {r0 : Rho} : ∀ {r : Rho}, j ∉ vs → (restR r0 r vs)[j]? = r[j]? := by
  induction vs with
  | nil => intro r _; rfl
  | cons v vs ih =>
    intro r h
    have h1 : v ≠ j := fun z => h (by simp [z])
    show ((restR r0 r vs).set v _)[j]? = _
    rw [List.getElem?_set_ne h1]
    exact ih fun z => h (List.mem_cons_of_mem _ z)
theorem restR_self {vs : List Nat} {j : Nat} {r0 : Rho} : ∀ {r : Rho}, j ∈ vs → j < r.length → (restR r0 r vs)[j]? = some (r0[j]?).join := by
  induction vs with
  | nil => intro r h; simp at h
  | cons v vs ih =>
    intro r h hl
    show ((restR r0 r vs).set v _)[j]? = _
    by_cases z : v = j
    · subst z; rw [List.getElem?_set_self (by rw [restR_len]; exact hl)]
    · rw [List.getElem?_set_ne z]
      exact ih ((List.mem_cons.mp h).resolve_left fun q => z q.symm) hl
theorem wipe_len' {vs : List Nat} {σ : St} : (wipe σ vs).length = σ.length := wipe_length σ vs
/-- the block's own slots are emptied -/
theorem Sit.wiped {vs : List Nat} (s : Sit C U H σ r) : Sit C U H (wipe σ vs) (wipeR r vs) ∧ (∀ a, Own (wipe σ vs) (wipeR r vs) a → Own σ r a) := by
  have own' : ∀ a, Own (wipe σ vs) (wipeR r vs) a → Own σ r a := fun a ⟨j, t, h1, h2, h3⟩ => by
    obtain ⟨n, h1⟩ := wipeR_in h1
    rw [wipe_at n] at h3
    exact ⟨j, t, h1, h2, h3⟩
  have wsub : ∀ a, Wn U (wipe σ vs) (wipeR r vs) a → Wn U σ r a := fun a h => h.elim (fun z => .inl (own' a z)) .inr
  refine ⟨⟨by rw [wipe_len', wipeR_len]; exact s.len, fun j t h => ?_, fun i j t u v h1 q1 h2 q2 e1 e2 => ?_, fun a h => s.dis a (own' a h), s.uok⟩, own'⟩
  · obtain ⟨n, h⟩ := wipeR_in h
    obtain ⟨v, e, x⟩ := s.rep j t h
    exact ⟨v, by rw [wipe_at n]; exact e, x.less wsub fun p z1 z2 => x.lkLv z1 z2⟩
  · obtain ⟨n1, h1⟩ := wipeR_in h1
    obtain ⟨n2, h2⟩ := wipeR_in h2
    rw [wipe_at n1] at e1
    rw [wipe_at n2] at e2
    exact s.inj i j t u v h1 q1 h2 q2 e1 e2
theorem softs_at {vs : List Nat} (h : softs r vs = true) {j : Nat} (hj : j ∈ vs) {s : S} (e : r[j]? = some (some s)) : ∃ d, s = .fz d := by
  have := List.all_eq_true.mp h j hj
  rw [e] at this
  cases s with
  | fz d => exact ⟨d, rfl⟩
  | _ => cases this
/-- into the block -/
theorem Aft.wiped0 {vs : List Nat} (h : softs r vs = true) : Aft U H σ r U H (wipe σ vs) (wipeR r vs) := by
  refine ⟨fun _ h => h, fun _ h => .inl h, fun a ⟨j, t, h1, h2, h3⟩ => ?_, fun a o h _ => h, fun a o h => ⟨o, h⟩, fun i s h1 h2 => ?_, fun i s h1 h2 => ?_⟩
  · obtain ⟨n, h1⟩ := wipeR_in h1
    rw [wipe_at n] at h3
    exact .inl ⟨j, t, h1, h2, h3⟩
  · have n : i ∉ vs := fun z => by
      obtain ⟨d, rfl⟩ := softs_at h z h1
      cases h2
    exact ⟨s, by rw [wipeR_at n]; exact h1, Sl.refl s, wipe_at n⟩
  · obtain ⟨n, h1⟩ := wipeR_in h1
    exact ⟨h1, wipe_at n⟩
/-- a turn's end -/
theorem Aft.wiped {vs : List Nat} (h : softs r vs = true) (a : Aft U H σ r U' H' σ' r') : Aft U H σ r U' H' (wipe σ' vs) (wipeR r' vs) := by
  refine ⟨a.sub, a.new, fun b ⟨j, t, h1, h2, h3⟩ => ?_, a.keep, a.there, fun i s h1 h2 => ?_, fun i s h1 h2 => ?_⟩
  · obtain ⟨n, h1⟩ := wipeR_in h1
    rw [wipe_at n] at h3
    exact a.grow b ⟨j, t, h1, h2, h3⟩
  · have n : i ∉ vs := fun z => by
      obtain ⟨d, rfl⟩ := softs_at h z h1
      cases h2
    obtain ⟨s', g1, g2, g3⟩ := a.pin i s h1 h2
    exact ⟨s', by rw [wipeR_at n]; exact g1, g2, by rw [wipe_at n]; exact g3⟩
  · obtain ⟨n, h1⟩ := wipeR_in h1
    obtain ⟨g1, g2⟩ := a.lok i s h1 h2
    exact ⟨g1, by rw [wipe_at n]; exact g2⟩
/-- out of the block: what its slots held ahead of it -/
theorem Sit.rested {vs : List Nat} (s0 : Sit C U H σ r) (h : softs r vs = true) (s : Sit C U' H' (wipe σ vs) r') (a : Aft U H σ r U' H' (wipe σ vs) r') (hw : ∀ j ∈ vs, ∀ t, r'[j]? ≠ some (some t)) (hp : Per (wipeR r vs) r') :
    Sit C U' H' σ (restR r r' vs) ∧ Aft U H σ r U' H' σ (restR r r' vs) ∧ Per r (restR r r' vs) ∧ (∀ b, Wn U' σ (restR r r' vs) b → Wn U' (wipe σ vs) r' b) := by
  have own' : ∀ b, Own σ (restR r r' vs) b → Own (wipe σ vs) r' b := fun b ⟨j, t, h1, h2, h3⟩ => by
    rcases restR_in h1 with ⟨m, h1⟩ | ⟨n, h1⟩
    · obtain ⟨d, rfl⟩ := softs_at h m h1
      cases h2
    · exact ⟨j, t, h1, h2, by rw [wipe_at n]; exact h3⟩
  have wsub : ∀ b, Wn U' σ (restR r r' vs) b → Wn U' (wipe σ vs) r' b := fun b z => z.elim (fun z => .inl (own' b z)) .inr
  have hl : σ.length = r'.length := by rw [← s.len, wipe_len']
  refine ⟨⟨by rw [restR_len]; exact hl, fun j t h1 => ?_, fun i j t u v h1 q1 h2 q2 e1 e2 => ?_, fun b z => s.dis b (own' b z), s.uok⟩, ⟨a.sub, a.new, fun b z => a.grow b (own' b z), a.keep, a.there, fun i t h1 h2 => ?_, fun i t h1 h2 => ?_⟩, fun j t h1 => ?_, wsub⟩
  · rcases restR_in h1 with ⟨m, h1⟩ | ⟨n, h1⟩
    · obtain ⟨v, e, x⟩ := s0.rep j t h1
      obtain ⟨d, rfl⟩ := softs_at h m h1
      exact ⟨v, e, (x.mono (a.mono s0) fun _ _ z => by cases z).less wsub fun p z => by cases z⟩
    · obtain ⟨v, e, x⟩ := s.rep j t h1
      rw [wipe_at n] at e
      exact ⟨v, e, x.less wsub fun p z1 z2 => x.lkLv z1 z2⟩
  · rcases restR_in h1 with ⟨m, h1⟩ | ⟨n1, h1⟩
    · obtain ⟨d, rfl⟩ := softs_at h m h1; cases q1
    rcases restR_in h2 with ⟨m, h2⟩ | ⟨n2, h2⟩
    · obtain ⟨d, rfl⟩ := softs_at h m h2; cases q2
    exact s.inj i j t u v h1 q1 h2 q2 (by rw [wipe_at n1]; exact e1) (by rw [wipe_at n2]; exact e2)
  · have n : i ∉ vs := fun z => by
      obtain ⟨d, rfl⟩ := softs_at h z h1
      cases h2
    obtain ⟨s', g1, g2, g3⟩ := a.pin i t h1 h2
    exact ⟨s', by rw [restR_at n]; exact g1, g2, rfl⟩
  · rcases restR_in h1 with ⟨m, h1⟩ | ⟨n, h1⟩
    · obtain ⟨d, rfl⟩ := softs_at h m h1; cases h2
    · obtain ⟨g1, g2⟩ := a.lok i t h1 h2
      exact ⟨g1, rfl⟩
  · by_cases m : j ∈ vs
    · exact ⟨t, by rw [restR_self m (by rw [← hl, s0.len]; exact lt_of_at h1), h1]; rfl⟩
    · obtain ⟨t', q⟩ := hp j t (by rw [wipeR_at m]; exact h1)
      exact ⟨t', by rw [restR_at m]; exact q⟩
/-- an object of the others' is written: nobody sees it -/
theorem Sit.poke {p : Addr} {o : HO} (s0 : Sit C U H σ r) (s : Sit C U' H' σ' r') (a : Aft U H σ r U' H' σ' r') (hp : H p = none) (up : U' p) (ho : ∃ xs, o = .lst xs) :
    Sit C U' (upd H' p o) σ' r' ∧ Aft U H σ r U' (upd H' p o) σ' r' ∧ (∀ {vs : List V} {ds : List D}, Rps C.K (Wn U' σ' r') H' vs ds → Rps C.K (Wn U' σ' r') (upd H' p o) vs ds) := by
  obtain ⟨xs, rfl⟩ := ho
  have m : Mono (fun _ => False) (Wn U' σ' r') H' (fun _ => False) (Wn U' σ' r') (upd H' p (.lst xs)) :=
    ⟨s.wlv, fun b o n h => by rw [upd_ne (fun z => n (by rw [z]; exact .inr up))]; exact h, fun b o n _ => n, fun _ _ z => z.elim, fun _ z => z.elim⟩
  have keep : ∀ b o, b ≠ p → H' b = some o → upd H' p (.lst xs) b = some o := fun b o n h => by rw [upd_ne n]; exact h
  refine ⟨⟨s.len, fun j t h => ?_, s.inj, s.dis, fun b h => ?_⟩, ⟨a.sub, a.new, a.grow, fun b o h n => keep b o (fun z => by rw [z, hp] at h; cases h) (a.keep b o h n), fun b o h => ?_, a.pin, a.lok⟩, fun x => x.mono m⟩
  · obtain ⟨v, e, x⟩ := s.rep j t h
    refine ⟨v, e, ?_⟩
    have own : ∀ b, t.own = true → v = .ref b → b ≠ p := fun b z1 z2 z => by subst z; exact s.dis b ⟨j, t, h, z1, by rw [e, z2]⟩ up
    have lk : ∀ b, t.lkd = true → v = .ref b → b ≠ p := fun b z1 z2 z => by
      subst z
      obtain ⟨g1, g2⟩ := a.lok j t h z1
      obtain ⟨w, e', y⟩ := s0.rep j t g1
      rw [← g2, e] at e'; cases e'
      exact (s0.uok b (y.lkLv z1 z2)).ne hp
    cases x with
    | fz x => exact .fz (x.mono m)
    | ol e1 x => exact .ol (keep _ _ (own _ rfl rfl) e1) (x.mono m)
    | br e1 x => exact .br (keep _ _ (own _ rfl rfl) e1) (x.mono m)
    | lk e1 u x => exact .lk (keep _ _ (lk _ rfl rfl) e1) u (x.mono m)
    | od e1 x => exact .od (keep _ _ (own _ rfl rfl) e1) (x.mono m)
    | bd e1 x => exact .bd (keep _ _ (own _ rfl rfl) e1) (x.mono m)
    | kd e1 x => exact .kd (e1.to fun o h => keep _ _ (fun z => by subst z; exact (s.uok _ up).fzn h) h) (x.mono m)
    | exc e1 x => exact .exc (keep _ _ (fun z => by subst z; exact (s.uok _ up).xd e1) e1) (x.mono m)
    | nd x => exact .nd (x.mono m)
    | nh e1 x => exact .nh (e1.to fun o u h => keep _ _ (fun z => by subst z; exact (s.uok _ up).fzn h) h) (x.mono m)
    | ot e1 x => exact .ot (keep _ _ (own _ rfl rfl) e1) (x.mono m)
    | kt e1 x => exact .kt (e1.to fun o h => keep _ _ (fun z => by subst z; exact (s.uok _ up).fzn h) h) (x.mono m)
    | ky e1 => exact .ky (e1.to m.tup)
  · by_cases z : b = p
    · subst z; exact .inl ⟨xs, upd_same⟩
    · rcases s.uok b h with ⟨y, l⟩ | ⟨y, l⟩ | ⟨y, l⟩
      · exact .inl ⟨y, keep _ _ z l⟩
      · exact .inr (.inl ⟨y, keep _ _ z l⟩)
      · exact .inr (.inr ⟨y, keep _ _ z l⟩)
  · by_cases z : b = p
    · subst z; exact ⟨_, upd_same⟩
    · obtain ⟨o', h'⟩ := a.there b o h
      exact ⟨o', keep _ _ z h'⟩
theorem Sit.cast {C' : Ct} (h : C.K = C'.K) (s : Sit C U H σ r) : Sit C' U H σ r := ⟨s.len, fun i t e => by rw [← h]; exact s.rep i t e, s.inj, s.dis, s.uok⟩
end
end GB
namespace GB
open PySem PySem.Spec PyProof.Rows L2
/-- within a comprehension nothing is raised -/
def Ct.quiet (C : Ct) : Ct := { C with W := fun _ _ _ _ => False }
abbrev GTs (X : Cx) (C : Ct) (ifs : List Expr) (f : Rho → Rs Bool) : Prop := PTs X ifs (tT C f)
def eYes : Rho → Rs Bool := fun r => .ok true r
section
variable {X : Cx} {C : Ct} {e : Expr}
theorem weakTs {ifs : List Expr} {t t' : TT} (h : PTs X ifs t) (k : ∀ σ H Q, t' σ H Q → t σ H Q) : PTs X ifs t' := ⟨fun pins s σ H Q I q => h.run pins s σ H Q I (k σ H Q q)⟩
theorem gts_nil : GTs X C [] eYes := weakTs pts_nil fun σ H Q ⟨U, r, s, h⟩ => h H U s Aft.refl Per.refl
theorem gts_one {c : Expr} {f : Rho → Rs Bool} (h : GT X C c f) : GTs X C [c] f := pts_one h
theorem lc_reading {fa : Rho → Rs (List Opd)} {mk : List S → Option (List D)} {fg : D → Rho → Option Rho} {ft : Rho → Rs Bool} {fe : Rho → Rs Opd} {vs tg : List Nat} {w : List V → Hp → (It → Hp → Prop) → Prop} {bb : Bool} (hw : IterOk C w mk bb) (ht : ∀ j ∈ tg, j ∈ vs)
    {σ : St} {H : Hp} {Q : VK} (h : tE C (eLc fa mk fg ft fe vs) σ H Q) :
    tLc (fun σ H R => tA C fa σ H fun vs H1 => w vs H1 R) (tG C.quiet tg fg bb) (tT C.quiet ft) (tE C.quiet fe) vs σ H Q := by
  obtain ⟨U, r, s, h⟩ := h
  refine tA_then (R := RE C U H σ r Q) s h id (fun _ _ _ z => z) ?_
  intro os r1 zs H1 U1 s1 a1 p1 k1 n1 h1
  cases e1 : lockAll os r1 with
  | none => simp only [e1] at h1; exact (show False from h1).elim
  | some z =>
  obtain ⟨ss, r2, u⟩ := z
  simp only [e1] at h1
  cases e2 : mk ss with
  | none => simp only [e2] at h1; exact (show False from h1).elim
  | some ds =>
  simp only [e2] at h1
  by_cases hsf : softs r2 vs = true
  case neg => rw [if_neg hsf] at h1; exact (show False from h1).elim
  rw [if_pos hsf] at h1
  cases e3 : cmpL fg ft fe vs ds (wipeR r2 vs) [] with
  | st => simp only [e3] at h1; exact (show False from h1).elim
  | ex c fs r' => simp only [e3] at h1; exact (show False from h1).elim
  | ok acc rF =>
  simp only [e3] at h1
  obtain ⟨U2, s2, b2, w2, p2, o2, x2, nn, kb⟩ := lock_all s1 k1 e1
  refine hw zs H1 ss ds U2 _ _ x2 nn e2 fun J ⟨G, Y, wk, hG, hY⟩ => ?_
  intro D hD
  -- a turn's state
  let Pv : Nat → Hp → Prop := fun i H' => ∃ U' r' acc' xs, Sit C U' H' (wipe σ vs) r' ∧ Aft U2 H1 σ r2 U' H' (wipe σ vs) r' ∧ Per (wipeR r2 vs) r' ∧ (∀ j ∈ vs, ∀ t, r'[j]? ≠ some (some t)) ∧
    U' D ∧ H' D = some (.lst xs) ∧ Rps C.K (Wn U' (wipe σ vs) r') H' xs acc' ∧ cmpL fg ft fe vs (ds.drop i) r' acc' = .ok acc rF
  refine lc_it wk Pv ?_ ?_ ?_ ?_
  · obtain ⟨sw, _⟩ := s2.wiped (vs := vs)
    obtain ⟨s3, a3⟩ := own_set hD sw (upd_keep hD) (.inl ⟨[], upd_same⟩)
    refine ⟨_, _, [], [], s3, (Aft.wiped0 hsf).trans a3, Per.refl, fun j hj t z => (wipeR_in z).1 hj, .inr rfl, upd_same, .nil, e3⟩
  · rintro i H' _ ⟨U', r', acc', xs, s', a', _⟩
    exact hG U' _ H' (x2.mono (a'.mono s2) nn)
  · rintro i x H' H'' hi ⟨U', r', acc', xs, s', a', pe', hw', uD, eD, xD, ec⟩ y
    have hd : ds[i]? = some ds[i] := List.getElem?_eq_getElem hi
    obtain ⟨kp, xd⟩ := hY i H' x H'' ds[i] U' _ hd (x2.mono (a'.mono s2) nn) s'.wlv y
    obtain ⟨s3, a3⟩ := s'.ext (U' := U') kp (fun _ h => h) (fun _ h => .inl h) fun a h => (s'.uok a h).grow kp
    rw [List.drop_eq_getElem_cons hi, cmpL] at ec
    refine ⟨U', r', ds[i], (Sit.cast (C := C) (C' := C.quiet) rfl s3), xd, ?_⟩
    cases e4 : fg ds[i] r' with
    | none => simp only [e4] at ec; cases ec
    | some r3 =>
    simp only [e4] at ec
    intro σ4 U4 s4 a4 ⟨p4, l4⟩ o4
    have weq : wipe σ4 vs = wipe σ vs := by
      apply List.ext_getElem?
      intro j
      by_cases hj : j ∈ vs
      · have : ∀ σ : St, j < σ.length → (wipe σ vs)[j]? = some none := fun σ hl => by
          have key : ∀ (us : List Nat), j ∈ us → (wipe σ us)[j]? = some none := by
            intro us
            induction us with
            | nil => intro h; simp at h
            | cons v us ih =>
              intro h
              show ((wipe σ us).set v none)[j]? = _
              by_cases z : v = j
              · subst z; rw [List.getElem?_set_self (by rw [wipe_len']; exact hl)]
              · rw [List.getElem?_set_ne z]; exact ih ((List.mem_cons.mp h).resolve_left fun q => z q.symm)
          exact key vs hj
        by_cases hl : j < σ.length
        · rw [this σ hl, this σ4 (by rw [l4, wipe_len']; exact hl)]
        · rw [List.getElem?_eq_none (by rw [wipe_len', l4, wipe_len']; omega), List.getElem?_eq_none (by rw [wipe_len']; omega)]
      · rw [wipe_at hj, o4 j fun z => hj (ht j z)]
    refine ⟨weq, U4, r3, s4, ?_⟩
    have a5 : Aft U2 H1 σ r2 U4 H'' σ4 r3 := (a'.trans a3).trans a4
    have uD4 : U4 D := a4.sub D uD
    have xD4 : Rps C.K (Wn U4 σ4 r3) H'' xs acc' := (xD.mono (a3.mono s')).mono (a4.mono (Sit.cast (C := C) (C' := C.quiet) rfl s3))
    have turn : ∀ {r5 : Rho} {H5 : Hp} {U5 : Addr → Prop} {acc5 : List GB.D} {xs5 : List V}, Sit C U5 H5 σ4 r5 → Aft U2 H1 σ r2 U5 H5 σ4 r5 → Per r3 r5 → U5 D → H5 D = some (.lst xs5) → Rps C.K (Wn U5 σ4 r5) H5 xs5 acc5 →
        cmpL fg ft fe vs (ds.drop (i + 1)) (wipeR r5 vs) acc5 = .ok acc rF → Pv (i + 1) H5 := fun {r5 H5 U5 acc5 xs5} s5 a5 p5 u5 e5 x5 c5 => by
      obtain ⟨sw, ow⟩ := s5.wiped (vs := vs)
      have aw := Aft.wiped hsf a5
      have wsub : ∀ a, Wn U5 (wipe σ4 vs) (wipeR r5 vs) a → Wn U5 σ4 r5 a := fun a z => z.elim (fun z => .inl (ow a z)) .inr
      rw [weq] at sw aw wsub
      refine ⟨U5, _, acc5, xs5, sw, aw, fun j t hj => ?_, fun j hj t z => (wipeR_in z).1 hj, u5, e5, x5.less wsub, c5⟩
      obtain ⟨n, _⟩ := wipeR_in hj
      obtain ⟨t', q⟩ := pe' j t hj
      obtain ⟨t', q⟩ := p4 j t' q
      obtain ⟨t', q⟩ := p5 j t' q
      exact ⟨t', by rw [wipeR_at n]; exact q⟩
    cases e5 : ft r3 with
    | st => simp only [e5] at ec; cases ec
    | ex c fs r' => simp only [e5] at ec; cases ec
    | ok b r5 =>
    simp only [e5] at ec
    intro H6 U6 s6 a6 p6
    have s6' : Sit C U6 H6 σ4 r5 := Sit.cast (C := C.quiet) (C' := C) rfl s6
    have s4' : Sit C U4 H'' σ4 r3 := Sit.cast (C := C.quiet) (C' := C) rfl s4
    have kD : ∀ {U7 : Addr → Prop} {H7 : Hp} {σ7 : St} {r7 : Rho} {xs : List V}, H'' D = some (.lst xs) → Aft U4 H'' σ4 r3 U7 H7 σ7 r7 → H7 D = some (.lst xs) := fun h a => a.keep D _ h fun z => s4.dis D z uD4
    have eD'' : H'' D = some (.lst xs) := kp D _ eD
    cases b with
    | false =>
      simp only [] at ec
      rw [if_neg Bool.false_ne_true]
      exact turn s6' (a5.trans a6) p6 (a6.sub D uD4) (kD eD'' a6) (xD4.mono (a6.mono s4')) ec
    | true =>
      simp only [] at ec
      rw [if_pos rfl]
      refine ⟨U6, r5, s6, ?_⟩
      cases e6 : fe r5 with
      | st => simp only [e6] at ec; cases ec
      | ex c fs r' => simp only [e6] at ec; cases ec
      | ok o r6 =>
      simp only [e6] at ec
      intro yv H7 U7 s7 a7 p7 k7 n7
      have s7' : Sit C U7 H7 σ4 r6 := Sit.cast (C := C.quiet) (C' := C) rfl s7
      have k7' : OpOk C U7 H7 σ4 r6 o yv := k7
      obtain ⟨U8, s8, a8, u8, k8⟩ := op1_drop s6' s7' a7 k7' n7
      cases e7 : frz1 o r6 with
      | none => simp only [e7] at ec; cases ec
      | some z =>
      obtain ⟨y, r8⟩ := z
      simp only [e7] at ec
      by_cases hz : acc'.length < 16777216
      case neg => rw [if_neg hz] at ec; cases ec
      rw [if_pos hz] at ec
      obtain ⟨s9, a9, p9, x9⟩ := frz1_ok s8 k8 e7
      have a10 : Aft U4 H'' σ4 r3 U8 H7 σ4 r8 := (a6.trans a8).trans a9
      have uD8 : U8 D := a10.sub D uD4
      have eD7 : H7 D = some (.lst xs) := kD eD'' a10
      have xD9 : Rps C.K (Wn U8 σ4 r8) H7 xs acc' := xD4.mono (a10.mono s4')
      refine ⟨xs, eD7, by rw [sizeLine_eq, xD9.len]; exact hz, ?_⟩
      obtain ⟨s11, a11, carry⟩ := s2.poke s9 (a5.trans a10) hD uD8 ⟨xs ++ [yv], rfl⟩
      have app : ∀ {xs : List V} {ds : List GB.D}, Rps C.K (Wn U8 σ4 r8) H7 xs ds → Rps C.K (Wn U8 σ4 r8) H7 (xs ++ [yv]) (ds ++ [y]) := by
        intro xs ds q
        induction xs generalizing ds with
        | nil => cases q; exact .cons x9 .nil
        | cons a xs ih => cases q with | cons q1 q2 => exact .cons q1 (ih q2)
      exact turn s11 a11 ((p6.trans p7).trans p9) uD8 upd_same (carry (app xD9)) ec
  · rintro H' ⟨U', r', acc', xs, s', a', pe', hw', uD, eD, xD, ec⟩
    rw [List.drop_length, cmpL] at ec
    cases ec
    obtain ⟨s3, a3, p3, w3⟩ := s2.rested hsf s' a' hw' pe'
    obtain ⟨U4, s4, a4, w4, m4⟩ := kb U' H' σ _ s3 a3
    have nD : ¬ U2 D := fun z => (s2.uok D z).ne hD
    refine h1 (.ref D) H' U4 s4 (a1.trans a4) ?_ ⟨.ol eD ((xD.less w3).less w4), fun p _ z => ?_, rfl⟩ fun t p z1 z2 z3 => ?_
    · intro j t hj
      obtain ⟨t', q⟩ := p1 j t hj
      obtain ⟨t', q⟩ := p2 j t' q
      obtain ⟨t', q⟩ := p3 j t' q
      have key : ∀ (u : List (Nat × S)) (r : Rho) (t : S), r[j]? = some (some t) → ∃ t', (unlR u r)[j]? = some (some t') := by
        intro u
        induction u with
        | nil => exact fun r t h => ⟨t, h⟩
        | cons q u ih =>
          intro r t h
          obtain ⟨k, s⟩ := q
          obtain ⟨t', h'⟩ := ih r t h
          show ∃ t', ((unlR u r).set k (some s))[j]? = some (some t')
          by_cases z : k = j
          · subst z; exact ⟨s, List.getElem?_set_self (lt_of_at h')⟩
          · exact ⟨t', by rw [List.getElem?_set_ne z]; exact h'⟩
      exact key u _ t' q
    · cases z
      exact (m4 D uD).resolve_right nD
    · cases z3; exact a1.back hD
theorem ge_lc {b : Bool} {elt tgt iter : Expr} {ifs : List Expr} {scope : Scope} {own : List (Str × Nat)} {pos : Pos} {fa : Rho → Rs (List Opd)} {mk : List S → Option (List D)} {fg : D → Rho → Option Rho} {ft : Rho → Rs Bool} {fe : Rho → Rs Opd} {tg : List Nat} (hc : X.calm = true) (hN : X.N.Nodup) (hi : GI X C tgt iter fa mk b) (ok : BlkOk X.N X.env.scope scope own)
    (ht : ∀ j ∈ tg, j ∈ own.map (·.2))
    (hg : ∀ (s : Shared) (H : Hp) (c : Addr) (cl : List (Str × Addr)) (fp : List Addr), GG (X.blk s H scope (compEnvC scope cl c X.env) fp) C.quiet tgt tg fg b) (hft : ∀ (s : Shared) (H : Hp) (c : Addr) (cl : List (Str × Addr)) (fp : List Addr), GTs (X.blk s H scope (compEnvC scope cl c X.env) fp) C.quiet ifs ft)
    (he : ∀ (s : Shared) (H : Hp) (c : Addr) (cl : List (Str × Addr)) (fp : List Addr), GE (X.blk s H scope (compEnvC scope cl c X.env) fp) C.quiet elt fe) (hs : ∀ x, foldedSetIterable iter X.env x = pure x := by intro _; rfl) :
    GE X C (.ListComp elt [⟨tgt, iter, ifs, 0⟩] scope pos) (eLc fa mk fg ft fe (own.map (·.2))) := by
  obtain ⟨w, hw, hi⟩ := hi
  exact weakE (pe_lc hc hN hi ok hg hft he hs) fun σ H Q h => lc_reading hw ht h
theorem gs_setLc {b : Bool} {i : Nat} {y : Str} {py : Pos} {elt tgt iter : Expr} {ifs : List Expr} {scope : Scope} {own : List (Str × Nat)} {pos spos : Pos} {fa : Rho → Rs (List Opd)} {mk : List S → Option (List D)} {fg : D → Rho → Option Rho} {ft : Rho → Rs Bool} {fe : Rho → Rs Opd} {tg : List Nat} (hc : X.calm = true) (hN : X.N.Nodup)
    (hy : X.N[i]? = some y) (hyl : X.env.scope.names.lookup y = some .local) (hsw : swapsWith (.ListComp elt [⟨tgt, iter, ifs, 0⟩] scope pos) (some (.Name y py)) spos.line X.env = pure true) (hi : GI X C tgt iter fa mk b) (ok : BlkOk X.N X.env.scope scope own)
    (ht : ∀ j ∈ tg, j ∈ own.map (·.2))
    (hg : ∀ (s : Shared) (H : Hp) (c : Addr) (cl : List (Str × Addr)) (fp : List Addr), GG (X.blk s H scope (compEnvC scope cl c X.env) fp) C.quiet tgt tg fg b) (hft : ∀ (s : Shared) (H : Hp) (c : Addr) (cl : List (Str × Addr)) (fp : List Addr), GTs (X.blk s H scope (compEnvC scope cl c X.env) fp) C.quiet ifs ft)
    (he : ∀ (s : Shared) (H : Hp) (c : Addr) (cl : List (Str × Addr)) (fp : List Addr), GE (X.blk s H scope (compEnvC scope cl c X.env) fp) C.quiet elt fe) (hs : ∀ x, foldedSetIterable iter X.env x = pure x := by intro _; rfl) :
    GS X C (.Assign [.Name y py] (.ListComp elt [⟨tgt, iter, ifs, 0⟩] scope pos) spos) (fSet i (eLc fa mk fg ft fe (own.map (·.2)))) := by
  obtain ⟨w, hw, hi⟩ := hi
  refine weakS (ps_setLc hc hN hy hyl hsw hi ok hg hft he hs) fun D σ H h => ?_
  obtain ⟨U, r, s, h⟩ := h
  exact lc_reading hw ht (tE_stmt (k := putS i) s h fun o r' v H' U' s' a' p' k' n' q => put_ok s s' a' k' n' q)
end
end GB
namespace GB
open PySem PySem.Spec PyProof.Rows L2
section
variable {X : Cx} {C : Ct} {a b c e : Expr} {es : List Expr} {fa fb fc fe fo : Rho → Rs Opd} {ft gt : Rho → Rs Bool} {pos : Pos}
/-- the first of two that goes -/
def eAlt (f g : Rho → Rs Opd) : Rho → Rs Opd := fun r => match f r with
  | .st => g r
  | z => z
theorem ge_alt {f g : Rho → Rs Opd} (h : GE X C e f) (h' : GE X C e g) : GE X C e (eAlt f g) := by
  refine weakE (orE h h') fun σ H Q q => ?_
  obtain ⟨U, r, s, q⟩ := q
  unfold eAlt at q
  cases e1 : f r with
  | st => rw [e1] at q; exact .inr ⟨U, r, s, q⟩
  | ok o r' => rw [e1] at q; exact .inl ⟨U, r, s, by rw [e1]; exact q⟩
  | ex c fs r' => rw [e1] at q; exact .inl ⟨U, r, s, by rw [e1]; exact q⟩
def eIf (ft : Rho → Rs Bool) (fa fb : Rho → Rs Opd) : Rho → Rs Opd := fun r => (ft r).bind fun b r1 => if b then fa r1 else fb r1
theorem ge_if (hc : GT X C c ft) (ha : GE X C a fa) (hb : GE X C b fb) : GE X C (.IfExp c a b pos) (eIf ft fa fb) := by
  refine weakE (pe_ifExp hc ha hb) fun σ H Q h => ?_
  obtain ⟨U, r, s, h⟩ := h
  refine tT_then (R := RE C U H σ r Q) s h id (fun _ _ _ z => z) fun b r1 H1 U1 s1 a1 p1 h1 => ?_
  cases b with
  | true => exact ⟨U1, r1, s1, RE.before h1 a1 p1⟩
  | false => exact ⟨U1, r1, s1, RE.before h1 a1 p1⟩
def blOf (o : Opd) (r : Rho) : Option Bool := match res r o with
  | some (.fz (.bl b)) => some b
  | _ => none
def eAnd (fa fb : Rho → Rs Opd) : Rho → Rs Opd := fun r => (fa r).bind fun o r1 => match blOf o r1 with
  | some true => fb r1
  | some false => .ok (.val (.fz (.bl false))) r1
  | none => .st
def eOr (fa fb : Rho → Rs Opd) : Rho → Rs Opd := fun r => (fa r).bind fun o r1 => match blOf o r1 with
  | some true => .ok (.val (.fz (.bl true))) r1
  | some false => fb r1
  | none => .st
def eNot (fa : Rho → Rs Opd) : Rho → Rs Opd := fun r => (fa r).bind fun o r1 => match blOf o r1 with
  | some b => .ok (.val (.fz (.bl (!b)))) r1
  | none => .st
theorem bl_ok {U : Addr → Prop} {H : Hp} {σ : St} {r : Rho} {k : Bool} : OpOk C U H σ r (.val (.fz (.bl k))) (.bl k) := ⟨.fz (.bl k), fun p z => (nomatch z), rfl⟩
theorem bl_new {H : Hp} {d : D} {v : V} : New H (.val (.fz d)) v := fun _ _ z q _ => by cases z; cases q
/-- one operand and a word's function -/
theorem ge_un {rr : V → Hp → VK → Prop} {p : Pr} (hp : PN C (fun vs H Q => ∃ x, vs = [x] ∧ rr x H Q) p) (h : PE X e (tUn rr (tE C fa))) : GE X C e (eCall p (eCons fa eNil)) := by
  refine weakE h fun σ H Q h => ?_
  obtain ⟨U, r, s, h⟩ := h
  refine tE_then (g := fun o r1 => eP p [o] r1) (R := RE C U H σ r Q) s ?_ id (fun _ _ _ z => z) ?_
  · refine cast ?_ h
    unfold eCall eCons eNil Rs.bind
    cases fa r <;> rfl
  intro o r1 v H1 U1 s1 a1 p1 k1 n1 h1
  obtain ⟨x, e, q⟩ := eP_fin hp s1 a1 p1 (.cons k1 .nil) h1
  cases e
  exact q
/-- a op b op c -/
def eChain (p p' : Pr) (fa fb fc : Rho → Rs Opd) : Rho → Rs Opd := fun r => (fa r).bind fun o1 r1 => (fb r1).bind fun o2 r2 => (eP p [o1, o2] r2).bind fun o3 r3 => match o3 with
  | .val (.fz (.bl true)) => (fc r3).bind fun o4 r4 => eP p' [o2, o4] r4
  | .val (.fz (.bl false)) => .ok (.val (.fz (.bl false))) r3
  | _ => .st
theorem chain_reading {rr rr' : R2} {p p' : Pr} (hp : PN C (fun vs H Q => ∃ x y, vs = [x, y] ∧ rr x y H Q) p) (hp' : PN C (fun vs H Q => ∃ x y, vs = [x, y] ∧ rr' x y H Q) p') {σ : St} {H : Hp} {Q : VK} (h : tE C (eChain p p' fa fb fc) σ H Q) : tChain rr rr' (tE C fa) (tE C fb) (tE C fc) σ H Q := by
  obtain ⟨U, r, s, h⟩ := h
  refine tE_then (R := RE C U H σ r Q) s h id (fun _ _ _ z => z) fun o r1 v H1 U1 s1 a1 p1 k1 n1 h1 => ?_
  refine tE_then (R := RE C U H σ r Q) s1 h1 id (fun _ _ _ z => XWant.before z a1) fun o2 r2 v2 H2 U2 s2 a2 p2 k2 n2 h2 => ?_
  obtain ⟨ss, e, x⟩ := OpsOk.res s2 (.cons (k1.after a2 s1 p2) (.cons k2 .nil))
  unfold eP at h2
  simp only [e] at h2
  cases e2 : p ss with
  | none => simp only [e2, Rs.bind] at h2; exact (show False from h2).elim
  | some t =>
    simp only [e2, Rs.bind] at h2
    obtain ⟨x1, y1, e3, q⟩ := hp U2 _ H2 [v, v2] ss t (fun z H3 => ∃ k, z = .bl k ∧ (if k = true then tE C fc σ H3 fun w' H4 => rr' v2 w' H4 Q else Q (.bl false) H3)) s2.wlv x e2 fun w H3 g => by
      obtain ⟨U3, s3, a3, k3, n3⟩ := g.fin s2
      cases t with
      | fz d =>
        cases d with
        | bl k' =>
          cases k3.1 with
          | fz y =>
            cases y
            refine ⟨k', rfl, ?_⟩
            cases k' with
            | false => rw [if_neg Bool.false_ne_true]; exact h2 _ H3 U3 s3 ((a1.trans a2).trans a3) (p1.trans p2) bl_ok bl_new
            | true =>
              rw [if_pos rfl]
              refine tE_then (R := RE C U H σ r Q) s3 h2 id (fun _ _ _ z => XWant.before z ((a1.trans a2).trans a3)) fun o4 r4 v4 H4 U4 s4 a4 p4 k4 n4 h4 => ?_
              obtain ⟨x, y, e, q⟩ := eP_fin hp' s4 (((a1.trans a2).trans a3).trans a4) ((p1.trans p2).trans p4) (.cons (((k2.after a3 s2 Per.refl)).after a4 s3 p4) (.cons k4 .nil)) h4
              cases e
              exact q
        | _ => exact (show False from h2).elim
      | _ => exact (show False from h2).elim
    cases e3
    exact q
theorem gt_chain {op op' : CmpOp} {rr rr' : R2} {p p' : Pr} (ho : OpR X (compareOp op) rr) (ho' : OpR X (compareOp op') rr') (hp : PN C (fun vs H Q => ∃ x y, vs = [x, y] ∧ rr x y H Q) p) (hp' : PN C (fun vs H Q => ∃ x y, vs = [x, y] ∧ rr' x y H Q) p') (ha : GE X C a fa) (hb : GE X C b fb) (hc : GE X C c fc)
    (hm : lastMarks [op, op'] [b, c] = false := by with_unfolding_all rfl) : GT X C (.Compare a [op, op'] [b, c] pos) (eBl (eChain p p' fa fb fc)) := by
  refine weakT (pt_chain ho ho' ha hb hc hm) fun σ H Q h => ?_
  show tChain rr rr' (tE C fa) (tE C fb) (tE C fc) σ H fun x H' => ∃ k, x = .bl k ∧ Q k H'
  refine chain_reading hp hp' ?_
  obtain ⟨U, r, s, h⟩ := h
  refine tE_then (R := RT C U H σ r Q) s h id (fun _ _ _ z => z) fun o r1 v H1 U1 s1 a1 p1 k1 n1 h1 => ?_
  cases o with
  | val t =>
    cases t with
    | fz d =>
      cases d with
      | bl k => cases k1.1 with | fz y => cases y; exact ⟨_, rfl, h1 H1 U1 s1 a1 p1⟩
      | _ => exact (show False from h1).elim
    | _ => exact (show False from h1).elim
  | loc i => exact (show False from h1).elim
def eMeth (tt : S → Bool) (p : Pr) (fo : Rho → Rs Opd) (fa : Rho → Rs (List Opd)) : Rho → Rs Opd := fun r => (fo r).bind fun o r1 => match res r1 o with
  | some s => if tt s then (fa r1).bind fun os r2 => eP p (o :: os) r2 else .st
  | none => .st
theorem ge_meth {K : PySem.W.Frag} {T : String} {rr : V → List V → Hp → VK → Prop} {tt : S → Bool} {p : Pr} {fa : Rho → Rs (List Opd)} (h : PE X e (tBM K T rr (tE C fo) (tA C fa))) (hT : ∀ U W H v s, SR C.K U W H v s → tt s = true → tyV K T v H)
    (hp : PN C (fun vs H Q => ∃ x xs, vs = x :: xs ∧ rr x xs H Q) p) : GE X C e (eMeth tt p fo fa) := by
  refine weakE h fun σ H Q h => ?_
  obtain ⟨U, r, s, h⟩ := h
  refine tE_then (R := RE C U H σ r Q) s h id (fun _ _ _ z => z) fun o r1 v H1 U1 s1 a1 p1 k1 n1 h1 => ?_
  obtain ⟨t, e, x⟩ := k1.res s1
  simp only [e] at h1
  by_cases ht : tt t = true
  · rw [if_pos ht] at h1
    refine ⟨hT _ _ _ _ _ x ht, ?_⟩
    refine tA_then (R := RE C U H σ r Q) s1 h1 id (fun _ _ _ z => XWant.before z a1) fun os r2 vs H2 U2 s2 a2 p2 k2 n2 h2 => ?_
    obtain ⟨x, xs, e, q⟩ := eP_fin hp s2 (a1.trans a2) (p1.trans p2) (.cons (k1.after a2 s1 p2) k2) h2
    cases e
    exact q
  · rw [if_neg ht] at h1
    exact (show False from h1).elim
theorem ge_meth0 {K : PySem.W.Frag} {T : String} {rr : V → List V → Hp → VK → Prop} {tt : S → Bool} {p : Pr} (h : PE X e (tBM0 K T rr (tE C fo))) (hT : ∀ U W H v s, SR C.K U W H v s → tt s = true → tyV K T v H)
    (hp : PN C (fun vs H Q => ∃ x xs, vs = x :: xs ∧ rr x xs H Q) p) : GE X C e (eMeth tt p fo eNil) := by
  refine weakE h fun σ H Q h => ?_
  obtain ⟨U, r, s, h⟩ := h
  refine tE_then (R := RE C U H σ r Q) s h id (fun _ _ _ z => z) fun o r1 v H1 U1 s1 a1 p1 k1 n1 h1 => ?_
  obtain ⟨t, e, x⟩ := k1.res s1
  simp only [e] at h1
  by_cases ht : tt t = true
  · rw [if_pos ht] at h1
    refine ⟨hT _ _ _ _ _ x ht, ?_⟩
    obtain ⟨x, xs, e, q⟩ := eP_fin hp s1 a1 p1 (.cons k1 .nil) (show RE C U H σ r Q (eP p [o] r1) from h1)
    cases e
    exact q
  · rw [if_neg ht] at h1
    exact (show False from h1).elim
end
section
variable {C : Ct} {U U' : Addr → Prop} {H H' : Hp} {σ σ' : St} {r r' : Rho} {i : Nat} {s s' : S} {p : Addr}
/-- what stands at p is what s' says -/
inductive At (K : PySem.W.Frag) (W : Addr → Prop) (H : Hp) : S → HO → Prop
  | ol {xs : List V} {ds : List D} : Rps K W H xs ds → At K W H (.ol ds) (.lst xs)
  | br {xs : List V} {ds : List D} : Rps K W H xs ds → At K W H (.br ds) (.lst xs)
  | od {xs : List (Key × V)} {ds : List (Key × D)} : KR K W H xs ds → At K W H (.od ds) (.dK xs)
  | bd {xs : List (Key × V)} {ds : List (Key × D)} : KR K W H xs ds → At K W H (.bd ds) (.dK xs)
  | ot {xs : List (List Key × V)} {ds : List (List Key × D)} : KR K W H xs ds → At K W H (.ot ds) (.dT xs)
theorem At.own {K : PySem.W.Frag} {W : Addr → Prop} {o : HO} (x : At K W H s o) : s.own = true := by cases x <;> rfl
theorem Sit.write {o : HO} (st : Sit C U H σ r) (hi : r[i]? = some (some s)) (ho : s.own = true) (hv : σ[i]? = some (some (V.ref p))) (x : At C.K (Wn U σ r) H s' o) (hl : s.hard = true → Sl s s') :
    Sit C U (upd H p o) σ (r.set i (some s')) ∧ Aft U H σ r U (upd H p o) σ (r.set i (some s')) ∧ Per r (r.set i (some s')) ∧ (∀ {v d}, Rp C.K (Wn U σ r) H v d → Rp C.K (Wn U σ (r.set i (some s'))) (upd H p o) v d) := by
  have hlt := lt_of_at hi
  have op : Own σ r p := ⟨i, s, hi, ho, hv⟩
  have ho' := x.own
  have own' : ∀ a, Own σ (r.set i (some s')) a → Own σ r a := fun a ⟨j, t, h1, h2, h3⟩ => by
    rcases at_set h1 with ⟨rfl, e⟩ | ⟨n, h1⟩
    · exact ⟨j, s, hi, ho, h3⟩
    · exact ⟨j, t, h1, h2, h3⟩
  have wsub : ∀ a, Wn U σ (r.set i (some s')) a → Wn U σ r a := fun a z => z.elim (fun z => .inl (own' a z)) .inr
  have keep : ∀ b o', b ≠ p → H b = some o' → upd H p o b = some o' := fun b o' n h => by rw [upd_ne n]; exact h
  have m : Mono (fun _ => False) (Wn U σ r) H (fun _ => False) (Wn U σ (r.set i (some s'))) (upd H p o) :=
    ⟨st.wlv, fun b o' n h => keep b o' (fun z => n (by rw [z]; exact .inl op)) h, fun b o' n h z => n (wsub b z), fun _ _ z => z.elim, fun _ z => z.elim⟩
  have lp : ∃ xs, o = .lst xs ∨ (∃ k, o = .dK k) ∨ ∃ k, o = .dT k := by
    cases x with
    | ol y => exact ⟨_, .inl rfl⟩
    | br y => exact ⟨_, .inl rfl⟩
    | od y => exact ⟨[], .inr (.inl ⟨_, rfl⟩)⟩
    | bd y => exact ⟨[], .inr (.inl ⟨_, rfl⟩)⟩
    | ot y => exact ⟨[], .inr (.inr ⟨_, rfl⟩)⟩
  refine ⟨⟨by rw [List.length_set]; exact st.len, fun j t h => ?_, fun j k t u w h1 q1 h2 q2 e1 e2 => ?_, fun a h => st.dis a (own' a h), fun a h => ?_⟩, ⟨fun _ h => h, fun _ h => .inl h, fun a h => .inl (own' a h), fun a o' h n => keep a o' (fun z => n (by rw [z]; exact op)) h, fun a o' h => ?_, fun j t h1 h2 => ?_, fun j t h1 h2 => ?_⟩, fun j t h => ?_, fun y => y.mono m⟩
  · rcases at_set h with ⟨rfl, e⟩ | ⟨n, h⟩
    · cases e
      refine ⟨_, hv, ?_⟩
      cases x with
      | ol y => exact .ol upd_same (y.mono m)
      | br y => exact .br upd_same (y.mono m)
      | od y => exact .od upd_same (y.mono m)
      | bd y => exact .bd upd_same (y.mono m)
      | ot y => exact .ot upd_same (y.mono m)
    · obtain ⟨w, e, y⟩ := st.rep j t h
      refine ⟨w, e, ?_⟩
      have ne : t.soft = false → ∀ b, w = .ref b → b ≠ p := fun z1 b z2 z => n (by
        subst z
        exact st.inj j i t s _ h z1 hi (soft_of_own ho) (by rw [e, z2]) hv)
      cases y with
      | fz y => exact .fz (y.mono m)
      | ol e1 y => exact .ol (keep _ _ (ne rfl _ rfl) e1) (y.mono m)
      | br e1 y => exact .br (keep _ _ (ne rfl _ rfl) e1) (y.mono m)
      | lk e1 u y => exact .lk (keep _ _ (ne rfl _ rfl) e1) u (y.mono m)
      | od e1 y => exact .od (keep _ _ (ne rfl _ rfl) e1) (y.mono m)
      | bd e1 y => exact .bd (keep _ _ (ne rfl _ rfl) e1) (y.mono m)
      | kd e1 y => exact .kd (e1.to fun o h => keep _ _ (fun z => by subst z; exact (st.wlv _ (.inl op)).fzn h) h) (y.mono m)
      | exc e1 y => exact .exc (keep _ _ (fun z => by subst z; exact (st.wlv _ (.inl op)).xd e1) e1) (y.mono m)
      | nd y => exact .nd (y.mono m)
      | nh e1 y => exact .nh (e1.to fun o u h => keep _ _ (fun z => by subst z; exact (st.wlv _ (.inl op)).fzn h) h) (y.mono m)
      | ot e1 y => exact .ot (keep _ _ (ne rfl _ rfl) e1) (y.mono m)
      | kt e1 y => exact .kt (e1.to fun o h => keep _ _ (fun z => by subst z; exact (st.wlv _ (.inl op)).fzn h) h) (y.mono m)
      | ky e1 => exact .ky (e1.to m.tup)
  · have slot : ∀ (j : Nat) (t : S), (r.set i (some s'))[j]? = some (some t) → t.soft = false → ∃ u, r[j]? = some (some u) ∧ u.soft = false := fun j t h q => by
      rcases at_set h with ⟨rfl, e⟩ | ⟨n, h⟩
      · exact ⟨s, hi, soft_of_own ho⟩
      · exact ⟨t, h, q⟩
    obtain ⟨_, g1, g2⟩ := slot j t h1 q1
    obtain ⟨_, g3, g4⟩ := slot k u h2 q2
    exact st.inj j k _ _ w g1 g2 g3 g4 e1 e2
  · have n : a ≠ p := fun z => by subst z; exact st.dis a op h
    rcases st.uok a h with ⟨y, l⟩ | ⟨y, l⟩ | ⟨y, l⟩
    · exact .inl ⟨y, keep _ _ n l⟩
    · exact .inr (.inl ⟨y, keep _ _ n l⟩)
    · exact .inr (.inr ⟨y, keep _ _ n l⟩)
  · by_cases z : a = p
    · subst z; exact ⟨_, upd_same⟩
    · exact ⟨o', keep _ _ z h⟩
  · by_cases n : i = j
    · subst n
      rw [hi] at h1; cases h1
      exact ⟨s', List.getElem?_set_self hlt, hl h2, rfl⟩
    · exact ⟨t, by rw [List.getElem?_set_ne n]; exact h1, Sl.refl t, rfl⟩
  · rcases at_set h1 with ⟨rfl, e⟩ | ⟨n, h1⟩
    · cases e; cases x <;> cases h2
    · exact ⟨h1, rfl⟩
  · by_cases n : i = j
    · subst n; exact ⟨s', List.getElem?_set_self hlt⟩
    · exact ⟨t, by rw [List.getElem?_set_ne n]; exact h⟩
end
/-- a writing method by its function: what the thing is then, what it gives -/
abbrev Mu := S → List D → Option (S × D)
def MuOk (C : Ct) (rr : V → List V → Hp → VK → Prop) (m : Mu) : Prop :=
  ∀ (U W : Addr → Prop) (H : Hp) (p : Addr) (s s' : S) (vs : List V) (ds : List D) (d : D) (Q : VK), s.own = true → W p → (∀ a, W a → Lv H a) → SR C.K U W H (.ref p) s → Rps C.K W H vs ds → m s ds = some (s', d) →
    (∀ v o, At C.K W H s' o → (s.hard = true → Sl s s') → Rp C.K W H v d → Q v (upd H p o)) → rr (.ref p) vs H Q
def ownAt (r : Rho) (i : Nat) : Option S := match r[i]? with
  | some (some s) => if s.own then some s else none
  | _ => none
def mutP (m : Mu) (i : Nat) (os : List Opd) (r1 : Rho) : Rs Opd := match frzAll os r1 with
  | some (ds, r2) => (match ownAt r2 i with
    | some s => (match m s ds with | some (s', d) => .ok (.val (.fz d)) (r2.set i (some s')) | none => .st)
    | none => .st)
  | none => .st
def eMut (tt : S → Bool) (m : Mu) (i : Nat) (fa : Rho → Rs (List Opd)) : Rho → Rs Opd := fun r => match ownAt r i with
  | some s => if tt s then (fa r).bind (mutP m i) else .st
  | none => .st
section
variable {X : Cx} {C : Ct} {e : Expr} {fa : Rho → Rs (List Opd)}
theorem ownAt_of {r : Rho} {i : Nat} {s : S} (h : ownAt r i = some s) : r[i]? = some (some s) ∧ s.own = true := by
  unfold ownAt at h
  cases e : r[i]? with
  | none => rw [e] at h; cases h
  | some q =>
    cases q with
    | none => rw [e] at h; cases h
    | some t =>
      rw [e] at h
      dsimp only at h
      by_cases ho : t.own = true
      · rw [if_pos ho] at h; cases h; exact ⟨rfl, ho⟩
      · rw [if_neg ho] at h; cases h
theorem mutP_fin {rr : V → List V → Hp → VK → Prop} {m : Mu} (hm : MuOk C rr m) {i : Nat} {U U' : Addr → Prop} {H H' : Hp} {σ : St} {r r' : Rho} {os : List Opd} {vs : List V} {v0 : V} {Q : VK} (hv : σ[i]? = some (some v0)) (s0 : Sit C U H σ r) (s : Sit C U' H' σ r') (a : Aft U H σ r U' H' σ r') (pe : Per r r') (k : OpsOk C U' H' σ r' os vs) (n : NewS H os vs)
    (h : RE C U H σ r Q (mutP m i os r')) : rr v0 vs H' Q := by
  obtain ⟨U2, s2, a2, u2, k2⟩ := ops_drop s0 s a k n
  unfold mutP at h
  cases e1 : frzAll os r' with
  | none => simp only [e1] at h; exact (show False from h).elim
  | some z =>
    obtain ⟨ds, r2⟩ := z
    simp only [e1] at h
    obtain ⟨s3, a3, p3, x3⟩ := frzAll_ok s2 k2 e1
    cases e2 : ownAt r2 i with
    | none => simp only [e2] at h; exact (show False from h).elim
    | some t =>
      simp only [e2] at h
      obtain ⟨g1, g2⟩ := ownAt_of e2
      cases e3 : m t ds with
      | none => simp only [e3] at h; exact (show False from h).elim
      | some z =>
        obtain ⟨t', d⟩ := z
        simp only [e3] at h
        obtain ⟨w, ew, x⟩ := s3.rep i t g1
        rw [hv] at ew; cases ew
        obtain ⟨p, ep, l⟩ := x.ownLv g2
        subst ep
        refine hm U2 _ H' p t t' vs ds d Q g2 (.inl ⟨i, t, g1, g2, hv⟩) s3.wlv x x3 e3 fun v o xo hl xd => ?_
        obtain ⟨s4, a4, p4, c4⟩ := s3.write g1 g2 hv xo hl
        exact h v _ U2 s4 ((a2.trans a3).trans a4) ((pe.trans p3).trans p4) ⟨.fz (c4 xd), fun p z => (nomatch z), rfl⟩ bl_new
theorem ge_mut {K : PySem.W.Frag} {T : String} {rr : V → List V → Hp → VK → Prop} {tt : S → Bool} {m : Mu} {i : Nat} (h : PE X e (tBM K T rr (tVar i) (tA C fa))) (hT : ∀ U W H v s, SR C.K U W H v s → tt s = true → tyV K T v H) (hm : MuOk C rr m) : GE X C e (eMut tt m i fa) := by
  refine weakE h fun σ H Q h => ?_
  obtain ⟨U, r, s, h⟩ := h
  unfold eMut at h
  cases e1 : ownAt r i with
  | none => simp only [e1] at h
  | some t =>
    simp only [e1] at h
    obtain ⟨g1, g2⟩ := ownAt_of e1
    obtain ⟨v, ev, x⟩ := s.rep i t g1
    by_cases ht : tt t = true
    · rw [if_pos ht] at h
      refine ⟨v, ev, hT _ _ _ _ _ x ht, ?_⟩
      exact tA_then (R := RE C U H σ r Q) s h id (fun _ _ _ z => z) fun os r2 vs H2 U2 s2 a2 p2 k2 n2 h2 => mutP_fin hm ev s s2 a2 p2 k2 n2 h2
    · rw [if_neg ht] at h
      exact h.elim
theorem ge_mut0 {K : PySem.W.Frag} {T : String} {rr : V → List V → Hp → VK → Prop} {tt : S → Bool} {m : Mu} {i : Nat} (h : PE X e (tBM0 K T rr (tVar i))) (hT : ∀ U W H v s, SR C.K U W H v s → tt s = true → tyV K T v H) (hm : MuOk C rr m) : GE X C e (eMut tt m i eNil) := by
  refine weakE h fun σ H Q h => ?_
  obtain ⟨U, r, s, h⟩ := h
  unfold eMut at h
  cases e1 : ownAt r i with
  | none => simp only [e1] at h
  | some t =>
    simp only [e1] at h
    obtain ⟨g1, g2⟩ := ownAt_of e1
    obtain ⟨v, ev, x⟩ := s.rep i t g1
    by_cases ht : tt t = true
    · rw [if_pos ht] at h
      exact ⟨v, ev, hT _ _ _ _ _ x ht, mutP_fin hm ev s s Aft.refl Per.refl .nil .nil (show RE C U H σ r Q (mutP m i [] r) from h)⟩
    · rw [if_neg ht] at h
      exact h.elim
end
end GB
namespace GB
open PySem PySem.Spec PyProof.Rows L2
/-- a def's promise where no repr is under way -/
structure FnG (P : Program) (w : World) (K : PySem.W.Frag) (mg : Str → Option Value) (base : Heap) (k : Nat) (f : Addr) (fd : FuncData) (ps : List Str) (sp : Sp) : Prop where
  len : ∀ vs H Q E, sp vs H Q E → vs.length = ps.length
  go : ∀ (A : Around) (l : List Env) (t : Shared) (H : Hp) (args : Args) (us : List Value) (vs : List V) (Q : VK) (E : XK), Room k A → A.guards = some [] → Env0 P w K mg base A l t H →
    BindsTo t fd args (ps.zip us) → Vals vs us → sp vs H Q E → codeAny (model P w) A (.call (.ref f) args) (CR (L2.CX P w) l P w H t Q E) t
def ct0 (K : PySem.W.Frag) (mg : Str → Option Value) : Ct := ⟨K, mg, fun _ _ _ _ => False⟩
section
variable {P : Program} {w : World} {K : PySem.W.Frag} {mg : Str → Option Value} {base : Heap}
theorem FnG.up {j k : Nat} {f : Addr} {fd : FuncData} {ps : List Str} {sp : Sp} (F : FnG P w K mg base j f fd ps sp) (h : j ≤ k) : FnG P w K mg base k f fd ps sp :=
  ⟨F.len, fun A l t H args us vs Q E hr => F.go A l t H args us vs Q E (hr.mono h)⟩
theorem FnG.weak {k : Nat} {f : Addr} {fd : FuncData} {ps : List Str} {sp sp' : Sp} (F : FnG P w K mg base k f fd ps sp) (h : ∀ vs H Q E, sp' vs H Q E → sp vs H Q E) : FnG P w K mg base k f fd ps sp' :=
  ⟨fun vs H Q E q => F.len vs H Q E (h _ _ _ _ q), fun A l t H args us vs Q E hr gu e b r q => F.go A l t H args us vs Q E hr gu e b r (h _ _ _ _ q)⟩
/-- the words behind a body that are told to the caller -/
def outsL : List S → Rho → List S
  | [], _ => []
  | s :: ss, r => (if s.hard then (match r.head? with | some (some t) => t | _ => s) else s) :: outsL ss r.tail
def startR (n : Nat) (ss : List S) : Rho := words ss ++ List.replicate (n - ss.length) none
def runF (n : Nat) (body : Rho → Fl) : Fs := fun ss => match body (startR n ss) with
  | .nx r => .ok (.fz .non) (outsL ss r)
  | .rt s r => .ok s (outsL ss r)
  | .ex c fs r => .ex c fs (outsL ss r)
  | _ => .st
theorem outsL_len : ∀ (ss : List S) (r : Rho), (outsL ss r).length = ss.length
  | [], _ => rfl
  | _ :: ss, r => congrArg (· + 1) (outsL_len ss r.tail)
theorem outsL_at : ∀ {ss : List S} {r : Rho} {k : Nat} {s : S}, ss[k]? = some s → (outsL ss r)[k]? = some (if s.hard then (match r[k]? with | some (some t) => t | _ => s) else s)
  | [], _, _, _, h => by simp at h
  | s :: ss, r, 0, t, h => by
    cases h
    show some _ = some _
    cases r <;> rfl
  | s :: ss, r, k + 1, t, h => by
    have q := outsL_at (r := r.tail) (show ss[k]? = some t from by simpa using h)
    show (outsL ss r.tail)[k]? = _
    rw [q]
    cases r with
    | nil => simp
    | cons a r => simp
/-- at the entry -/
theorem start_sit {C : Ct} {U : Addr → Prop} {H : Hp} {N : List Str} {vs : List V} {ss : List S} (s : Sit C U H (slots vs) (words ss)) (hl : vs.length = ss.length) (hn : vs.length ≤ N.length) :
    Sit C U H (start N vs) (startR N.length ss) ∧ (∀ a, Own (start N vs) (startR N.length ss) a ↔ Own (slots vs) (words ss) a) := by
  have rAt : ∀ (i : Nat) (t : S), (startR N.length ss)[i]? = some (some t) → (words ss)[i]? = some (some t) := fun i t h => by
    unfold startR at h
    by_cases q : i < (words ss).length
    · rw [List.getElem?_append_left q] at h; exact h
    · rw [List.getElem?_append_right (by omega), List.getElem?_replicate] at h
      split at h <;> cases h
  have vAt : ∀ (i : Nat) (v : V), (slots vs)[i]? = some (some v) → (start N vs)[i]? = some (some v) := fun i v h => by
    unfold L2.start
    rw [List.getElem?_append_left (lt_of_at h)]
    exact h
  have back : ∀ (i : Nat) (v : V) (t : S), (words ss)[i]? = some (some t) → (start N vs)[i]? = some (some v) → (slots vs)[i]? = some (some v) := fun i v t ht h => by
    unfold L2.start at h
    rw [List.getElem?_append_left (by simpa [slots, hl] using (show i < (words ss).length from lt_of_at ht))] at h
    exact h
  have own : ∀ a, Own (start N vs) (startR N.length ss) a ↔ Own (slots vs) (words ss) a := fun a => by
    constructor
    · rintro ⟨i, t, h1, h2, h3⟩
      exact ⟨i, t, rAt i t h1, h2, back i _ t (rAt i t h1) h3⟩
    · rintro ⟨i, t, h1, h2, h3⟩
      refine ⟨i, t, ?_, h2, vAt i _ h3⟩
      unfold startR
      rw [List.getElem?_append_left (lt_of_at h1)]
      exact h1
  have wsub : ∀ a, Wn U (start N vs) (startR N.length ss) a → Wn U (slots vs) (words ss) a := fun a z => z.elim (fun z => .inl ((own a).mp z)) .inr
  refine ⟨⟨?_, fun i t h => ?_, fun i j t u v h1 q1 h2 q2 e1 e2 => ?_, fun a h => s.dis a ((own a).mp h), s.uok⟩, own⟩
  · unfold L2.start startR
    simp only [List.length_append, List.length_map, List.length_replicate, words]
    omega
  · obtain ⟨v, e, x⟩ := s.rep i t (rAt i t h)
    exact ⟨v, vAt i v e, x.less wsub fun p z1 z2 => x.lkLv z1 z2⟩
  · exact s.inj i j t u v (rAt i t h1) q1 (rAt j u h2) q2 (back i v t (rAt i t h1) e1) (back j v u (rAt j u h2) e2)
/-- behind the body: the caller's view -/
theorem end_sit {C : Ct} {U U' : Addr → Prop} {H H' : Hp} {N : List Str} {vs : List V} {ss : List S} {σ' : St} {r' : Rho} (s0 : Sit C U H (slots vs) (words ss)) (hl : vs.length = ss.length) (hn : vs.length ≤ N.length) (hh : ∀ s ∈ ss, s.own = true → s.hard = true)
    (s' : Sit C U' H' σ' r') (a' : Aft U H (start N vs) (startR N.length ss) U' H' σ' r') :
    ∃ U'', Sit C U'' H' (slots vs) (words (outsL ss r')) ∧ Aft U H (slots vs) (words ss) U'' H' (slots vs) (words (outsL ss r')) ∧ (∀ a, Wn U'' (slots vs) (words (outsL ss r')) a → Wn U' σ' r' a) ∧
      (∀ a, U' a → U'' a) := by
  obtain ⟨st, own⟩ := start_sit s0 hl hn
  have ownw : ∀ a, Own (slots vs) (words ss) a → Own (start N vs) (startR N.length ss) a := fun a => (own a).mpr
  have sAt : ∀ (i : Nat) (t : S), (words ss)[i]? = some (some t) → (startR N.length ss)[i]? = some (some t) := fun i t h => by
    unfold startR
    rw [List.getElem?_append_left (lt_of_at h)]; exact h
  have vAt : ∀ (i : Nat) (v : V), (slots vs)[i]? = some (some v) → (start N vs)[i]? = some (some v) := fun i v h => by
    unfold L2.start
    rw [List.getElem?_append_left (lt_of_at h)]
    exact h
  -- a word told to the caller: a tied one's own slot, or the argument's own word
  have cases' : ∀ (k : Nat) (t : S), (words (outsL ss r'))[k]? = some (some t) → ∃ s v, ss[k]? = some s ∧ vs[k]? = some v ∧ ((s.hard = true ∧ r'[k]? = some (some t) ∧ Sl s t ∧ σ'[k]? = some (some v)) ∨ (s.hard = false ∧ t = s)) := fun k t h => by
    rw [words_at] at h
    have hk : k < ss.length := by have := lt_of_at h; rw [outsL_len] at this; exact this
    have e : ss[k]? = some ss[k] := List.getElem?_eq_getElem hk
    have ev : vs[k]? = some vs[k] := List.getElem?_eq_getElem (by omega)
    refine ⟨ss[k], vs[k]'(by omega), e, ev, ?_⟩
    rw [outsL_at e] at h
    cases hb : (ss[k]).hard with
    | false => rw [hb] at h; cases h; exact .inr ⟨rfl, rfl⟩
    | true =>
      rw [hb] at h
      obtain ⟨t', g1, g2, g3⟩ := a'.pin k _ (sAt k _ (words_at.mpr e)) hb
      simp only [if_pos, g1] at h
      cases h
      exact .inl ⟨rfl, g1, g2, by rw [g3]; exact vAt k _ (slots_at.mpr ev)⟩
  have owno : ∀ a, Own (slots vs) (words (outsL ss r')) a → Own (slots vs) (words ss) a ∧ Own σ' r' a := fun a ⟨k, t, h1, h2, h3⟩ => by
    obtain ⟨s, v, e1, e2, h⟩ := cases' k t h1
    rw [slots_at] at h3
    rw [e2] at h3; cases h3
    rcases h with ⟨g1, g2, g3, g4⟩ | ⟨g1, g2⟩
    · refine ⟨⟨k, s, words_at.mpr e1, ?_, slots_at.mpr e2⟩, ⟨k, t, g2, h2, g4⟩⟩
      cases s <;> simp [S.hard] at g1 <;> simp [Sl] at g3
      · rfl
      · subst g3; cases h2
      · rfl
      · subst g3; cases h2
    · subst g2
      have := hh _ (List.mem_of_getElem? e1) h2
      rw [g1] at this; cases this
  -- all that the body held and the caller has not: the caller need not know
  refine ⟨fun a => U' a ∨ (Own σ' r' a ∧ ¬ Own (slots vs) (words (outsL ss r')) a ∧ False), ?_⟩
  have wsub : ∀ a, Wn (fun a => U' a ∨ (Own σ' r' a ∧ ¬ Own (slots vs) (words (outsL ss r')) a ∧ False)) (slots vs) (words (outsL ss r')) a → Wn U' σ' r' a := fun a z => by
    rcases z with z | z | z
    · exact .inl (owno a z).2
    · exact .inr z
    · exact z.2.2.elim
  have m : Mono U (Wn U (slots vs) (words ss)) H U' (Wn U' σ' r') H' := by
    have q := a'.mono st
    have e : Wn U (start N vs) (startR N.length ss) = Wn U (slots vs) (words ss) := by
      funext a
      exact propext ⟨fun z => z.elim (fun z => .inl ((own a).mp z)) .inr, fun z => z.elim (fun z => .inl ((own a).mpr z)) .inr⟩
    rw [e] at q
    exact q
  refine ⟨⟨by simp only [slots, words, List.length_map, outsL_len]; exact hl, fun k t h => ?_, fun i j t u v h1 q1 h2 q2 e1 e2 => ?_, fun a h z => ?_, fun a h => ?_⟩, ⟨fun a h => .inl (a'.sub a h), fun a h => ?_, fun a h => .inl (owno a h).1, fun a o h n => a'.keep a o h fun z => n ((own a).mp z), a'.there, fun k s h1 h2 => ?_, fun k t h1 h2 => ?_⟩, wsub, fun a h => .inl h⟩
  · obtain ⟨s, v, e1, e2, h⟩ := cases' k t h
    refine ⟨v, slots_at.mpr e2, ?_⟩
    rcases h with ⟨g1, g2, g3, g4⟩ | ⟨g1, g2⟩
    · obtain ⟨w', e, x⟩ := s'.rep k t g2
      rw [g4] at e; cases e
      exact x.less wsub fun p z1 z2 => .inl (x.lkLv z1 z2)
    · subst g2
      obtain ⟨w', e, x⟩ := s0.rep k t (words_at.mpr e1)
      rw [slots_at] at e
      rw [e2] at e; cases e
      refine (x.mono m fun a o ho _ _ => ?_).less wsub fun p z1 z2 => ?_
      · have := hh _ (List.mem_of_getElem? e1) ho; rw [g1] at this; cases this
      · have := lkd_hard z1; rw [g1] at this; cases this
  · obtain ⟨s1, v1, f1, f2, h⟩ := cases' i t h1
    obtain ⟨s2, v2, f3, f4, h'⟩ := cases' j u h2
    rw [slots_at] at e1 e2
    rw [f2] at e1; cases e1
    rw [f4] at e2; cases e2
    rcases h with ⟨g1, g2, g3, g4⟩ | ⟨g1, g2⟩
    · rcases h' with ⟨g5, g6, g7, g8⟩ | ⟨g5, g6⟩
      · exact s'.inj i j t u _ g2 q1 g6 q2 g4 g8
      · subst g6
        rcases soft_cases q2 with z | z
        · have := hh _ (List.mem_of_getElem? f3) z; rw [g5] at this; cases this
        · have := lkd_hard z; rw [g5] at this; cases this
    · subst g2
      rcases soft_cases q1 with z | z
      · have := hh _ (List.mem_of_getElem? f1) z; rw [g1] at this; cases this
      · have := lkd_hard z; rw [g1] at this; cases this
  · rcases z with z | z
    · exact s'.dis a (owno a h).2 z
    · exact z.2.2
  · rcases h with h | h
    · exact s'.uok a h
    · exact h.2.2.elim
  · rcases h with h | h
    · rcases a'.new a h with z | z | z
      · exact .inl z
      · exact .inr (.inl z)
      · exact .inr (.inr ((own a).mp z))
    · exact h.2.2.elim
  · have e1 := words_at.mp h1
    refine ⟨_, words_at.mpr (outsL_at e1), ?_, rfl⟩
    obtain ⟨t', g1, g2, g3⟩ := a'.pin k s (sAt k s h1) h2
    rw [h2]
    simp only [if_pos, g1]
    exact g2
  · obtain ⟨s, v, e1, e2, h⟩ := cases' k t h1
    rcases h with ⟨g1, g2, g3, g4⟩ | ⟨g1, g2⟩
    · obtain ⟨f1, f2⟩ := a'.lok k t g2 h2
      refine ⟨?_, rfl⟩
      unfold startR at f1
      by_cases q : k < (words ss).length
      · rw [List.getElem?_append_left q] at f1; exact f1
      · exact absurd (by simpa [words] using lt_of_at e1) q
    · subst g2
      have := lkd_hard h2; rw [g1] at this; cases this
end
end GB
namespace GB
open PySem PySem.Spec PyProof.Rows L2
section
variable {P : Program} {w : World} {K : PySem.W.Frag} {mg : Str → Option Value} {base : Heap}
abbrev bodyCx (P : Program) (w : World) (K : PySem.W.Frag) (mg : Str → Option Value) (base : Heap) (N : List Str) (qual : Str) (st : Stmt) (f : Addr) (cdv : Value) (A : Around) (l : List Env) (t : Shared) (H : Hp) (E : XK) : Cx :=
  cxOf (L2.CX P w) P w K mg base N qual (defScope st) f cdv A l t H E
abbrev bodyCt (K : PySem.W.Frag) (mg : Str → Option Value) (E : XK) : Ct := ⟨K, mg, fun cls d _ H => E cls d H⟩
/-- THE RULE for a def: its body's function -/
theorem def_ok {x qual : Str} {st : Stmt} {f : Addr} {fd : FuncData} {N ps : List Str} {k : Nat} {body : Rho → Fl} (F : Fun K x qual st f fd) (Sc : FnScope N ps (defScope st))
    (hb : ∀ (cdv : Value) (A : Around) (l : List Env) (t : Shared) (H : Hp) (E : XK), Room k (A.deeper (envOfC qual (defScope st) t.heap.objs.size f cdv)) → A.guards = some [] → GSs (bodyCx P w K mg base N qual st f cdv A l t H E) (bodyCt K mg E) (defBody st) body) :
    FnG P w K mg base (k + 1) f fd ps (spF (ct0 K mg) ps.length (runF N.length body)) := by
  obtain ⟨oc, od, kV, doc, pm, an, cdv, ct, osl, rfl, lk, hcd⟩ := F.ex
  refine ⟨fun vs H Q E h => h.1, fun A l t H args us vs Q E room gu e0 bnd rel q => ?_⟩
  have hvl := q.1
  have inK : K.In t.heap := e0.mod.kin.keeps fun b o e => (e0.bs b o e).1
  have nolim : t.heap.NoLimit := e0.mod.nolimit.keeps fun b o e => (e0.bs b o e).1
  refine codeAny_call_function room.depth (inK _ _ lk) rfl Sc.co Sc.gen rfl (PySem.W.codeRec_of inK hcd) (bnd _ _ _ _ ?_)
  refine wpAny_newFunctionEnv_cells Sc.kind (fun y hy => ?_) fun env he s1 ic => ?_
  · obtain ⟨n, v⟩ := y
    rcases Sc.par n (List.of_mem_zip hy).1 with z | z
    · exact Or.inl z
    · exact Or.inr ⟨z, PySem.W.cellsFrom_some _ _ _ (.inl z)⟩
  subst he
  refine ⟨nolim.keeps ic.toInCall.keep, codeAny_func ?_⟩
  have I : Inv (bodyCx P w K mg base N qual st f cdv A l t H E) [] (L2.start N vs) H s1 := inv_start Sc room.hd e0 hvl rel ic
  obtain ⟨_, U, ss, hh, sit, q⟩ := q
  have hl : vs.length = ss.length := by have := sit.len; simpa [slots, words] using this
  have hpl : vs.length ≤ N.length := by
    have z := congrArg List.length Sc.pre
    rw [List.length_take] at z
    omega
  obtain ⟨st0, own⟩ := start_sit sit hl hpl
  have fin : ∀ {σ' : St} {H' : Hp} {v : V} {u : Value} {s' : Shared}, Inv (bodyCx P w K mg base N qual st f cdv A l t H E) [] σ' H' s' → RelV v u → Q v H' → CE l P w H t Q u s' :=
    fun {σ' H' v u s'} J r z => ⟨v, H', J.os, J.bare, J.base, J.hok, r, z⟩
  have want : tS (bodyCt K mg E) body { nx := fun _ H' => Q .non H', rt := Q } (L2.start N vs) H := by
    refine ⟨U, startR N.length ss, Sit.cast (C := ct0 K mg) (C' := bodyCt K mg E) rfl st0, ?_⟩
    unfold runF at q
    have val : ∀ {s : S} {v : V} {σ' : St} {H' : Hp} {U' : Addr → Prop} {r' : Rho}, (match (FR.ok s (outsL ss r')) with
        | .ok s outs => ∀ v H' U', Sit (ct0 K mg) U' H' (slots vs) (words outs) → Aft U H (slots vs) (words ss) U' H' (slots vs) (words outs) → OpOk (ct0 K mg) U' H' (slots vs) (words outs) (.val s) v → New H (.val s) v → Q v H'
        | .ex c fs outs => ∀ cls d H' U', Sit (ct0 K mg) U' H' (slots vs) (words outs) → Aft U H (slots vs) (words ss) U' H' (slots vs) (words outs) → XRp (ct0 K mg) (Wn U' (slots vs) (words outs)) c fs cls d H' → E cls d H'
        | .st => False) → Sit (bodyCt K mg E) U' H' σ' r' → Aft U H (L2.start N vs) (startR N.length ss) U' H' σ' r' → OpOk (bodyCt K mg E) U' H' σ' r' (.val s) v → NewO H (L2.start N vs) (startR N.length ss) s v → Q v H' := fun {s v σ' H' U' r'} z s' a' k n => by
      obtain ⟨U2, s2, a2, w2, u2⟩ := end_sit sit hl hpl hh (Sit.cast (C := bodyCt K mg E) (C' := ct0 K mg) rfl s') a'
      refine z v H' U2 s2 a2 ⟨k.1.less w2 (fun p z1 z2 => by have := k.2.2; rw [lkd_hard z1] at this; cases this), fun p z1 z2 => u2 p (k.2.1 p z1 z2), k.2.2⟩ fun t p z1 z2 z3 => ?_
      cases z1
      rcases n p z2 z3 with z | z
      · -- an argument's own thing is not handed back
        have z := (own p).mp z
        obtain ⟨i, t, h1, h2, h3⟩ := z
        have hd := hh t (List.mem_of_getElem? (words_at.mp h1)) h2
        obtain ⟨t', g1, g2, g3⟩ := a'.pin i t (by unfold startR; rw [List.getElem?_append_left (lt_of_at h1)]; exact h1) hd
        have ho : t'.own = true := by
          cases t <;> simp [S.hard] at hd <;> simp [S.own] at h2 <;> simp [Sl] at g2 <;> (obtain ⟨_, rfl⟩ := g2; rfl)
        have e3 : (L2.start N vs)[i]? = some (some (V.ref p)) := by
          unfold L2.start
          rw [List.getElem?_append_left (lt_of_at h3)]; exact h3
        exact (s'.dis p ⟨i, t', g1, ho, by rw [g3]; exact e3⟩ (k.2.1 p z2 z3)).elim
      · exact z
    cases e : body (startR N.length ss) with
    | st => rw [e] at q; exact q
    | bk r' => rw [e] at q; exact (show False from q).elim
    | ct r' => rw [e] at q; exact (show False from q).elim
    | nx r' =>
      rw [e] at q
      exact fun σ' H' U' s' a' => val (s := .fz .non) (v := .non) q s' a' ⟨.fz .non, fun p z => (nomatch z), rfl⟩ fun p z => (nomatch z)
    | rt s r' =>
      rw [e] at q
      exact fun v σ' H' U' s' a' k n => val q s' a' k n
    | ex c fs r' =>
      rw [e] at q
      intro cls d σ' H' U' s' a' x
      obtain ⟨U2, s2, a2, w2, u2⟩ := end_sit sit hl hpl hh (Sit.cast (C := bodyCt K mg E) (C' := ct0 K mg) rfl s') a'
      obtain ⟨b, dx, fv, e1, e2, e3, e4, e5⟩ := x
      exact q cls d H' U2 s2 a2 ⟨b, dx, fv, e1, e2, e3, e4, e5.less w2⟩
  refine wpAny_mono ((hb cdv A l t H E (room.deeper _) gu).run [] s1 (L2.start N vs) H _ I want) (fun fl s' z => ?_) fun e s' z => z
  cases fl with
  | next => obtain ⟨σ', H', J, z⟩ := z; exact fin (v := V.non) (u := Value.none) J rfl z
  | ret u => obtain ⟨v, σ', H', J, r, z⟩ := z; exact fin J r z
  | brk => obtain ⟨_, _, _, z⟩ := z; exact z.elim
  | cont => obtain ⟨_, _, _, z⟩ := z; exact z.elim
end
section
variable {X : Cx} {C : Ct} {k n : Nat} {f : Addr} {fd : FuncData} {ps : List Str} {x : Str} {p pos : Pos} {e : Expr} {es : List Expr} {F : Fs} {fa : Rho → Rs (List Opd)}
theorem spF_cast {C C' : Ct} (h : C.K = C'.K) (h' : C.mg = C'.mg) {n : Nat} {F : Fs} {vs : List V} {H : Hp} {Q : VK} {E : XK} (q : spF C n F vs H Q E) : spF C' n F vs H Q E := by
  obtain ⟨l, U, ss, hh, s, q⟩ := q
  refine ⟨l, U, ss, hh, s.cast h, ?_⟩
  cases e : F ss with
  | st => rw [e] at q; exact q
  | ok s outs =>
    rw [e] at q
    intro v H' U' s' a' k n
    refine q v H' U' (s'.cast h.symm) a' ?_ n
    unfold OpOk at k ⊢
    rw [h]; exact k
  | ex c fs outs =>
    rw [e] at q
    intro cls d H' U' s' a' x
    refine q cls d H' U' (s'.cast h.symm) a' ?_
    unfold XRp at x ⊢
    rw [h, h']; exact x
theorem run_def {pins : List (Addr × Obj)} {σ : St} {H : Hp} {t : Shared} {Q : VK} {us : List Value} {vs : List V} {sp : Sp} {E : XK} {W : WX} (G : FnG X.prog X.w X.K X.mg X.base k f fd ps sp) (hr : Room k X.A) (gu : X.A.guards = some []) (hb : Binds X.K fd ps []) (tk : Takes X W) (hE : ∀ cls d H', E cls d H' → W cls d σ H')
    (I : Inv X pins σ H t) (r : Vals vs us) (h : sp vs H Q E) : wpAny (model X.prog X.w) X.A (call (.ref f) us) (EP X pins σ Q) X.xe t := by
  have le : us.length = ps.length := by rw [← r.length]; exact G.len _ _ _ _ h
  have bnd := hb t us I.kIn (by rw [List.append_nil]; exact le)
  rw [List.append_nil] at bnd
  refine wpAny_call (codeAny_mono (G.go X.A X.stack t H ⟨us, []⟩ us vs Q E hr gu I.env0 bnd r h) fun res t' z => ?_)
  cases res with
  | error ex => exact tk ex t' (XE.of_call I (fun cls d H' q => hE cls d H' q) z)
  | ok fl =>
    cases fl with
    | ret u => exact I.after z
    | next => exact z.elim
    | brk => exact z.elim
    | cont => exact z.elim
/-- f(e, ..) -/
theorem ge_callF (G : FnG X.prog X.w X.K X.mg X.base k f fd ps (spF (ct0 X.K X.mg) n F)) (hr : Room k X.A) (gu : X.A.guards = some []) (hg : Gl X x) (hm : X.mg x = some (.ref f)) (hk : PySem.W.keepIn X.K (.ref f) = true) (hb : Binds X.K fd ps [])
    (tk : Takes X C.W) (ha : GA X C (e :: es) fa) (ar : Ar fa n) (hK : C.K = X.K := by rfl) (hM : C.mg = X.mg := by rfl) (hdb : (x == ("__debug__" : Str)) = false := by decide)
    (he : starEach (e :: es) X.env = (false, eval e X.env) :: starEach es X.env := by rfl) (hpl : (backTo pos (starEach es X.env)).any (·.1) = false := by rfl) : GE X C (.Call (.Name x p) (e :: es) [] pos) (eFn F fa) := by
  refine ⟨fun pins t σ H Q I h => ?_⟩
  have h := fn_reading (E := fun cls d H2 => C.W cls d σ H2) ar (fun _ _ _ z => z) h
  refine wpAny_Call_Name_kw (ld_glob I hg hm ?_ hdb)
  refine PySem.W.callWith_K (h₀ := X.base) I.ok.mod.kin hk (thn (ha.run pos pins t σ H _ I h) fun us t1 ⟨vs, H1, I1, r, q⟩ => ⟨I1.kIn, ?_⟩) he hpl
  have q : spF C n F (vs ++ []) H1 Q (fun cls d H2 => C.W cls d σ H2) := q
  rw [List.append_nil] at q
  exact run_def G hr gu hb tk (fun _ _ _ z => z) I1 r (spF_cast hK hM q)
end
/-- a def's function may be told otherwise, where it says less -/
theorem spF_less {C : Ct} {n : Nat} {F G : Fs} (h : ∀ ss, G ss = .st ∨ F ss = G ss) {vs : List V} {H : Hp} {Q : VK} {E : XK} (q : spF C n G vs H Q E) : spF C n F vs H Q E := by
  obtain ⟨l, U, ss, hh, s, q⟩ := q
  refine ⟨l, U, ss, hh, s, ?_⟩
  rcases h ss with z | z
  · rw [z] at q; exact q.elim
  · rw [z]; exact q
theorem FnG.told {P : Program} {w : World} {K : PySem.W.Frag} {mg : Str → Option Value} {base : Heap} {C : Ct} {k n : Nat} {f : Addr} {fd : FuncData} {ps : List Str} {F G : Fs} (x : FnG P w K mg base k f fd ps (spF C n F)) (h : ∀ ss, G ss = .st ∨ F ss = G ss) : FnG P w K mg base k f fd ps (spF C n G) :=
  x.weak fun _ _ _ _ q => spF_less h q
end GB
namespace GB
open PySem PySem.Spec PyProof.Rows L2
theorem scr_of {K : PySem.W.Frag} {H : Hp} {a : Addr} {xs : List V} (hO : Only H) (h : SqL K H a xs) : Scr K H a xs := by
  rcases h with (h | ⟨o, h⟩) | h
  · rcases hO a with z | ⟨_, _, z⟩ <;> (rw [h] at z; cases z)
  · exact .inl ⟨o, h⟩
  · exact .inr h
theorem ints_rps {K : PySem.W.Frag} {W : Addr → Prop} {H : Hp} : ∀ ns : List Int, Rps K W H (ns.map V.int) (ns.map D.int)
  | [] => .nil
  | n :: ns => .cons (.int n) (ints_rps ns)
/-- the law's def, at the heap behind the top -/
theorem law_run {P : Program} {w : World} {K : PySem.W.Frag} {mg mb : Str → Option Value} {k : Nat} {fa a : Addr} {fd : FuncData} {x : Str} {t : Shared} {us : List Value} {ns : List Int} {F : Fs}
    (KX : K.In t.heap) (gl : t.heap.Ns mainGlobals mg) (bl : t.heap.Ns builtinsNs mb) (bb : ∀ y : Str, y ≠ "__name__" → mb y = bootBuiltins y) (nl : t.heap.NoLimit) (ge : t.gens = #[])
    (at' : t.heap.get? a = some { cls := .type "list", data := .seq us.toArray }) (hi : IntsAre us ns) (sz : ns.length ≤ sizeLine) (room : Room k callerA)
    (G : ∀ base : Heap, K.In base → base.Ns mainGlobals mg → FnG P w K mg base k fa fd [x] (spF (ct0 K mg) 1 F)) (bd : ∀ (s : Shared) (u : Value), BindsTo s fd ⟨[u], []⟩ [(x, u)])
    (hF : F [.fz (.scr (ns.map D.int))] = .ok (.fz (.bl true)) [.fz (.scr (ns.map D.int))]) :
    codeAny (model P w) callerA (.call (.ref fa) ⟨[.ref a], []⟩) (fun r s' => r = .ok (.ret (.bool true)) ∧ OldK t.heap s'.heap ∧ s'.os = t.os ∧ AllBare s'.gens) t := by
  have rel := vals_ints hi
  have le := hi.length
  have main : ∀ H : Hp, Only H → SqL K H a (ns.map V.int) → HOk P w H t.heap → (∀ b, H b ≠ none → b = a ∧ K.lookup a = none) → codeAny (model P w) callerA (.call (.ref fa) ⟨[.ref a], []⟩) (fun r s' => r = .ok (.ret (.bool true)) ∧ OldK t.heap s'.heap ∧ s'.os = t.os ∧ AllBare s'.gens) t := by
    intro H only seq hok lone
    have other : ∀ {b : Addr} {o : Obj}, t.heap.get? b = some o → (∀ z : o = { cls := .type "list", data := .seq us.toArray }, b ≠ a) → (hidT t.heap H).get? b = some o := fun {b o} e n => by
      refine hidT_get e ?_
      cases q : H b with
      | none => rfl
      | some u =>
        obtain ⟨z, _⟩ := lone b (by rw [q]; simp)
        have e2 := e
        rw [z, at'] at e2
        exact absurd z (n (Option.some.inj e2).symm)
    have ns' : ∀ {b : Addr} {m : Str → Option Value}, t.heap.Ns b m → (hidT t.heap H).Ns b m := by
      rintro b m ⟨o, es, ep, e, d, r⟩
      refine ⟨o, es, ep, other e (fun z => ?_), d, r⟩
      rw [z] at d; cases d
    have inB : K.In (hidT t.heap H) := fun b o e => by
      refine hidT_get (KX b o e) ?_
      cases q : H b with
      | none => rfl
      | some u =>
        obtain ⟨z1, z2⟩ := lone b (by rw [q]; simp)
        rw [z1, z2] at e; cases e
    have md : Mod K mg (hidT t.heap H) := { kin := inB, glob := ns' gl, blt := ⟨mb, ns' bl, bb⟩, nolimit := let ⟨mc, h1, h2⟩ := nl; ⟨mc, ns' h1, h2⟩ }
    have none_in : ∀ b : Addr, b ∉ frs ([] : List Env) := fun b z => by simp [frs] at z
    have ev : Env0 P w K mg (hidT t.heap H) callerA [] t H := { frames := rfl, mod := md, bs := fun b o e => of_hidT e, bsz := Nat.le_of_eq (hidT_size _ _), funs := trivial, frf := fun b hb => absurd hb (none_in b), hok := hok, bare := .of_eq ge }
    have lvn : ∀ b, ¬ Lv H b := fun b z => by
      rcases only b with q | ⟨_, _, q⟩ <;> (rcases z with ⟨_, z⟩ | ⟨_, z⟩ | ⟨_, z⟩ <;> (rw [q] at z; cases z))
    have sit : Sit (ct0 K mg) (fun _ => False) H (slots [V.ref a]) (words [.fz (.scr (ns.map D.int))]) := by
      have noOwn : ∀ b, ¬ Own (slots [V.ref a]) (words [.fz (.scr (ns.map D.int))]) b := by
        rintro b ⟨i, s, h1, h2, _⟩
        match i, h1 with
        | 0, h1 => cases h1; cases h2
        | i + 1, h1 => simp [words] at h1
      refine ⟨rfl, fun i s h => ?_, fun i j s u v h1 q1 => ?_, fun b h => (noOwn b h).elim, fun b z => z.elim⟩
      · match i, h with
        | 0, h => cases h; exact ⟨_, rfl, .fz (.scr (scr_of only seq) (ints_rps ns))⟩
        | i + 1, h => simp [words] at h
      · match i, h1 with
        | 0, h1 => cases h1; cases q1
        | i + 1, h1 => simp [words] at h1
    have promise : spF (ct0 K mg) 1 F [V.ref a] H (fun v _ => v = .bl true) fun _ _ _ => False := by
      refine ⟨rfl, _, [.fz (.scr (ns.map D.int))], fun s hs ho => ?_, sit, ?_⟩
      · rw [List.mem_singleton.mp hs] at ho; cases ho
      · rw [hF]
        intro v H' U' s' a' k n
        cases k.1 with | fz x => cases x; rfl
    refine codeAny_mono ((G _ inB (ns' gl)).go callerA [] t H ⟨[.ref a], []⟩ [.ref a] [.ref a] _ _ room rfl ev (bd t (.ref a)) (.cons rfl .nil) promise) fun r s' h => ?_
    cases r with
    | error e =>
      obtain ⟨_, _, _, _, _, _, _, _, _, _, _, _, z⟩ := h
      exact z.elim
    | ok fl =>
      cases fl with
      | next => exact h.elim
      | brk => exact h.elim
      | cont => exact h.elim
      | ret u =>
        obtain ⟨v, H', os, bare, un, hok', r', q⟩ := h
        have q : v = .bl true := q
        subst q
        have r' : u = Value.bool true := r'
        refine ⟨by rw [r'], OldK.of_keep fun b o e => ?_, os, bare⟩
        rcases only b with z | ⟨ob, xs, z⟩
        · exact un.keep b o e z (none_in b) (by simp)
        · obtain ⟨e1, _⟩ := hok b _ z
          obtain ⟨e2, _⟩ := hok' b _ (un.frzs b ob _ z)
          rw [e] at e1
          rw [Option.some.inj e1]; exact e2
  cases hk : K.lookup a with
  | some o =>
    have e := KX a o hk
    rw [at'] at e
    have e := Option.some.inj e
    subst e
    refine main (fun _ => none) (fun _ => .inl rfl) (.inr ⟨_, us.toArray, _, hk, rfl, rfl, rfl, ?_, by simpa using rel⟩) (fun b u z => ?_) fun b z => absurd rfl z
    · rw [List.size_toArray, le]; exact sz
    · exact nomatch (show (none : Option HO) = some u from z)
  | none =>
    let H0 : Hp := fun b => if b = a then some (.frz { cls := .type "list", data := .seq us.toArray } (.lst (ns.map V.int))) else none
    have ya : H0 a = some (.frz { cls := .type "list", data := .seq us.toArray } (.lst (ns.map V.int))) := if_pos rfl
    have na : ∀ b, b ≠ a → H0 b = none := fun b h => if_neg h
    refine main H0 (fun b => ?_) (.inl (.inr ⟨_, ya⟩)) (fun b u z => ?_) fun b z => ⟨Classical.byContradiction fun n => z (na b n), hk⟩
    · by_cases hb : b = a
      · subst hb; exact .inr ⟨_, _, ya⟩
      · exact .inl (na b hb)
    · by_cases hb : b = a
      · subst hb
        rw [ya] at z
        have z := Option.some.inj z
        subst z
        exact ⟨at', by rw [List.length_map]; exact sz, us, _, rel, at'⟩
      · rw [na b hb] at z; cases z
/-- the goal that k_head leaves -/
theorem law_walk {l : PySem.W.OpenLaw} {n k : Nat} {q : Program} {loose : List Str} {XP : (Str → Option Value) → Heap → Prop} {YP : World → Heap → Prop} {d : DefRec} {K : Params → PySem.W.Frag} {x : Str} {F : Fs}
    (h1 : l.most = some n) (h2 : n ≤ sizeLine) (h3 : d.params.defaults = []) (room : Room k callerA) (hY : ∀ (w : World) (h : Heap), YP w h → (K w.params).In h)
    (G : ∀ (w : World) (mg : Str → Option Value) (fa : Addr) (h : Heap), (K w.params).In h → h.Ns mainGlobals mg → mg d.name = some (.ref fa) → ∃ fd : FuncData, (∀ (s : Shared) (u : Value), BindsTo s fd ⟨[u], []⟩ [(x, u)]) ∧
        ∀ base : Heap, (K w.params).In base → base.Ns mainGlobals mg → FnG l.prog w (K w.params) mg base k fa fd [x] (spF (ct0 (K w.params) mg) 1 F))
    (hF : ∀ ns : List Int, ns.length ≤ n → F [.fz (.scr (ns.map D.int))] = .ok (.fz (.bl true)) [.fz (.scr (ns.map D.int))]) :
    PySem.W.WalkO q loose XP YP l.row.toRowW d [] (fun f vs => PySem.call f vs) := by
  refine Att.attach_call h1 h3 ?_
  intro w s₀ t mg mb fa o pm cd doc a us ns gr Y _ _ _ hm at' hi le ge
  obtain ⟨fd, bd, H⟩ := G w mg fa t.heap (hY w _ Y) gr.T.g hm
  exact law_run (hY w _ Y) gr.T.g gr.T.b gr.T.builtins gr.T.nolimit ge at' hi (Nat.le_trans le h2) room H bd (hF ns le)
end GB
namespace GB
open PySem PySem.Spec PyProof.Rows L2
def p1 (f : S → Option S) : Pr := fun ss => match ss with | [a] => f a | _ => none
def p2 (f : S → S → Option S) : Pr := fun ss => match ss with | [a, b] => f a b | _ => none
def p3 (f : S → S → S → Option S) : Pr := fun ss => match ss with | [a, b, c] => f a b c | _ => none
section
variable {C : Ct}
theorem pn1 {rr : V → Hp → VK → Prop} {f : S → Option S} (h : ∀ (U W : Addr → Prop) (H : Hp) (x : V) (a s : S) (Q : VK), (∀ a, W a → Lv H a) → SR C.K U W H x a → f a = some s → (∀ v H', Got C.K W H s v H' → Q v H') → rr x H Q) :
    PN C (fun vs H Q => ∃ x, vs = [x] ∧ rr x H Q) (p1 f) := by
  intro U W H vs ss s Q lv hs hp q
  match ss, hs, hp with
  | [a], .cons x .nil, hp => exact ⟨_, rfl, h U W H _ a s Q lv x hp q⟩
theorem pn2 {rr : R2} {f : S → S → Option S} (h : ∀ (U W : Addr → Prop) (H : Hp) (x y : V) (a b s : S) (Q : VK), (∀ a, W a → Lv H a) → SR C.K U W H x a → SR C.K U W H y b → f a b = some s → (∀ v H', Got C.K W H s v H' → Q v H') → rr x y H Q) :
    PN C (fun vs H Q => ∃ x y, vs = [x, y] ∧ rr x y H Q) (p2 f) := by
  intro U W H vs ss s Q lv hs hp q
  match ss, hs, hp with
  | [a, b], .cons x (.cons y .nil), hp => exact ⟨_, _, rfl, h U W H _ _ a b s Q lv x y hp q⟩
/-- a receiver and one argument -/
theorem pnm1 {rr : V → List V → Hp → VK → Prop} {f : S → S → Option S} (h : ∀ (U W : Addr → Prop) (H : Hp) (x y : V) (a b s : S) (Q : VK), (∀ a, W a → Lv H a) → SR C.K U W H x a → SR C.K U W H y b → f a b = some s → (∀ v H', Got C.K W H s v H' → Q v H') → rr x [y] H Q) :
    PN C (fun vs H Q => ∃ x xs, vs = x :: xs ∧ rr x xs H Q) (p2 f) := by
  intro U W H vs ss s Q lv hs hp q
  match ss, hs, hp with
  | [a, b], .cons x (.cons y .nil), hp => exact ⟨_, _, rfl, h U W H _ _ a b s Q lv x y hp q⟩
theorem pnm0 {rr : V → List V → Hp → VK → Prop} {f : S → Option S} (h : ∀ (U W : Addr → Prop) (H : Hp) (x : V) (a s : S) (Q : VK), (∀ a, W a → Lv H a) → SR C.K U W H x a → f a = some s → (∀ v H', Got C.K W H s v H' → Q v H') → rr x [] H Q) :
    PN C (fun vs H Q => ∃ x xs, vs = x :: xs ∧ rr x xs H Q) (p1 f) := by
  intro U W H vs ss s Q lv hs hp q
  match ss, hs, hp with
  | [a], .cons x .nil, hp => exact ⟨_, _, rfl, h U W H _ a s Q lv x hp q⟩
def asL : S → Option (List D)
  | .fz (.lst ds) => some ds | .ol ds => some ds | .br ds => some ds | .lk ds => some ds | _ => none
/-- lists, the script too -/
def asLs : S → Option (List D)
  | .fz (.scr ds) => some ds
  | s => asL s
variable {K : PySem.W.Frag} {U W : Addr → Prop} {H : Hp} {v : V} {s : S}
theorem asL_of (x : SR K U W H v s) {ds : List D} (h : asL s = some ds) : ∃ p xs, v = .ref p ∧ H p = some (.lst xs) ∧ Rps K W H xs ds := by
  cases x with
  | fz x => cases x <;> first | (cases h; done) | (cases h; exact ⟨_, _, rfl, by assumption, by assumption⟩)
  | ol e x => cases h; exact ⟨_, _, rfl, e, x⟩
  | br e x => cases h; exact ⟨_, _, rfl, e, x⟩
  | lk e u x => cases h; exact ⟨_, _, rfl, e, x⟩
  | _ => cases h
theorem asLs_of (x : SR K U W H v s) {ds : List D} (h : asLs s = some ds) : ∃ p xs, v = .ref p ∧ SqL K H p xs ∧ Rps K W H xs ds := by
  by_cases hs : ∃ d, s = .fz (.scr d)
  · obtain ⟨d, rfl⟩ := hs
    cases h
    cases x with | fz x => cases x with | scr e x => exact ⟨_, _, rfl, e.seq, x⟩
  · have h' : asL s = some ds := by
      cases s with
      | fz d => cases d <;> first | exact h | exact absurd ⟨_, rfl⟩ hs
      | _ => exact h
    obtain ⟨p, xs, e1, e2, e3⟩ := asL_of x h'
    exact ⟨p, xs, e1, .of e2, e3⟩
theorem rps_append : ∀ {xs ys : List V} {ds es : List D}, Rps K W H xs ds → Rps K W H ys es → Rps K W H (xs ++ ys) (ds ++ es)
  | _, _, _, _, .nil, h => h
  | _, _, _, _, .cons x t, h => .cons x (rps_append t h)
theorem rps_take : ∀ {xs : List V} {ds : List D} (n : Nat), Rps K W H xs ds → Rps K W H (xs.take n) (ds.take n)
  | _, _, 0, _ => .nil
  | _, _, _ + 1, .nil => .nil
  | _, _, n + 1, .cons x t => .cons x (rps_take n t)
theorem rps_drop : ∀ {xs : List V} {ds : List D} (n : Nat), Rps K W H xs ds → Rps K W H (xs.drop n) (ds.drop n)
  | _, _, 0, h => h
  | _, _, _ + 1, .nil => .nil
  | _, _, n + 1, .cons x t => rps_drop n t
theorem rps_at : ∀ {xs : List V} {ds : List D} {n : Nat} {d : D}, Rps K W H xs ds → ds[n]? = some d → ∃ x, xs[n]? = some x ∧ Rp K W H x d
  | _, _, _, _, .nil, h => by simp at h
  | _, _, 0, _, .cons x t, h => by cases h; exact ⟨_, rfl, x⟩
  | _, _, n + 1, _, .cons x t, h => by
    obtain ⟨y, e, z⟩ := rps_at (n := n) t (by simpa using h)
    exact ⟨y, by simpa using e, z⟩
theorem rps_set : ∀ {xs : List V} {ds : List D} {v : V} {d : D} (n : Nat), Rps K W H xs ds → Rp K W H v d → Rps K W H (xs.set n v) (ds.set n d)
  | _, _, _, _, _, .nil, _ => .nil
  | _, _, _, _, 0, .cons _ t, h => .cons h t
  | _, _, _, _, n + 1, .cons x t, h => .cons x (rps_set n t h)
theorem rps_rep {xs : List V} {ds : List D} (h : Rps K W H xs ds) : ∀ n, Rps K W H (List.replicate n xs).flatten (List.replicate n ds).flatten
  | 0 => .nil
  | n + 1 => by rw [List.replicate_succ, List.replicate_succ]; exact rps_append h (rps_rep h n)
def big (n : Nat) : Bool := decide (n ≤ 16777216)
theorem big_le {n : Nat} (h : big n = true) : n ≤ sizeLine := by rw [sizeLine_eq]; exact of_decide_eq_true h
def fAdd : S → S → Option S
  | .fz (.int i), .fz (.int j) => some (.fz (.int (i + j)))
  | .fz (.str a), .fz (.str b) => if big (a.length + b.length) then some (.fz (.str (a ++ b))) else none
  | .fz (.tup a), .fz (.tup b) => if a.isEmpty then some (.fz (.tup b)) else if big (a.length + b.length) then some (.fz (.tup (a ++ b))) else none
  | a, b => match asL a, asL b with
    | some x, some y => if big (x.length + y.length) then some (.ol (x ++ y)) else none
    | _, _ => none
/-- () + u is u itself -/
def rCat0 (K : PySem.W.Frag) : R2 := fun x y H Q => ∃ a b ys, x = .ref a ∧ y = .ref b ∧ SqT K H a [] ∧ SqT K H b ys ∧ Q (.ref b) H
theorem op_cat0 {X : Cx} : OpR X (binaryOp .Add) (rCat0 X.K) := by
  intro pins s σ H x y v u Q I rx ry h
  obtain ⟨a, b, ys, rfl, rfl, ha, hb, q⟩ := h
  cases rx
  cases ry
  obtain ⟨l1, w1, k1, _⟩ := I.tuple ha
  obtain ⟨l2, w2, k2, _⟩ := I.tuple hb
  cases w1
  obtain ⟨⟨c1, d1, t1, z1⟩, g1, f1, n1, m1⟩ := id k1
  obtain ⟨⟨c2, d2, t2, z2⟩, g2, f2, n2, m2⟩ := id k2
  simp only at f1 m1 f2 m2
  subst f1 m1 f2 m2
  exact concat_meets ⟨_, g1, rfl⟩ ⟨_, g2, rfl⟩ noFill_tuple_add seq_tuple_add PySem.F.slot_tuple_add PySem.F.entry_tuple_add (PySem.F.args_tuple_add_2 _ _) (tuple_addW0 a b _ l2.toArray n1 n2 d1 d2 z1 z2 rfl) ⟨g1, g2, ⟨.ref b, H, I, rfl, q⟩⟩
/-- t + u, t not empty: a new tuple, or t itself -/
def rCatTX (K : PySem.W.Frag) : R2 := fun x y H Q => ∃ a b xs ys, x = .ref a ∧ y = .ref b ∧ SqT K H a xs ∧ SqT K H b ys ∧ xs ≠ [] ∧ xs.length + ys.length ≤ sizeLine ∧
  (ys = [] → Q (.ref a) H) ∧ (ys ≠ [] → ∀ p o, TupO o → H p = none → Q (.ref p) (upd H p (.frz o (.tup (xs ++ ys)))))
theorem op_catTX {X : Cx} : OpR X (binaryOp .Add) (rCatTX X.K) := by
  intro pins s σ H x y v u Q I rx ry h
  obtain ⟨a, b, xs, ys, rfl, rfl, ha, hb, hx, hz, q1, q2⟩ := h
  cases rx
  cases ry
  obtain ⟨its, r1, p1, _⟩ := I.tuple ha
  obtain ⟨its2, r2, p2, _⟩ := I.tuple hb
  refine HT.cat_tup p1 p2 (fun z => hx (r1.nil_iff.mp z)) (fun z => ⟨.ref a, H, I, rfl, q1 (r2.nil_iff.mp z)⟩) (fun z => ?_) (by rw [← r1.length, ← r2.length]; exact hz)
  refine ⟨.ref s.heap.objs.size, _, I.laid (t' := s.toks) (o := .frz _ (.tup (xs ++ ys))) (fun b ob q => Heap.get?_push_of_some _ q) (Nat.le_refl _) ⟨Heap.get?_push_size _ rfl, ?_⟩, rfl, q2 (fun w => z (r2.nil_iff.mpr w)) _ _ ⟨rfl, rfl⟩ (I.hok.fresh (Nat.le_refl _))⟩
  exact ⟨by rw [List.length_append]; exact hz, _, r1.append r2, IsTup.new _ _⟩
def rAddU (K : PySem.W.Frag) : R2 := fun x y H Q => rI0 (fun i j => .int (i + j)) x y H Q ∨ (∃ i j, x = .str i ∧ y = .str j ∧ i.length + j.length ≤ sizeLine ∧ Q (.str (i ++ j)) H) ∨ (rCatTX K x y H Q ∨ rCat0 K x y H Q) ∨ rCat x y H Q
theorem op_addU {X : Cx} : OpR X (binaryOp .Add) (rAddU X.K) := op_add.or (op_add_str.or ((op_catTX.or op_cat0).or op_cat))
theorem str_len (l : List Nat) : (⟨l.toArray⟩ : Str).length = l.length := by simp [Str.length]
theorem str_app (a b : List Nat) : (⟨a.toArray⟩ : Str) ++ ⟨b.toArray⟩ = ⟨(a ++ b).toArray⟩ := by
  show Str.mk _ = _
  simp
theorem pn_add : PN C (fun vs H Q => ∃ x y, vs = [x, y] ∧ rAddU C.K x y H Q) (p2 fAdd) := by
  refine pn2 fun U W H x y a b s Q lv xa xb h q => ?_
  have lists : (match asL a, asL b with
      | some x, some y => if big (x.length + y.length) then some (S.ol (x ++ y)) else none
      | _, _ => none) = some s → rCat x y H Q := fun h => by
    cases e1 : asL a with
    | none => rw [e1] at h; cases h
    | some da =>
      cases e2 : asL b with
      | none => rw [e1, e2] at h; cases h
      | some db =>
        rw [e1, e2] at h
        dsimp only at h
        by_cases hb : big (da.length + db.length) = true
        · rw [if_pos hb] at h; cases h
          obtain ⟨p, xs, rfl, hp, hx⟩ := asL_of xa e1
          obtain ⟨p', ys, rfl, hp', hy⟩ := asL_of xb e2
          refine ⟨p, p', xs, ys, rfl, rfl, hp, hp', by rw [hx.len, hy.len]; exact big_le hb, fun z hz => q _ _ ?_⟩
          exact Got.newL (C := C) lv hz (rps_append hx hy)
        · rw [if_neg hb] at h; cases h
  cases a with
  | fz a =>
    cases a with
    | int i =>
      cases b with
      | fz b =>
        cases b with
        | int j =>
          cases h
          cases xa with | fz xa => cases xa; cases xb with | fz xb => cases xb; exact .inl ⟨i, j, rfl, rfl, q _ _ (.same (.int _))⟩
        | _ => first | exact .inr (.inr (.inr (lists h))) | (cases h)
      | _ => exact .inr (.inr (.inr (lists h)))
    | str l =>
      cases b with
      | fz b =>
        cases b with
        | str m =>
          have h : (if big (l.length + m.length) then some (S.fz (.str (l ++ m))) else none) = some s := h
          by_cases hb : big (l.length + m.length) = true
          · rw [if_pos hb] at h; cases h
            cases xa with | fz xa => cases xa; cases xb with | fz xb => cases xb; exact .inr (.inl ⟨_, _, rfl, rfl, by rw [str_len, str_len]; exact big_le hb, by rw [str_app]; exact q _ _ (.same (.str _))⟩)
          · rw [if_neg hb] at h; cases h
        | _ => first | exact .inr (.inr (.inr (lists h))) | (cases h)
      | _ => exact .inr (.inr (.inr (lists h)))
    | tup l =>
      cases b with
      | fz b =>
        cases b with
        | tup m =>
          have h : (if l.isEmpty = true then some (S.fz (.tup m)) else if big (l.length + m.length) = true then some (S.fz (.tup (l ++ m))) else none) = some s := h
          cases xa with
          | fz xa =>
            cases xa with
            | @tup p xs _ ea ta =>
              cases xb with
              | fz xb =>
                cases xb with
                | @tup p' ys _ eb tb =>
                  by_cases he : l.isEmpty = true
                  · rw [if_pos he] at h; cases h
                    have : l = [] := List.isEmpty_iff.mp he
                    subst this
                    cases ta
                    exact .inr (.inr (.inl (.inr ⟨p, p', ys, rfl, rfl, ea.sq, eb.sq, q _ _ (.same (.tup eb tb))⟩)))
                  · rw [if_neg he] at h
                    by_cases hb : big (l.length + m.length) = true
                    · rw [if_pos hb] at h; cases h
                      refine .inr (.inr (.inl (.inl ⟨p, p', xs, ys, rfl, rfl, ea.sq, eb.sq, fun z => ?_, by rw [ta.len, tb.len]; exact big_le hb, fun z => ?_, fun _ z o ho hz => ?_⟩)))
                      · subst z; cases ta; exact he rfl
                      · subst z; cases tb
                        rw [List.append_nil] at q
                        exact q _ _ (.same (.tup ea ta))
                      · exact q _ _ (Got.newT (C := C) lv hz ho (rps_append ta tb))
                    · rw [if_neg hb] at h; cases h
        | _ => first | exact .inr (.inr (.inr (lists h))) | (cases h)
      | _ => exact .inr (.inr (.inr (lists h)))
    | _ => exact .inr (.inr (.inr (lists h)))
  | _ => exact .inr (.inr (.inr (lists h)))
theorem sr_int {i : Int} (x : SR K U W H v (.fz (.int i))) : v = .int i := by cases x with | fz x => cases x; rfl
theorem sr_str {l : List Nat} (x : SR K U W H v (.fz (.str l))) : v = .str ⟨l.toArray⟩ := by cases x with | fz x => cases x; rfl
theorem sr_bl {b : Bool} (x : SR K U W H v (.fz (.bl b))) : v = .bl b := by cases x with | fz x => cases x; rfl
theorem sr_non (x : SR K U W H v (.fz .non)) : v = .non := by cases x with | fz x => cases x; rfl
/-- two ints: what a function of ints asks -/
def fInts (f : Int → Int → Option S) : S → S → Option S
  | .fz (.int i), .fz (.int j) => f i j
  | _, _ => none
theorem pn_ints {rr : R2} {f : Int → Int → Option S} (h : ∀ (W : Addr → Prop) (H : Hp) (i j : Int) (s : S) (Q : VK), f i j = some s → (∀ v H', Got C.K W H s v H' → Q v H') → rr (.int i) (.int j) H Q) : PN C (fun vs H Q => ∃ x y, vs = [x, y] ∧ rr x y H Q) (p2 (fInts f)) := by
  refine pn2 fun U W H x y a b s Q lv xa xb hf q => ?_
  cases a with
  | fz a =>
    cases a with
    | int i =>
      cases b with
      | fz b =>
        cases b with
        | int j => rw [sr_int xa, sr_int xb]; exact h W H i j s Q hf q
        | _ => cases hf
      | _ => cases hf
    | _ => cases hf
  | _ => cases hf
theorem pn_sub : PN C (fun vs H Q => ∃ x y, vs = [x, y] ∧ rI0 (fun i j => .int (i - j)) x y H Q) (p2 (fInts fun i j => some (.fz (.int (i - j))))) :=
  pn_ints fun W H i j s Q h q => by cases h; exact ⟨i, j, rfl, rfl, q _ _ (.same (.int _))⟩
def fModI (i j : Int) : Option S := if 0 < j then some (.fz (.int (i % j))) else none
theorem pn_mod : PN C (fun vs H Q => ∃ x y, vs = [x, y] ∧ rI (fun _ j => 0 < j) (fun i j => .int (i % j)) x y H Q) (p2 (fInts fModI)) :=
  pn_ints fun W H i j s Q h q => by
    unfold fModI at h
    by_cases z : 0 < j
    · rw [if_pos z] at h; cases h; exact ⟨i, j, rfl, rfl, z, q _ _ (.same (.int _))⟩
    · rw [if_neg z] at h; cases h
def fDivI (i j : Int) : Option S := if 0 < j ∧ j < 1073741824 then some (.fz (.int (i / j))) else none
theorem pn_div : PN C (fun vs H Q => ∃ x y, vs = [x, y] ∧ rI CDiv (fun i j => .int (i / j)) x y H Q) (p2 (fInts fDivI)) :=
  pn_ints fun W H i j s Q h q => by
    unfold fDivI at h
    by_cases z : 0 < j ∧ j < 1073741824
    · rw [if_pos z] at h; cases h; exact ⟨i, j, rfl, rfl, z, q _ _ (.same (.int _))⟩
    · rw [if_neg z] at h; cases h
def fPowI (i j : Int) : Option S := if 0 ≤ j ∧ j ≤ 1000000 ∧ i.natAbs < 2 ^ 64 then some (.fz (.int (i ^ j.toNat))) else none
theorem pn_pow : PN C (fun vs H Q => ∃ x y, vs = [x, y] ∧ rI CPow (fun i j => .int (i ^ j.toNat)) x y H Q) (p2 (fInts fPowI)) :=
  pn_ints fun W H i j s Q h q => by
    unfold fPowI at h
    by_cases z : 0 ≤ j ∧ j ≤ 1000000 ∧ i.natAbs < 2 ^ 64
    · rw [if_pos z] at h; cases h; exact ⟨i, j, rfl, rfl, z, q _ _ (.same (.int _))⟩
    · rw [if_neg z] at h; cases h
/-- ints; a list so many times -/
def fMul : S → S → Option S
  | .fz (.int i), .fz (.int j) => if (-(2 ^ 64) < i ∧ i < 2 ^ 64) ∨ (-(2 ^ 64) < j ∧ j < 2 ^ 64) then some (.fz (.int (i * j))) else none
  | a, .fz (.int k) => (match asL a with
    | some ds => if -(2 ^ 63) ≤ k ∧ k < 2 ^ 63 ∧ ds.length * k.toNat ≤ 16777216 then some (.ol (List.replicate k.toNat ds).flatten) else none
    | none => none)
  | _, _ => none
def rMulU : R2 := fun x y H Q => rI CMul (fun i j => .int (i * j)) x y H Q ∨ rRep x y H Q
theorem op_mulU {X : Cx} : OpR X (binaryOp .Mult) rMulU := op_mul.or op_rep
theorem pn_mul : PN C (fun vs H Q => ∃ x y, vs = [x, y] ∧ rMulU x y H Q) (p2 fMul) := by
  refine pn2 fun U W H x y a b s Q lv xa xb h q => ?_
  cases b with
  | fz b =>
    cases b with
    | int k =>
      rw [sr_int xb]
      by_cases ha : ∃ i, a = .fz (.int i)
      · obtain ⟨i, rfl⟩ := ha
        rw [sr_int xa]
        have h : (if (-(2 ^ 64) < i ∧ i < 2 ^ 64) ∨ (-(2 ^ 64) < k ∧ k < 2 ^ 64) then some (S.fz (.int (i * k))) else none) = some s := h
        by_cases z : (-(2 ^ 64) < i ∧ i < 2 ^ 64) ∨ (-(2 ^ 64) < k ∧ k < 2 ^ 64)
        · rw [if_pos z] at h; cases h; exact .inl ⟨i, k, rfl, rfl, z, q _ _ (.same (.int _))⟩
        · rw [if_neg z] at h; cases h
      · have h : (match asL a with
            | some ds => if -(2 ^ 63) ≤ k ∧ k < 2 ^ 63 ∧ ds.length * k.toNat ≤ 16777216 then some (S.ol (List.replicate k.toNat ds).flatten) else none
            | none => none) = some s := by
          cases a with
          | fz a => cases a <;> first | exact h | exact absurd ⟨_, rfl⟩ ha
          | _ => exact h
        cases e1 : asL a with
        | none => rw [e1] at h; cases h
        | some ds =>
          rw [e1] at h
          dsimp only at h
          by_cases z : -(2 ^ 63) ≤ k ∧ k < 2 ^ 63 ∧ ds.length * k.toNat ≤ 16777216
          · rw [if_pos z] at h; cases h
            obtain ⟨p, xs, rfl, hp, hx⟩ := asL_of xa e1
            refine .inr ⟨p, k, xs, rfl, rfl, hp, z.1, z.2.1, by rw [hx.len, sizeLine_eq]; exact z.2.2, fun l hl => q _ _ ?_⟩
            exact Got.newL (C := C) lv hl (rps_rep hx _)
          · rw [if_neg z] at h; cases h
    | _ => cases a <;> first | cases h | (rename_i d; cases d <;> cases h)
  | _ => cases a <;> first | cases h | (rename_i d; cases d <;> cases h)
def fNeg : S → Option S
  | .fz (.int i) => some (.fz (.int (-i)))
  | _ => none
theorem pn_neg : PN C (fun vs H Q => ∃ x, vs = [x] ∧ rU (fun i => .int (-i)) x H Q) (p1 fNeg) := by
  refine pn1 fun U W H x a s Q lv xa h q => ?_
  cases a with
  | fz a =>
    cases a with
    | int i => cases h; rw [sr_int xa]; exact ⟨i, rfl, q _ _ (.same (.int _))⟩
    | _ => cases h
  | _ => cases h
end
end GB
namespace GB
open PySem PySem.Spec PyProof.Rows L2
section
variable {C : Ct} {K : PySem.W.Frag} {U W : Addr → Prop} {H : Hp} {v : V} {s : S}
mutual
def D.py : D → PyData
  | .non => .none
  | .bl b => .bool b
  | .int i => .int i
  | .str l => .str ⟨l.toArray⟩
  | .tup ds => .tuple (pyAll ds)
  | .lst ds => .list (pyAll ds)
  | .scr ds => .list (pyAll ds)
  | .dic _ _ => .dict []
def pyAll : List D → List PyData
  | [] => []
  | d :: ds => d.py :: pyAll ds
end
mutual
theorem Rp.dp : ∀ {v : V} {d : D}, Rp K W H v d → d.py.hasDict = false → Dp K H v d.py
  | _, _, .non, _ => .non
  | _, _, .bl b, _ => .bl b
  | _, _, .int i, _ => .int i
  | _, _, .str l, _ => .str _
  | _, _, .tup h t, q => .tup h.sq (Rps.dp t (by rw [D.py, PyData.hasDict] at q; exact q))
  | _, _, .lst h n t, q => .lst (.of h) (Rps.dp t (by rw [D.py, PyData.hasDict] at q; exact q))
  | _, _, .scr h t, q => .lst h.seq (Rps.dp t (by rw [D.py, PyData.hasDict] at q; exact q))
  | _, _, .dic _ _ _ _, q => absurd q (by rw [D.py, PyData.hasDict]; exact Bool.noConfusion)
theorem Rps.dp : ∀ {v : List V} {d : List D}, Rps K W H v d → PyData.hasDictAll (pyAll d) = false → DpAll K H v (pyAll d)
  | _, _, .nil, _ => .nil
  | _, _, .cons h t, q => by
    rw [pyAll, PyData.hasDictAll, Bool.or_eq_false_iff] at q
    exact .cons (Rp.dp h q.1) (Rps.dp t q.2)
end
/-- a word as a tree -/
def S.tree : S → Option D
  | .fz d => some d
  | .ol ds => some (.lst ds) | .br ds => some (.lst ds) | .lk ds => some (.lst ds)
  | _ => none
theorem tree_dp (x : SR K U W H v s) {d : D} (h : s.tree = some d) (q : d.py.hasDict = false) : Dp K H v d.py := by
  have ql : ∀ ds, (D.lst ds).py.hasDict = false → PyData.hasDictAll (pyAll ds) = false := fun ds q => by rw [D.py, PyData.hasDict] at q; exact q
  cases x with
  | fz x => cases h; exact x.dp q
  | ol e x => cases h; exact .lst (.of e) (x.dp (ql _ q))
  | br e x => cases h; exact .lst (.of e) (x.dp (ql _ q))
  | lk e u x => cases h; exact .lst (.of e) (x.dp (ql _ q))
  | _ => cases h
/-- equal, as trees; told only where both may be compared -/
def D.same (a b : D) : Bool := PyData.eqv a.py b.py
def D.fit (d : D) : Bool := SeqAt.shaped d.py && !d.py.hasDict
def eqS : S → S → Option Bool
  | .fz (.int i), .fz (.int j) => some (decide (i = j))
  | .fz (.str a), .fz (.str b) => some (decide (a = b))
  | .fz (.bl a), .fz (.bl b) => some (decide (a = b))
  | a, b => match a.tree, b.tree with
    | some x, some y => if x.fit && y.fit then some (x.same y) else none
    | _, _ => none
def rEqU (K : PySem.W.Frag) : R2 := fun x y H Q => rEq x y H Q ∨ rEqD K x y H Q
def rNeU (K : PySem.W.Frag) : R2 := fun x y H Q => rNe x y H Q ∨ rNeD K x y H Q
theorem op_eqU {X : Cx} (hu : X.A.units + 64 < cLine) : OpR X (compareOp .Eq) (rEqU X.K) := op_eq.or (op_eqD hu)
theorem op_neU {X : Cx} (hu : X.A.units + 64 < cLine) : OpR X (compareOp .NotEq) (rNeU X.K) := op_ne.or (op_neD hu)
theorem eqS_of {x y : V} {a b : S} {k : Bool} (xa : SR K U W H x a) (xb : SR K U W H y b) (h : eqS a b = some k) : (scal x y = true ∧ decide (x = y) = k) ∨ ∃ d e, Dp K H x d ∧ Dp K H y e ∧ SeqAt.shaped d = true ∧ SeqAt.shaped e = true ∧ PyData.eqv d e = k := by
  have deep : (match a.tree, b.tree with
      | some x, some y => if (x.fit && y.fit) = true then some (x.same y) else none
      | _, _ => none) = some k → ∃ d e, Dp K H x d ∧ Dp K H y e ∧ SeqAt.shaped d = true ∧ SeqAt.shaped e = true ∧ PyData.eqv d e = k := fun h => by
    cases e1 : a.tree with
    | none => rw [e1] at h; cases h
    | some da =>
      cases e2 : b.tree with
      | none => rw [e1, e2] at h; cases h
      | some db =>
        rw [e1, e2] at h
        dsimp only at h
        by_cases z : (da.fit && db.fit) = true
        · rw [if_pos z] at h; cases h
          rw [Bool.and_eq_true] at z
          have z1 := Bool.and_eq_true_iff.mp (show (SeqAt.shaped da.py && !da.py.hasDict) = true from z.1)
          have z2 := Bool.and_eq_true_iff.mp (show (SeqAt.shaped db.py && !db.py.hasDict) = true from z.2)
          exact ⟨_, _, tree_dp xa e1 (by simpa using z1.2), tree_dp xb e2 (by simpa using z2.2), z1.1, z2.1, rfl⟩
        · rw [if_neg z] at h; cases h
  cases a with
  | fz a =>
    cases a with
    | int i =>
      cases b with
      | fz b =>
        cases b with
        | int j => cases h; rw [sr_int xa, sr_int xb]; exact .inl ⟨rfl, by simp⟩
        | _ => exact .inr (deep h)
      | _ => exact .inr (deep h)
    | str l =>
      cases b with
      | fz b =>
        cases b with
        | str m => cases h; rw [sr_str xa, sr_str xb]; exact .inl ⟨rfl, by simp⟩
        | _ => exact .inr (deep h)
      | _ => exact .inr (deep h)
    | bl l =>
      cases b with
      | fz b =>
        cases b with
        | bl m => cases h; rw [sr_bl xa, sr_bl xb]; exact .inl ⟨rfl, by simp⟩
        | _ => exact .inr (deep h)
      | _ => exact .inr (deep h)
    | _ => exact .inr (deep h)
  | _ => exact .inr (deep h)
def fEq (a b : S) : Option S := (eqS a b).map fun k => .fz (.bl k)
def fNe (a b : S) : Option S := (eqS a b).map fun k => .fz (.bl (!k))
theorem pn_eq : PN C (fun vs H Q => ∃ x y, vs = [x, y] ∧ rEqU C.K x y H Q) (p2 fEq) := by
  refine pn2 fun U W H x y a b s Q lv xa xb h q => ?_
  unfold fEq at h
  cases e : eqS a b with
  | none => rw [e] at h; cases h
  | some k =>
    rw [e] at h; cases h
    have fin := q (.bl k) H (.same (.bl k))
    rcases eqS_of xa xb e with ⟨h1, h2⟩ | ⟨d, e', h1, h2, h3, h4, h5⟩
    · exact .inl ⟨h1, by rw [h2]; exact fin⟩
    · exact .inr ⟨d, e', h1, h2, h3, h4, by rw [h5]; exact fin⟩
theorem pn_ne : PN C (fun vs H Q => ∃ x y, vs = [x, y] ∧ rNeU C.K x y H Q) (p2 fNe) := by
  refine pn2 fun U W H x y a b s Q lv xa xb h q => ?_
  unfold fNe at h
  cases e : eqS a b with
  | none => rw [e] at h; cases h
  | some k =>
    rw [e] at h; cases h
    have fin := q (.bl (!k)) H (.same (.bl (!k)))
    rcases eqS_of xa xb e with ⟨h1, h2⟩ | ⟨d, e', h1, h2, h3, h4, h5⟩
    · exact .inl ⟨h1, by rw [h2]; exact fin⟩
    · exact .inr ⟨d, e', h1, h2, h3, h4, by rw [h5]; exact fin⟩
theorem pn_cmpI (f : Int → Int → Bool) : PN C (fun vs H Q => ∃ x y, vs = [x, y] ∧ rI0 (fun i j => .bl (f i j)) x y H Q) (p2 (fInts fun i j => some (.fz (.bl (f i j))))) :=
  pn_ints fun W H i j s Q h q => by cases h; exact ⟨i, j, rfl, rfl, q _ _ (.same (.bl _))⟩
/-- p stands in l from i on -/
def subAtL (p l : List Nat) (i : Nat) : Bool := decide (i + p.length ≤ l.length) && ((l.drop i).take p.length == p)
/-- the first place where p stands in l -/
def subIx (p l : List Nat) : Option Nat := (List.range (l.length + 1)).find? (subAtL p l)
open Builtin.Str PySem.StrLaws in
theorem occ_after (s sub : Str) (hi : Nat) : ∀ (l : List Nat) (st : Array Nat × Nat), 1 ≤ st.1.size → (forIn l st (occBody s sub hi 1)).run.fst = st.1
  | [], _, _ => rfl
  | a :: l, st, h => by
    rw [List.forIn_cons]
    unfold occBody
    have c : ¬ (((st.fst.size < 1 ∧ st.snd ≤ a) ∧ a + sub.length ≤ hi) ∧ subAt s sub a = true) := fun z => absurd z.1.1.1 (Nat.not_lt.mpr h)
    rw [if_neg c]
    exact occ_after s sub hi l _ h
open Builtin.Str PySem.StrLaws in
theorem occ_first (s sub : Str) (hi : Nat) (P : Nat → Bool) (hP : ∀ i, P i = true ↔ (i + sub.length ≤ hi ∧ subAt s sub i = true)) : ∀ (l : List Nat) (fr : Nat), (∀ i ∈ l, fr ≤ i) →
    (forIn l ((#[] : Array Nat), fr) (occBody s sub hi 1)).run.fst.toList = (l.find? P).toList
  | [], _, _ => rfl
  | a :: l, fr, hf => by
    rw [List.forIn_cons]
    have ha : fr ≤ a := hf a (List.mem_cons_self ..)
    cases hp : P a with
    | true =>
      have z := (hP a).mp hp
      have c1 : (((#[] : Array Nat), fr).fst.size < 1 ∧ ((#[] : Array Nat), fr).snd ≤ a) ∧ a + sub.length ≤ hi := ⟨⟨by simp, ha⟩, z.1⟩
      have e : occBody s sub hi 1 a (#[], fr) = pure (ForInStep.yield (#[a], a + sub.length)) := by
        unfold occBody
        rw [if_pos ⟨c1, z.2⟩]
        rfl
      rw [e]
      show (forIn l (#[a], a + sub.length) (occBody s sub hi 1)).run.fst.toList = _
      rw [occ_after s sub hi l _ (by simp), List.find?_cons_of_pos hp]
      rfl
    | false =>
      have z : ¬ (a + sub.length ≤ hi ∧ subAt s sub a = true) := fun q => by rw [(hP a).mpr q] at hp; cases hp
      have e : occBody s sub hi 1 a (#[], fr) = pure (ForInStep.yield (#[], fr)) := by
        unfold occBody
        rw [if_neg fun q => z ⟨q.1.2, q.2⟩]
      rw [e]
      show (forIn l (#[], fr) (occBody s sub hi 1)).run.fst.toList = _
      rw [occ_first s sub hi P hP l fr (fun i h => hf i (List.mem_cons_of_mem _ h)), List.find?_cons_of_neg (by simp [hp])]
theorem occ_subIx (l p : List Nat) : Builtin.Str.occurrences ⟨l.toArray⟩ ⟨p.toArray⟩ 0 (⟨l.toArray⟩ : Str).length 1 = (subIx p l).toList := by
  rw [PySem.StrLaws.occ_eq, occ_first _ _ _ (subAtL p l) (fun i => ?_) _ _ (fun _ _ => Nat.zero_le _)]
  · rw [str_len, List.range'_eq_map_range]
    simp [subIx]
  · unfold subAtL
    rw [PySem.StrLaws.subAt_eq, str_len, str_len, Bool.and_eq_true, decide_eq_true_eq]
mutual
def D.flat : D → Bool
  | .tup _ => false | .lst _ => false | .scr _ => false | .dic _ _ => false | _ => true
end
def eqFlat : D → D → Bool
  | .non, .non => true
  | .bl a, .bl b => a == b
  | .int a, .int b => a == b
  | .str a, .str b => a == b
  | .bl a, .int b => (if a then 1 else 0) == b
  | .int a, .bl b => a == (if b then 1 else 0)
  | _, _ => false
end
end GB
namespace GB
open PySem PySem.Spec PyProof.Rows L2
section
variable {C : Ct} {K : PySem.W.Frag} {U W : Addr → Prop} {H : Hp} {v : V} {s : S}
/-- a list or a tuple that is read -/
def asQ : S → Option (List D)
  | .fz (.tup ds) => some ds
  | s => asLs s
theorem asQ_of (x : SR K U W H v s) {ds : List D} (h : asQ s = some ds) : ∃ p xs, v = .ref p ∧ (SqL K H p xs ∨ SqT K H p xs) ∧ Rps K W H xs ds := by
  by_cases hs : ∃ d, s = .fz (.tup d)
  · obtain ⟨d, rfl⟩ := hs
    cases h
    cases x with | fz x => cases x with | tup e x => exact ⟨_, _, rfl, .inr e.sq, x⟩
  · have h' : asLs s = some ds := by
      cases s with
      | fz d => cases d <;> first | exact h | exact absurd ⟨_, rfl⟩ hs
      | _ => exact h
    obtain ⟨p, xs, e1, e2, e3⟩ := asLs_of x h'
    exact ⟨p, xs, e1, .inl e2, e3⟩
theorem asQX_of (x : SR K U W H v s) {ds : List D} (h : asQ s = some ds) : ∃ p xs, v = .ref p ∧ (SqL K H p xs ∨ SqX K H p xs) ∧ Rps K W H xs ds := by
  by_cases hs : ∃ d, s = .fz (.tup d)
  · obtain ⟨d, rfl⟩ := hs
    cases h
    cases x with | fz x => cases x with | tup e x => exact ⟨_, _, rfl, .inr e, x⟩
  · have h' : asLs s = some ds := by
      cases s with
      | fz d => cases d <;> first | exact h | exact absurd ⟨_, rfl⟩ hs
      | _ => exact h
    obtain ⟨p, xs, e1, e2, e3⟩ := asLs_of x h'
    exact ⟨p, xs, e1, .inl e2, e3⟩
theorem flat_v {d : D} (x : Rp K W H v d) (h : d.flat = true) : flatV v = true := by cases x <;> first | rfl | cases h
theorem strBeq (a b : List Nat) : ((⟨a.toArray⟩ : Str) == ⟨b.toArray⟩) = (a == b) := by
  rw [Bool.eq_iff_iff, beq_iff_eq, beq_iff_eq]
  simp
theorem eqFlat_v {w : V} {a b : D} (x : Rp K W H v a) (y : Rp K W H w b) (ha : a.flat = true) (hb : b.flat = true) : eqV v w = eqFlat a b := by
  cases x <;> first | (cases ha; done) | (cases y <;> first | (cases hb; done) | rfl | exact strBeq _ _)
theorem rps_flat : ∀ {xs : List V} {ds : List D}, Rps K W H xs ds → ds.all D.flat = true → xs.all flatV = true
  | _, _, .nil, _ => rfl
  | _, _, .cons x t, h => by
    rw [List.all_cons, Bool.and_eq_true] at h ⊢
    exact ⟨flat_v x h.1, rps_flat t h.2⟩
theorem inV_of {d : D} (x : Rp K W H v d) (hd : d.flat = true) : ∀ {xs : List V} {ds : List D}, Rps K W H xs ds → ds.all D.flat = true → inV v xs = ds.any fun e => eqFlat e d
  | _, _, .nil, _ => rfl
  | _, _, .cons y t, h => by
    rw [List.all_cons, Bool.and_eq_true] at h
    show (eqV _ v || inV v _) = (eqFlat _ d || _)
    rw [eqFlat_v y x h.1 hd, inV_of x hd t h.2]
/-- x in xs: a text in a text; a flat thing in a list or tuple of such -/
def inS : S → S → Option Bool
  | .fz (.str a), .fz (.str b) => some (subIx a b).isSome
  | .fz d, s => match asQ s with
    | some ds => if d.flat && ds.all D.flat then some (ds.any fun e => eqFlat e d) else none
    | none => none
  | _, _ => none
def rInU (K : PySem.W.Frag) : R2 := fun x y H Q => (∃ i j, x = .str i ∧ y = .str j ∧ Q (.bl (!(Builtin.Str.occurrences j i 0 j.length 1).isEmpty)) H) ∨ rIn K false x y H Q
def rNotInU (K : PySem.W.Frag) : R2 := fun x y H Q => (∃ i j, x = .str i ∧ y = .str j ∧ Q (.bl (!(!(Builtin.Str.occurrences j i 0 j.length 1).isEmpty))) H) ∨ rIn K true x y H Q
theorem op_inU {X : Cx} : OpR X (compareOp .In) (rInU X.K) := op_in_str.or op_in_seq
theorem op_notInU {X : Cx} : OpR X (compareOp .NotIn) (rNotInU X.K) := op_notin_str.or op_notIn_seq
theorem opt_emp {o : Option Nat} : (!o.toList.isEmpty) = o.isSome := by cases o <;> rfl
theorem inS_of {x y : V} {a b : S} {k : Bool} (xa : SR K U W H x a) (xb : SR K U W H y b) (h : inS a b = some k) : (∃ i j, x = .str i ∧ y = .str j ∧ (!(Builtin.Str.occurrences j i 0 j.length 1).isEmpty) = k) ∨
    (∃ p xs, y = .ref p ∧ (SqL K H p xs ∨ SqT K H p xs) ∧ flatV x = true ∧ xs.all flatV = true ∧ inV x xs = k) := by
  have seq : ∀ {d : D}, a = .fz d → (match asQ b with
      | some ds => if (d.flat && ds.all D.flat) = true then some (ds.any fun e => eqFlat e d) else none
      | none => none) = some k → ∃ p xs, y = .ref p ∧ (SqL K H p xs ∨ SqT K H p xs) ∧ flatV x = true ∧ xs.all flatV = true ∧ inV x xs = k := fun {d} e g => by
    subst e
    cases e1 : asQ b with
    | none => rw [e1] at g; cases g
    | some ds =>
      rw [e1] at g
      dsimp only at g
      by_cases z : (d.flat && ds.all D.flat) = true
      · rw [if_pos z] at g; cases g
        rw [Bool.and_eq_true] at z
        cases xa with
        | fz xa =>
          obtain ⟨p, xs, e, q, t⟩ := asQ_of xb e1
          exact ⟨p, xs, e, q, flat_v xa z.1, rps_flat t z.2, inV_of xa z.1 t z.2⟩
      · rw [if_neg z] at g; cases g
  cases a with
  | fz a =>
    cases a with
    | str l =>
      by_cases hb : ∃ m, b = .fz (.str m)
      · obtain ⟨m, rfl⟩ := hb
        cases h
        rw [sr_str xa, sr_str xb]
        exact .inl ⟨_, _, rfl, rfl, by rw [occ_subIx, opt_emp]⟩
      · refine .inr (seq rfl ?_)
        cases b with
        | fz b => cases b <;> first | exact h | exact absurd ⟨_, rfl⟩ hb
        | _ => exact h
    | _ => exact .inr (seq rfl h)
  | _ => cases h
def fIn (a b : S) : Option S := (inS a b).map fun k => .fz (.bl k)
def fNotIn (a b : S) : Option S := (inS a b).map fun k => .fz (.bl (!k))
theorem pn_in : PN C (fun vs H Q => ∃ x y, vs = [x, y] ∧ rInU C.K x y H Q) (p2 fIn) := by
  refine pn2 fun U W H x y a b s Q lv xa xb h q => ?_
  unfold fIn at h
  cases e : inS a b with
  | none => rw [e] at h; cases h
  | some k =>
    rw [e] at h; cases h
    have fin := q (.bl k) H (.same (.bl k))
    rcases inS_of xa xb e with ⟨i, j, h1, h2, h3⟩ | ⟨p, xs, h1, h2, h3, h4, h5⟩
    · exact .inl ⟨i, j, h1, h2, by rw [h3]; exact fin⟩
    · exact .inr ⟨p, xs, h1, h2, h3, h4, by show Q (.bl (inV x xs)) H; rw [h5]; exact fin⟩
theorem pn_notIn : PN C (fun vs H Q => ∃ x y, vs = [x, y] ∧ rNotInU C.K x y H Q) (p2 fNotIn) := by
  refine pn2 fun U W H x y a b s Q lv xa xb h q => ?_
  unfold fNotIn at h
  cases e : inS a b with
  | none => rw [e] at h; cases h
  | some k =>
    rw [e] at h; cases h
    have fin := q (.bl (!k)) H (.same (.bl (!k)))
    rcases inS_of xa xb e with ⟨i, j, h1, h2, h3⟩ | ⟨p, xs, h1, h2, h3, h4, h5⟩
    · exact .inl ⟨i, j, h1, h2, by rw [h3]; exact fin⟩
    · exact .inr ⟨p, xs, h1, h2, h3, h4, by show Q (.bl (!inV x xs)) H; rw [h5]; exact fin⟩
def D.isNon : D → Bool
  | .non => true
  | _ => false
def fIsN : S → S → Option S
  | .fz d, .fz .non => some (.fz (.bl d.isNon))
  | _, _ => none
def fIsNotN : S → S → Option S
  | .fz d, .fz .non => some (.fz (.bl (!d.isNon)))
  | _, _ => none
theorem non_dec {d : D} (x : Rp K W H v d) : decide (v = .non) = d.isNon := by cases x <;> simp [D.isNon]
theorem pn_isNotN : PN C (fun vs H Q => ∃ x y, vs = [x, y] ∧ (y = .non ∧ Q (.bl (!decide (x = .non))) H)) (p2 fIsNotN) := by
  refine pn2 (rr := fun x y H Q => y = .non ∧ Q (.bl (!decide (x = .non))) H) fun U W H x y a b s Q lv xa xb h q => ?_
  cases a with
  | fz a =>
    cases b with
    | fz b =>
      cases b with
      | non =>
        cases h
        cases xa with
        | fz xa =>
          refine ⟨sr_non xb, ?_⟩
          rw [non_dec xa]
          exact q _ _ (.same (.bl _))
      | _ => cases h
    | _ => cases h
  | _ => cases h
def lenS : S → Option Nat
  | .fz (.str l) => if big l.length then some l.length else none
  | s => (asQ s).map List.length
def fLen (a : S) : Option S := (lenS a).map fun n => .fz (.int n)
theorem pn_len : PN C (fun vs H Q => ∃ x n, vs = [x] ∧ LenV C.K x H n ∧ Q (.int n) H) (p1 fLen) := by
  have main : PN C (fun vs H Q => ∃ x, vs = [x] ∧ ∃ n, LenV C.K x H n ∧ Q (.int n) H) (p1 fLen) := by
    refine pn1 fun U W H x a s Q lv xa h q => ?_
    unfold fLen at h
    have seq : ∀ n, (asQ a).map List.length = some n → Q (.int n) H → ∃ n, LenV C.K x H n ∧ Q (.int n) H := fun n h f => by
      cases e : asQ a with
      | none => rw [e] at h; cases h
      | some ds =>
        rw [e] at h; cases h
        obtain ⟨p, xs, rfl, e2, t⟩ := asQ_of xa e
        rcases e2 with e2 | e2
        · exact ⟨_, .inl ⟨xs, e2, t.len.symm⟩, f⟩
        · exact ⟨_, .inr ⟨xs, e2, t.len.symm⟩, f⟩
    cases e : lenS a with
    | none => rw [e] at h; cases h
    | some n =>
      rw [e] at h; cases h
      have fin := q (.int n) H (.same (.int n))
      by_cases hs : ∃ l, a = .fz (.str l)
      · obtain ⟨l, rfl⟩ := hs
        have e : (if big l.length then some l.length else none) = some n := e
        by_cases z : big l.length = true
        · rw [if_pos z] at e; cases e
          rw [sr_str xa]
          exact ⟨_, ⟨by rw [str_len]; exact big_le z, (str_len l).symm⟩, fin⟩
        · rw [if_neg z] at e; cases e
      · refine seq n ?_ fin
        cases a with
        | fz a => cases a <;> first | exact e | exact absurd ⟨_, rfl⟩ hs
        | _ => exact e
  intro U W H vs ss s Q lv hs hp q
  obtain ⟨x, e, n, h1, h2⟩ := main U W H vs ss s Q lv hs hp q
  exact ⟨x, n, e, h1, h2⟩
def fList (a : S) : Option S := (asQ a).map .ol
theorem pn_list : PN C (fun vs H Q => ∃ p ys, vs = [.ref p] ∧ (SqL C.K H p ys ∨ SqT C.K H p ys) ∧ ∀ l, H l = none → Q (.ref l) (upd H l (.lst ys))) (p1 fList) := by
  have main : PN C (fun vs H Q => ∃ x, vs = [x] ∧ ∃ p ys, x = .ref p ∧ (SqL C.K H p ys ∨ SqT C.K H p ys) ∧ ∀ l, H l = none → Q (.ref l) (upd H l (.lst ys))) (p1 fList) := by
    refine pn1 fun U W H x a s Q lv xa h q => ?_
    unfold fList at h
    cases e : asQ a with
    | none => rw [e] at h; cases h
    | some ds =>
      rw [e] at h; cases h
      obtain ⟨p, xs, rfl, e2, t⟩ := asQ_of xa e
      exact ⟨p, xs, rfl, e2, fun l hl => q _ _ (Got.newL (C := C) lv hl t)⟩
  intro U W H vs ss s Q lv hs hp q
  obtain ⟨x, e, p, ys, e2, h1, h2⟩ := main U W H vs ss s Q lv hs hp q
  subst e2
  exact ⟨p, ys, e, h1, h2⟩
def fTuple (a : S) : Option S := (asQ a).map fun ds => .fz (.tup ds)
theorem call_tuple_ofX {X : Cx} : CallR X (.type "tuple") (fun xs H Q => ∃ p ys, xs = [.ref p] ∧ ((SqL X.K H p ys ∧ ∀ l o, TupO o → H l = none → Q (.ref l) (upd H l (.frz o (.tup ys)))) ∨ (SqT X.K H p ys ∧ Q (.ref p) H))) := by
  intro pins s σ H xs us Q I r h
  obtain ⟨p, ys, rfl, h⟩ := h
  obtain ⟨u, rfl, rx⟩ := vals1 r
  cases rx
  rcases h with ⟨hq, q⟩ | ⟨hq, q⟩
  · obtain ⟨its, r', pl, hz⟩ := I.list hq
    have hlen := r'.length
    refine call_tuple_list pl.isList (fun h' kp => ?_) (by simp only [List.size_toArray] <;> omega)
    have I1 : Inv X pins σ H { s with heap := h' } := I.kept (t' := s.toks) kp
    have I2 : Inv X pins σ (upd H h'.objs.size (.frz { cls := .type "tuple", data := .seq its.toArray } (.tup ys))) { s with heap := h'.push { cls := .type "tuple", data := .seq its.toArray } } :=
      I1.laid (t' := s.toks) (fun b o e => Heap.get?_push_of_some _ e) (Nat.le_refl _) (show ObjOk X.prog X.w _ _ _ (.frz { cls := .type "tuple", data := .seq its.toArray } (.tup ys)) from ⟨Heap.get?_push_size _ rfl, hz, its, r', IsTup.new _ _⟩)
    exact ⟨.ref h'.objs.size, _, I2, rfl, q _ _ ⟨rfl, rfl⟩ (I1.hok.fresh (Nat.le_refl _))⟩
  · obtain ⟨its, r', pl, hz⟩ := I.tuple hq
    exact call_tuple_same pl ⟨.ref p, H, I, rfl, q⟩
theorem pn_tuple : PN C (fun vs H Q => ∃ p ys, vs = [.ref p] ∧ ((SqL C.K H p ys ∧ ∀ l o, TupO o → H l = none → Q (.ref l) (upd H l (.frz o (.tup ys)))) ∨ (SqT C.K H p ys ∧ Q (.ref p) H))) (p1 fTuple) := by
  have main : PN C (fun vs H Q => ∃ x, vs = [x] ∧ ∃ p ys, x = .ref p ∧ ((SqL C.K H p ys ∧ ∀ l o, TupO o → H l = none → Q (.ref l) (upd H l (.frz o (.tup ys)))) ∨ (SqT C.K H p ys ∧ Q (.ref p) H))) (p1 fTuple) := by
    refine pn1 fun U W H x a s Q lv xa h q => ?_
    unfold fTuple at h
    cases e : asQ a with
    | none => rw [e] at h; cases h
    | some ds =>
      rw [e] at h; cases h
      obtain ⟨p, xs, rfl, e2, t⟩ := asQX_of xa e
      refine ⟨p, xs, rfl, ?_⟩
      rcases e2 with e2 | e2
      · exact .inl ⟨e2, fun l o ho hl => q _ _ (Got.newT (C := C) lv hl ho t)⟩
      · exact .inr ⟨e2.sq, q _ _ (.same (.tup e2 t))⟩
  intro U W H vs ss s Q lv hs hp q
  obtain ⟨x, e, p, ys, e2, h1⟩ := main U W H vs ss s Q lv hs hp q
  subst e2
  exact ⟨p, ys, e, h1⟩
def fInt1 : S → Option S
  | .fz (.int i) => some (.fz (.int i))
  | .fz (.bl b) => some (.fz (.int (if b then 1 else 0)))
  | _ => none
theorem pn_int1 : PN C (fun xs H Q => (∃ i, xs = [.int i] ∧ Q (.int i) H) ∨ ∃ k, xs = [.bl k] ∧ Q (.int (if k then 1 else 0)) H) (p1 fInt1) := by
  intro U W H vs ss s Q lv hs hp q
  match ss, hs, hp with
  | [a], .cons xa .nil, hp =>
    cases a with
    | fz a =>
      cases a with
      | int i => cases hp; rw [sr_int xa]; exact .inl ⟨i, rfl, q _ _ (.same (.int _))⟩
      | bl b => cases hp; rw [sr_bl xa]; exact .inr ⟨b, rfl, q _ _ (.same (.int _))⟩
      | _ => cases hp
    | _ => cases hp
def fIx : S → S → Option S
  | .fz (.str l), .fz (.int i) => if big l.length then (atI l i).map fun c => .fz (.str [c]) else none
  | a, .fz (.int i) => match asQ a with
    | some ds => (atI ds i).map .fz
    | none => none
  | _, _ => none
theorem atI_rps {xs : List V} {ds : List D} (t : Rps K W H xs ds) {i : Int} {d : D} (h : atI ds i = some d) : ∃ x, atI xs i = some x ∧ Rp K W H x d := by
  unfold atI at h ⊢
  rw [t.len]
  cases e : ixN ds.length i with
  | none => rw [e] at h; cases h
  | some j => rw [e] at h; exact rps_at t h
theorem pn_ix : PN C (fun vs H Q => ∃ x y, vs = [x, y] ∧ rIx C.K x y H Q) (p2 fIx) := by
  refine pn2 fun U W H x y a b s Q lv xa xb h q => ?_
  cases b with
  | fz b =>
    cases b with
    | int i =>
      rw [sr_int xb]
      by_cases hs : ∃ l, a = .fz (.str l)
      · obtain ⟨l, rfl⟩ := hs
        have h : (if big l.length then (atI l i).map fun c => S.fz (.str [c]) else none) = some s := h
        by_cases z : big l.length = true
        · rw [if_pos z] at h
          cases e : atI l i with
          | none => rw [e] at h; cases h
          | some c =>
            rw [e] at h; cases h
            rw [sr_str xa]
            exact .inr (.inr ⟨_, i, c, rfl, rfl, by rw [str_len]; exact big_le z, e, q _ _ (.same (.str [c]))⟩)
        · rw [if_neg z] at h; cases h
      · have h : (match asQ a with | some ds => (atI ds i).map S.fz | none => none) = some s := by
          cases a with
          | fz a => cases a <;> first | exact h | exact absurd ⟨_, rfl⟩ hs
          | _ => exact h
        cases e : asQ a with
        | none => rw [e] at h; cases h
        | some ds =>
          rw [e] at h
          dsimp only at h
          cases e2 : atI ds i with
          | none => rw [e2] at h; cases h
          | some d =>
            rw [e2] at h; cases h
            obtain ⟨p, xs, rfl, e3, t⟩ := asQ_of xa e
            obtain ⟨w, e4, y⟩ := atI_rps t e2
            rcases e3 with e3 | e3
            · exact .inl ⟨p, xs, i, w, rfl, rfl, e3, e4, q _ _ (.same y)⟩
            · exact .inr (.inl ⟨p, xs, i, w, rfl, rfl, e3, e4, q _ _ (.same y)⟩)
    | _ => cases a <;> first | cases h | (rename_i d; cases d <;> cases h)
  | _ => cases a <;> first | cases h | (rename_i d; cases d <;> cases h)
end
end GB
namespace GB
open PySem PySem.Spec PyProof.Rows L2
/-- the first of two word functions that answers -/
def orP (p q : Pr) : Pr := fun ss => match p ss with
  | none => q ss
  | z => z
theorem eCall_alt (p q : Pr) (fa : Rho → Rs (List Opd)) : eCall (orP p q) fa = eAlt (eCall p fa) (eCall q fa) := by
  funext r
  unfold eCall eAlt
  cases e : fa r with
  | ok os r1 =>
    simp only [e, Rs.bind]
    unfold eP orP
    cases e1 : resAll r1 os with
    | none => simp only [e1]
    | some ss =>
      cases e2 : p ss <;> simp only [e1, e2]
  | ex c fs r1 => simp only [e, Rs.bind]
  | st => simp only [e, Rs.bind]
theorem PN.or {C : Ct} {rr rr' : List V → Hp → VK → Prop} {p q : Pr} (h : PN C rr p) (h' : PN C rr' q) : PN C (fun vs H Q => rr vs H Q ∨ rr' vs H Q) (orP p q) := by
  intro U W H vs ss s Q lv hs hp k
  unfold orP at hp
  cases e : p ss with
  | some t => rw [e] at hp; exact .inl (h U W H vs ss s Q lv hs (e.trans hp) k)
  | none => rw [e] at hp; exact .inr (h' U W H vs ss s Q lv hs hp k)
section
variable {X : Cx} {C : Ct} {e : Expr} {fa : Rho → Rs (List Opd)}
theorem ge_orP {p q : Pr} (h : GE X C e (eCall p fa)) (h' : GE X C e (eCall q fa)) : GE X C e (eCall (orP p q) fa) := by
  rw [eCall_alt]
  exact ge_alt h h'
/-- the first of two statements' functions that goes -/
def fAlt (f g : Rho → Fl) : Rho → Fl := fun r => match f r with
  | .st => g r
  | z => z
theorem gs_alt {st : Stmt} {f g : Rho → Fl} (h : GS X C st f) (h' : GS X C st g) : GS X C st (fAlt f g) := by
  refine ⟨fun pins s σ H D I q => ?_⟩
  obtain ⟨U, r, s1, q⟩ := q
  unfold fAlt at q
  cases e1 : f r with
  | st => rw [e1] at q; exact h'.run pins s σ H D I ⟨U, r, s1, q⟩
  | nx r' => rw [e1] at q; exact h.run pins s σ H D I ⟨U, r, s1, by rw [e1]; exact q⟩
  | rt t r' => rw [e1] at q; exact h.run pins s σ H D I ⟨U, r, s1, by rw [e1]; exact q⟩
  | bk r' => rw [e1] at q; exact h.run pins s σ H D I ⟨U, r, s1, by rw [e1]; exact q⟩
  | ct r' => rw [e1] at q; exact h.run pins s σ H D I ⟨U, r, s1, by rw [e1]; exact q⟩
  | ex c fs r' => rw [e1] at q; exact h.run pins s σ H D I ⟨U, r, s1, by rw [e1]; exact q⟩
def isI (o : Opd) (r : Rho) : Bool := match res r o with
  | some (.fz (.int _)) => true
  | _ => false
/-- a part of a slice -/
def ePart : Option (Rho → Rs Opd) → Rho → Rs Opd
  | none, r => .ok (.val (.fz .non)) r
  | some f, r => (f r).bind fun o r1 => if isI o r1 then .ok o r1 else .st
def tP (C : Ct) : Option (Rho → Rs Opd) → TO
  | none => tNoPart
  | some f => tPart (tE C f)
abbrev GP (X : Cx) (C : Ct) (e : Option Expr) (f : Option (Rho → Rs Opd)) : Prop := PO X e (tP C f)
theorem gp_none : GP X C none none := po_none
theorem gp_some {e : Expr} {f : Rho → Rs Opd} (h : GE X C e f) : GP X C (some e) (some f) := po_some h
def isP (v : V) (o : Option Int) : Prop := match o with
  | none => v = .non
  | some i => v = .int i
theorem tP_then {α : Type} {f : Option (Rho → Rs Opd)} {g : Opd → Rho → Rs α} {σ : St} {H : Hp} {Q : Option Int → Hp → Prop} {U : Addr → Prop} {r : Rho} {R : Rs α → Prop} (s : Sit C U H σ r) (h : R ((ePart f r).bind g))
    (hst : R .st → False) (hex : ∀ c fs r', R (.ex c fs r') → XWant C U H σ r c fs r')
    (hok : ∀ o r' v i H' U', Sit C U' H' σ r' → Aft U H σ r U' H' σ r' → Per r r' → OpOk C U' H' σ r' o v → isP v i → R (g o r') → Q i H') : tP C f σ H Q := by
  cases f with
  | none => exact hok (.val (.fz .non)) r .non none H U s Aft.refl Per.refl ⟨.fz .non, fun p z => (nomatch z), rfl⟩ rfl h
  | some f =>
    simp only [ePart] at h
    refine tE_then (f := f) (g := fun o r1 => (if isI o r1 then (Rs.ok o r1) else .st).bind g) (R := R) s ?_ hst hex ?_
    · refine cast ?_ h
      unfold Rs.bind
      cases e : f r <;> simp only [e]
    · intro o r' v H' U' s' a' p' k' n' q
      by_cases hi : isI o r' = true
      · rw [if_pos hi] at q
        obtain ⟨t, e, x⟩ := k'.res s'
        unfold isI at hi
        rw [e] at hi
        cases t with
        | fz d =>
          cases d with
          | int i =>
            have ev : v = .int i := by cases x with | fz x => cases x; rfl
            exact ⟨i, ev, hok o r' v (some i) H' U' s' a' p' k' ev q⟩
          | _ => cases hi
        | _ => cases hi
      · rw [if_neg hi] at q
        exact (hst q).elim
theorem isP_one {v : V} {i j : Option Int} (h : isP v i) (h' : isP v j) : i = j := by
  cases i <;> cases j <;> (cases h; cases h') <;> rfl
/-- o[lo:hi] -/
theorem ge_slice {o : Expr} {lo hi : Option Expr} {pos p2 : Pos} {fo : Rho → Rs Opd} {fl fh : Option (Rho → Rs Opd)} {rr : V → Option Int → Option Int → Hp → VK → Prop} {p : Pr} (hr : SlR X rr) (hp : PN C (fun vs H Q => ∃ x l u i j, vs = [x, l, u] ∧ isP l i ∧ isP u j ∧ rr x i j H Q) p)
    (ho : GE X C o fo) (hl : GP X C lo fl) (hh : GP X C hi fh) : GE X C (.Subscript o (.Slice lo hi none p2) pos) (eCall p (eCons fo (eCons (ePart fl) (eCons (ePart fh) eNil)))) := by
  refine weakE (pe_slice hr ho hl hh) fun σ H Q h => ?_
  obtain ⟨U, r, s, h⟩ := h
  refine tE_then (g := fun o r1 => (ePart fl r1).bind fun o2 r2 => (ePart fh r2).bind fun o3 r3 => eP p [o, o2, o3] r3) (R := RE C U H σ r Q) s ?_ id (fun _ _ _ z => z) ?_
  · refine cast ?_ h
    unfold eCall eCons eNil Rs.bind
    cases fo r with
    | ok o r1 =>
      simp only []
      cases ePart fl r1 with
      | ok o r2 => simp only []; cases ePart fh r2 <;> rfl
      | _ => rfl
    | _ => rfl
  intro o r1 v H1 U1 s1 a1 p1 k1 n1 h1
  refine tP_then (R := RE C U H σ r Q) s1 h1 id (fun _ _ _ z => XWant.before z a1) fun o2 r2 v2 i2 H2 U2 s2 a2 p2 k2 q2 h2 => ?_
  refine tP_then (R := RE C U H σ r Q) s2 h2 id (fun _ _ _ z => XWant.before z (a1.trans a2)) fun o3 r3 v3 i3 H3 U3 s3 a3 p3 k3 q3 h3 => ?_
  obtain ⟨x, l, u, i, j, e, q4, q5, q⟩ := eP_fin hp s3 ((a1.trans a2).trans a3) ((p1.trans p2).trans p3) (.cons ((k1.after a2 s1 p2).after a3 s2 p3) (.cons (k2.after a3 s2 p3) (.cons k3 .nil))) h3
  cases e
  rw [isP_one q2 q4, isP_one q3 q5]
  exact q
end
/-- a cut -/
def cutD {α : Type} (xs : List α) (lo hi : Option Int) : List α := (xs.drop (HT.sIx xs.length 0 lo)).take (HT.sIx xs.length xs.length hi - HT.sIx xs.length 0 lo)
def ptI : S → Option (Option Int)
  | .fz .non => some none
  | .fz (.int i) => some (some i)
  | _ => none
def cutS1 (a : S) (i j : Option Int) : Option S := match a with
  | .fz (.str w) => if big w.length then some (.fz (.str (cutD w i j))) else none
  | .fz (.tup ds) => some (.fz (.tup (cutD ds i j)))
  | a => (asLs a).map fun ds => .ol (cutD ds i j)
def fSl (a l u : S) : Option S := match ptI l, ptI u with
  | some i, some j => cutS1 a i j
  | _, _ => none
/-- t[lo:hi]: the whole of it is t itself, else a new tuple -/
def rSlX (K : PySem.W.Frag) : V → Option Int → Option Int → Hp → VK → Prop := fun x lo hi H Q => ∃ a xs, x = .ref a ∧ SqT K H a xs ∧
  (HT.sIx xs.length 0 lo = 0 ∧ HT.sIx xs.length xs.length hi = xs.length → Q (.ref a) H) ∧ (¬ (HT.sIx xs.length 0 lo = 0 ∧ HT.sIx xs.length xs.length hi = xs.length) → ∀ p o, TupO o → H p = none → Q (.ref p) (upd H p (.frz o (.tup (cutV xs lo hi)))))
theorem sl_tupX {X : Cx} : SlR X (rSlX X.K) := by
  intro pins s σ H x v vl vu lo hi sl Q I rx hs pl pu h
  obtain ⟨a, xs, rfl, hx, q1, q2⟩ := h
  cases rx
  obtain ⟨its, r, ht, hz⟩ := I.tuple hx
  have hlen : its.toArray.size = xs.length := by rw [List.size_toArray]; exact r.length.symm
  by_cases hw : HT.sIx xs.length 0 lo = 0 ∧ HT.sIx xs.length xs.length hi = xs.length
  · refine ⟨"tuple", _, PyProof.Rows.slot_tuple_getitem.lookup, ht.typeIs, ?_⟩
    exact getItem_tuple_whole ht hs pl pu (by rw [hlen]; exact hw) ⟨.ref a, H, I, rfl, q1 hw⟩
  · refine ⟨"tuple", _, PyProof.Rows.slot_tuple_getitem.lookup, ht.typeIs, ?_⟩
    refine HT.getItem_tuple_cut ht hs pl pu (by rw [hlen]; exact hw) ?_ (by rw [hlen]; exact hz)
    rw [hlen]
    refine ⟨.ref s.heap.objs.size, _, I.laid (t' := s.toks) (o := .frz _ (.tup (cutV xs lo hi))) (fun b ob q => Heap.get?_push_of_some _ q) (Nat.le_refl _) ⟨Heap.get?_push_size _ rfl, ?_⟩, rfl, q2 hw _ _ ⟨rfl, rfl⟩ (I.hok.fresh (Nat.le_refl _))⟩
    exact ⟨Nat.le_trans (cutV_length xs lo hi) hz, _, (r.drop (HT.sIx xs.length 0 lo)).take (HT.sIx xs.length xs.length hi - HT.sIx xs.length 0 lo), IsTup.new _ _⟩
def rSlU (K : PySem.W.Frag) : V → Option Int → Option Int → Hp → VK → Prop := fun x lo hi H Q => rSlL K x lo hi H Q ∨ rSlX K x lo hi H Q ∨ rSlS x lo hi H Q
section
variable {X : Cx} {C : Ct} {K : PySem.W.Frag} {U W : Addr → Prop} {H : Hp}
theorem sl_U : SlR X (rSlU X.K) := sl_list.or (sl_tupX.or sl_str)
theorem ptI_of {v : V} {s : S} {i : Option Int} (x : SR K U W H v s) (h : ptI s = some i) : isP v i := by
  cases x with
  | fz x => cases x <;> first | (cases h; exact rfl) | cases h
  | _ => cases h
theorem cutD_all {α : Type} {xs : List α} {lo hi : Option Int} (h : HT.sIx xs.length 0 lo = 0 ∧ HT.sIx xs.length xs.length hi = xs.length) : cutD xs lo hi = xs := by
  unfold cutD
  rw [h.1, h.2]
  simp
theorem cutV_rps {xs : List V} {ds : List D} {lo hi : Option Int} (x : Rps K W H xs ds) : Rps K W H (cutV xs lo hi) (cutD ds lo hi) := by
  unfold cutV cutD
  rw [x.len]
  exact rps_take _ (rps_drop _ x)
theorem pn_sl : PN C (fun vs H Q => ∃ x l u i j, vs = [x, l, u] ∧ isP l i ∧ isP u j ∧ rSlU C.K x i j H Q) (p3 fSl) := by
  intro U W H vs ss s Q lv hs hp q
  match ss, hs, hp with
  | [a, l, u], .cons (a := x) xa (.cons (a := y) xl (.cons (a := z) xu .nil)), hp =>
    have hp : fSl a l u = some s := hp
    unfold fSl at hp
    cases e1 : ptI l with
    | none => rw [e1] at hp; cases hp
    | some i =>
      cases e2 : ptI u with
      | none => rw [e1, e2] at hp; cases hp
      | some j =>
        rw [e1, e2] at hp
        have hp : cutS1 a i j = some s := hp
        refine ⟨_, _, _, i, j, rfl, ptI_of xl e1, ptI_of xu e2, ?_⟩
        have lst : (asLs a).map (fun ds => S.ol (cutD ds i j)) = some s → rSlU C.K x i j H Q := fun h => by
          cases e : asLs a with
          | none => rw [e] at h; cases h
          | some ds =>
            rw [e] at h; cases h
            obtain ⟨p, xs, rfl, e2, t⟩ := asLs_of xa e
            exact .inl ⟨p, xs, rfl, e2, fun l hl => q _ _ (Got.newL (C := C) lv hl (cutV_rps t))⟩
        cases a with
        | fz a =>
          cases a with
          | str w =>
            have hp : (if big w.length then some (S.fz (.str (cutD w i j))) else none) = some s := hp
            by_cases hb : big w.length = true
            · rw [if_pos hb] at hp; cases hp
              rw [sr_str xa]
              refine .inr (.inr ⟨_, rfl, by rw [str_len]; exact big_le hb, ?_⟩)
              have e : cutS ⟨w.toArray⟩ i j = ⟨(cutD w i j).toArray⟩ := by
                unfold cutS cutD
                rw [str_len]
              rw [e]
              exact q _ _ (.same (.str _))
            · rw [if_neg hb] at hp; cases hp
          | tup ds =>
            cases hp
            cases xa with
            | fz xa =>
              cases xa with
              | @tup p xs ds e t =>
                refine .inr (.inl ⟨p, xs, rfl, e.sq, fun hw => ?_, fun _ l o ho hl => q _ _ (Got.newT (C := C) lv hl ho (cutV_rps t))⟩)
                rw [t.len] at hw
                rw [cutD_all hw] at q
                exact q _ _ (.same (.tup e t))
          | _ => exact lst hp
        | _ => exact lst hp
end
def lowL (w : List Nat) : Option (List Nat) := if w.all (· < 128) && decide (w.length ≤ 5592405) then some (w.map PyProof.Rows.lo1) else none
def upL (w : List Nat) : Option (List Nat) := if w.all (· < 128) && decide (w.length ≤ 5592405) then some (w.map PyProof.Rows.up1) else none
def isStr : S → Bool
  | .fz (.str _) => true
  | _ => false
def fLower : S → Option S
  | .fz (.str w) => (lowL w).map fun w => .fz (.str w)
  | _ => none
def fUpper : S → Option S
  | .fz (.str w) => (upL w).map fun w => .fz (.str w)
  | _ => none
section
variable {X : Cx} {C : Ct} {K : PySem.W.Frag} {U W : Addr → Prop} {H : Hp}
theorem isStr_ty (U W : Addr → Prop) (H : Hp) (v : V) (s : S) (x : SR C.K U W H v s) (h : isStr s = true) : tyV K "str" v H := by
  cases x with
  | fz x => cases x <;> first | exact rfl | cases h
  | _ => cases h
theorem low_if {f : Nat → Nat} {w : List Nat} {s : S} (h : ((if w.all (· < 128) && decide (w.length ≤ 5592405) then some (w.map f) else none).map fun w => S.fz (.str w)) = some s) : w.all (· < 128) = true ∧ w.length ≤ 5592405 ∧ s = .fz (.str (w.map f)) := by
  by_cases z : (w.all (· < 128) && decide (w.length ≤ 5592405)) = true
  · rw [if_pos z] at h; cases h
    rw [Bool.and_eq_true] at z
    exact ⟨z.1, of_decide_eq_true z.2, rfl⟩
  · rw [if_neg z] at h; cases h
theorem pn_lower : PN C (fun vs H Q => ∃ x xs, vs = x :: xs ∧ ∃ a, x = .str a ∧ xs = [] ∧ a.length ≤ 5592405 ∧ Q (.str (Txt.lower a)) H) (p1 fLower) := by
  refine pnm0 (rr := fun x xs H Q => ∃ a, x = .str a ∧ xs = [] ∧ a.length ≤ 5592405 ∧ Q (.str (Txt.lower a)) H) fun U W H x a s Q lv xa h q => ?_
  cases a with
  | fz a =>
    cases a with
    | str w =>
      rw [sr_str xa]
      obtain ⟨z1, z2, rfl⟩ := low_if (f := PyProof.Rows.lo1) h
      refine ⟨_, rfl, rfl, by rw [str_len]; exact z2, ?_⟩
      rw [show Txt.lower ⟨w.toArray⟩ = ⟨(w.map PyProof.Rows.lo1).toArray⟩ from SX.lower_S z1]
      exact q _ _ (.same (.str _))
    | _ => cases h
  | _ => cases h
theorem pn_upper : PN C (fun vs H Q => ∃ x xs, vs = x :: xs ∧ ∃ a, x = .str a ∧ xs = [] ∧ a.length ≤ 5592405 ∧ Q (.str (Txt.upper a)) H) (p1 fUpper) := by
  refine pnm0 (rr := fun x xs H Q => ∃ a, x = .str a ∧ xs = [] ∧ a.length ≤ 5592405 ∧ Q (.str (Txt.upper a)) H) fun U W H x a s Q lv xa h q => ?_
  cases a with
  | fz a =>
    cases a with
    | str w =>
      rw [sr_str xa]
      obtain ⟨z1, z2, rfl⟩ := low_if (f := PyProof.Rows.up1) h
      refine ⟨_, rfl, rfl, by rw [str_len]; exact z2, ?_⟩
      rw [show Txt.upper ⟨w.toArray⟩ = ⟨(w.map PyProof.Rows.up1).toArray⟩ from SX.upper_S z1]
      exact q _ _ (.same (.str _))
    | _ => cases h
  | _ => cases h
end
/-- texts of words -/
def strsOf : List D → Option (List (List Nat))
  | [] => some []
  | .str w :: ds => (strsOf ds).map (w :: ·)
  | _ :: _ => none
def joinN (sep : List Nat) (ws : List (List Nat)) : List Nat := TL.joinL sep ws
def fJoin : S → S → Option S
  | .fz (.str sep), s => match asQ s with
    | some ds => (match strsOf ds with
      | some ws => if big ((ws.map List.length).sum + ws.length * sep.length) then some (.fz (.str (joinN sep ws))) else none
      | none => none)
    | none => none
  | _, _ => none
section
variable {X : Cx} {C : Ct} {K : PySem.W.Frag} {U W : Addr → Prop} {H : Hp}
theorem strsOf_of : ∀ {xs : List V} {ds : List D} {ws : List (List Nat)}, Rps K W H xs ds → strsOf ds = some ws → xs = (ws.map fun w => (⟨w.toArray⟩ : Str)).map V.str
  | _, _, _, .nil, h => by cases h; rfl
  | _, d :: ds, ws, .cons x t, h => by
    cases x with
    | str w =>
      have h : (strsOf ds).map (w :: ·) = some ws := h
      cases e : strsOf ds with
      | none => rw [e] at h; cases h
      | some w2 => rw [e] at h; cases h; rw [strsOf_of t e]; rfl
    | _ => cases h
theorem join_toL (sep : List Nat) (ws : List (List Nat)) : Txt.join ⟨sep.toArray⟩ (ws.map fun w => (⟨w.toArray⟩ : Str)) = ⟨(joinN sep ws).toArray⟩ := by
  rw [TL.join_eq]
  refine TL.ext_tl ?_
  show (Str.join _ _).cps.toList = _
  rw [show (Str.join (⟨sep.toArray⟩ : Str) (ws.map fun w => (⟨w.toArray⟩ : Str))).cps.toList = TL.joinL sep (ws.map fun w => w) from ?_]
  · simp [joinN, TL.tl]
  · have := TL.tl_join ⟨sep.toArray⟩ (ws.map fun w => (⟨w.toArray⟩ : Str))
    rw [List.map_map] at this
    exact this
theorem pn_join : PN C (fun vs H Q => ∃ x xs, vs = x :: xs ∧ ∃ a p, ∃ ys : List Str, x = .str a ∧ xs = [.ref p] ∧ (SqL C.K H p (ys.map V.str) ∨ SqT C.K H p (ys.map V.str)) ∧
    (ys.map (·.length)).sum + ys.length * a.length ≤ 16777216 ∧ Q (.str (Txt.join a ys)) H) (p2 fJoin) := by
  refine pnm1 (rr := fun x xs H Q => ∃ a p, ∃ ys : List Str, x = .str a ∧ xs = [.ref p] ∧ (SqL C.K H p (ys.map V.str) ∨ SqT C.K H p (ys.map V.str)) ∧
    (ys.map (·.length)).sum + ys.length * a.length ≤ 16777216 ∧ Q (.str (Txt.join a ys)) H) fun U W H x y a b s Q lv xa xb h q => ?_
  cases a with
  | fz a =>
    cases a with
    | str sep =>
      rw [sr_str xa]
      unfold fJoin at h
      dsimp only at h
      cases e : asQ b with
      | none => rw [e] at h; cases h
      | some ds =>
        rw [e] at h
        dsimp only at h
        cases e2 : strsOf ds with
        | none => rw [e2] at h; cases h
        | some ws =>
          rw [e2] at h
          dsimp only at h
          by_cases hb : big ((ws.map List.length).sum + ws.length * sep.length) = true
          · rw [if_pos hb] at h; cases h
            obtain ⟨p, xs, rfl, e3, t⟩ := asQ_of xb e
            rw [strsOf_of t e2] at e3
            refine ⟨_, p, ws.map fun w => (⟨w.toArray⟩ : Str), rfl, rfl, e3, ?_, ?_⟩
            · have hb := of_decide_eq_true hb
              rw [List.map_map, List.length_map, str_len]
              have e4 : ((fun x : Str => x.length) ∘ fun w : List Nat => (⟨w.toArray⟩ : Str)) = List.length := by
                funext w; exact str_len w
              rw [e4]
              exact hb
            · rw [join_toL]
              exact q _ _ (.same (.str _))
          · rw [if_neg hb] at h; cases h
    | _ => cases h
  | _ => cases h
/-- w.index(p) -/
def fSIndex : S → S → Option S
  | .fz (.str a), .fz (.str b) => (subIx b a).map fun n => .fz (.int n)
  | _, _ => none
theorem pn_sindex : PN C (fun vs H Q => ∃ x xs, vs = x :: xs ∧ ∃ a b i rest, x = .str a ∧ xs = [.str b] ∧ Builtin.Str.occurrences a b 0 a.length 1 = i :: rest ∧ Q (.int (i : Nat)) H) (p2 fSIndex) := by
  refine pnm1 (rr := fun x xs H Q => ∃ a b i rest, x = .str a ∧ xs = [.str b] ∧ Builtin.Str.occurrences a b 0 a.length 1 = i :: rest ∧ Q (.int (i : Nat)) H) fun U W H x y a b s Q lv xa xb h q => ?_
  cases a with
  | fz a =>
    cases a with
    | str l =>
      cases b with
      | fz b =>
        cases b with
        | str p =>
          have h : (subIx p l).map (fun n => S.fz (.int n)) = some s := h
          cases e : subIx p l with
          | none => rw [e] at h; cases h
          | some n =>
            rw [e] at h; cases h
            rw [sr_str xa, sr_str xb]
            exact ⟨_, _, n, [], rfl, rfl, by rw [occ_subIx, e]; rfl, q _ _ (.same (.int _))⟩
        | _ => cases h
      | _ => cases h
    | _ => cases b <;> first | cases h | (rename_i d; cases d <;> cases h)
  | _ => cases b <;> first | cases h | (rename_i d; cases d <;> cases h)
end
def asO : S → Option (List D)
  | .ol ds => some ds | .br ds => some ds | _ => none
def reO : S → List D → S
  | .br _, ds => .br ds
  | _, ds => .ol ds
def isOL (s : S) : Bool := (asO s).isSome
def mOf (f : List D → List D → Option (List D × D)) : Mu := fun s as => match asO s with
  | some ds => (f ds as).map fun z => (reO s z.1, z.2)
  | none => none
section
variable {X : Cx} {C : Ct} {K : PySem.W.Frag} {U W : Addr → Prop} {H : Hp}
theorem isOL_ty (U W : Addr → Prop) (H : Hp) (v : V) (s : S) (x : SR C.K U W H v s) (h : isOL s = true) : tyV C.K "list" v H := by
  cases x with
  | ol e x => exact .inl ⟨rfl, _, .inl (.inl e)⟩
  | br e x => exact .inl ⟨rfl, _, .inl (.inl e)⟩
  | _ => cases h
theorem mOf_ok {rr : V → List V → Hp → VK → Prop} {f : List D → List D → Option (List D × D)}
    (h : ∀ (W : Addr → Prop) (H : Hp) (p : Addr) (xs vs : List V) (ds as ds' : List D) (d : D) (Q : VK), H p = some (.lst xs) → (∀ a, W a → Lv H a) → Rps C.K W H xs ds → Rps C.K W H vs as → f ds as = some (ds', d) →
      (∀ v xs', Rps C.K W H xs' ds' → Rp C.K W H v d → Q v (upd H p (.lst xs'))) → rr (.ref p) vs H Q) : MuOk C rr (mOf f) := by
  intro U W H p s s' vs ds d Q ho hw lv xs xv hm q
  have go : ∀ (ls : List D) (ys : List V), asO s = some ls → H p = some (.lst ys) → Rps C.K W H ys ls → (∀ ds' ys', Rps C.K W H ys' ds' → At C.K W H (reO s ds') (.lst ys')) → (∀ ds', s.hard = true → Sl s (reO s ds')) → rr (.ref p) vs H Q := fun ls ys e1 e2 e3 e4 e5 => by
    unfold mOf at hm
    rw [e1] at hm
    dsimp only at hm
    cases e : f ls ds with
    | none => rw [e] at hm; cases hm
    | some z =>
      obtain ⟨ds', d'⟩ := z
      rw [e] at hm; cases hm
      exact h W H p ys vs ls ds ds' _ Q e2 lv e3 xv e fun v ys' y1 y2 => q v _ (e4 _ _ y1) (e5 _) y2
  cases xs with
  | ol e x => exact go _ _ rfl e x (fun _ _ y => .ol y) fun _ h => by cases h
  | br e x => exact go _ _ rfl e x (fun _ _ y => .br y) fun _ _ => ⟨_, rfl⟩
  | _ => first | (cases ho; done) | (cases hm; done)
def fApp (ds as : List D) : Option (List D × D) := match as with
  | [d] => if decide (ds.length < 16777216) then some (ds ++ [d], .non) else none
  | _ => none
theorem mu_append : MuOk C rAppend (mOf fApp) := by
  refine mOf_ok fun W H p xs vs ds as ds' d Q hp lv x xv h q => ?_
  match as, xv, h with
  | [a], .cons y .nil, h =>
    have h : (if decide (ds.length < 16777216) then some (ds ++ [a], D.non) else none) = some (ds', _) := h
    by_cases hl : decide (ds.length < 16777216) = true
    · rw [if_pos hl] at h; cases h
      exact ⟨p, xs, _, rfl, rfl, hp, by rw [sizeLine_eq, x.len]; exact of_decide_eq_true hl, q _ _ (rps_append x (.cons y .nil)) .non⟩
    · rw [if_neg hl] at h; cases h
def fPop0 (ds as : List D) : Option (List D × D) := match as with
  | [] => ds.getLast?.map fun d => (ds.dropLast, d)
  | _ => none
theorem rps_dropLast : ∀ {xs : List V} {ds : List D}, Rps K W H xs ds → Rps K W H xs.dropLast ds.dropLast
  | _, _, .nil => .nil
  | _, _, .cons x .nil => .nil
  | _, _, .cons x (.cons y t) => .cons x (rps_dropLast (.cons y t))
theorem mu_pop : MuOk C rPop (mOf fPop0) := by
  refine mOf_ok fun W H p xs vs ds as ds' d Q hp lv x xv h q => ?_
  match as, xv, h with
  | [], .nil, h =>
    have h : (ds.getLast?.map fun d => (ds.dropLast, d)) = some (ds', _) := h
    cases e : ds.getLast? with
    | none => rw [e] at h; cases h
    | some z =>
      rw [e] at h; cases h
      rw [List.getLast?_eq_getElem?] at e
      obtain ⟨w, e2, y⟩ := rps_at x e
      exact ⟨p, xs, w, rfl, rfl, hp, by rw [x.len]; exact e2, q _ _ (rps_dropLast x) y⟩
end
end GB
namespace GB
open PySem PySem.Spec PyProof.Rows L2
def fPut (i : Nat) (m : Mu) (fe fi : Rho → Rs Opd) : Rho → Fl := fun r => ofR (fe r) fun o r1 => match ownAt r1 i with
  | some _ => ofR (fi r1) fun o2 r2 => ofR (mutP m i [o, o2] r2) fun _ r3 => .nx r3
  | none => .st
def rPut (t : TSet) : V → List V → Hp → VK → Prop := fun x vs H Q => ∃ v k, vs = [v, k] ∧ t x k v H fun H' => Q .non H'
/-- the first writing function that answers -/
def orM (m m' : Mu) : Mu := fun s ds => match m s ds with
  | none => m' s ds
  | z => z
section
variable {X : Cx} {C : Ct} {e ie : Expr} {fe fi : Rho → Rs Opd} {i : Nat} {x : Str} {m m' : Mu} {t : TSet}
theorem mut_stmt {rr : V → List V → Hp → VK → Prop} (hm : MuOk C rr m) {U U' : Addr → Prop} {H H' : Hp} {σ : St} {r r' : Rho} {os : List Opd} {vs : List V} {v0 : V} {D : Ends} (hv : σ[i]? = some (some v0)) (s0 : Sit C U H σ r) (s : Sit C U' H' σ r') (a : Aft U H σ r U' H' σ r') (pe : Per r r') (k : OpsOk C U' H' σ r' os vs) (n : NewS H os vs)
    (h : RS C U H σ r D (ofR (mutP m i os r') fun _ r3 => .nx r3)) : rr v0 vs H' fun _ H2 => D.nx σ H2 := by
  refine mutP_fin (Q := fun _ H2 => D.nx σ H2) hm hv s0 s a pe k n ?_
  cases e : mutP m i os r' with
  | ok o r3 => rw [e] at h; exact fun v H2 U2 s2 a2 p2 k2 n2 => h σ H2 U2 s2 a2
  | ex c fs r3 => rw [e] at h; exact h
  | st => rw [e] at h; exact h
theorem tE_stmt3 {fe : Rho → Rs Opd} {k : Opd → Rho → Fl} {σ : St} {H H1 : Hp} {Q : VK} {D : Ends} {U U1 : Addr → Prop} {r r1 : Rho} (a1 : Aft U H σ r U1 H1 σ r1) (s : Sit C U1 H1 σ r1) (h : RS C U H σ r D (ofR (fe r1) k))
    (hok : ∀ o r' v H' U', Sit C U' H' σ r' → Aft U1 H1 σ r1 U' H' σ r' → Per r1 r' → OpOk C U' H' σ r' o v → New H1 o v → RS C U H σ r D (k o r') → Q v H') : tE C fe σ H1 Q := by
  refine ⟨U1, r1, s, ?_⟩
  cases e : fe r1 with
  | ok o r' => rw [e] at h; exact fun v H' U' s' a' p' k' n' => hok o r' v H' U' s' a' p' k' n' h
  | ex c fs r' => rw [e] at h; exact XWant.before (show XWant C U H σ r c fs r' from h) a1
  | st => rw [e] at h; exact h
theorem gs_put {st : Stmt} (h : PS X st (tAsg (tE C fe) (gSub (tVar i) (tE C fi) t))) (hm : MuOk C (rPut t) m) : GS X C st (fPut i m fe fi) := by
  refine weakS h fun D σ H h => ?_
  obtain ⟨U, r, s, h⟩ := h
  refine tE_stmt2 (D := D) s h fun o r1 v H1 U1 s1 a1 p1 k1 n1 q => ?_
  cases e1 : ownAt r1 i with
  | none => simp only [e1] at q; exact (show False from q).elim
  | some t' =>
    simp only [e1] at q
    obtain ⟨g1, g2⟩ := ownAt_of e1
    obtain ⟨v0, ev, x0⟩ := s1.rep i t' g1
    refine ⟨v0, ev, ?_⟩
    refine tE_stmt3 (D := D) a1 s1 q fun o2 r2 v2 H2 U2 s2 a2 p2 k2 n2 q2 => ?_
    obtain ⟨v', k', e, q4⟩ := mut_stmt hm ev s s2 (a1.trans a2) (p1.trans p2) (.cons (k1.after a2 s1 p2) (.cons k2 .nil)) (.cons n1 (.cons (n2.back a1) .nil)) q2
    cases e
    exact q4
theorem fPut_alt : fPut i (orM m m') fe fi = fAlt (fPut i m fe fi) (fPut i m' fe fi) := by
  funext r
  unfold fPut fAlt
  cases e : fe r with
  | ok o r1 =>
    simp only [e, ofR]
    cases e1 : ownAt r1 i with
    | none => simp only [e1]
    | some t' =>
      simp only [e1]
      cases e2 : fi r1 with
      | ok o2 r2 =>
        simp only [e2]
        unfold mutP orM
        cases e3 : frzAll [o, o2] r2 with
        | none => simp only [e3]
        | some z =>
          obtain ⟨ds, r3⟩ := z
          simp only [e3]
          cases e4 : ownAt r3 i with
          | none => simp only [e4]
          | some s =>
            simp only [e4]
            cases e5 : m s ds with
            | none => simp only [e5]
            | some z => simp only [e5]
      | ex c fs r2 => simp only [e2]
      | st => simp only [e2]
  | ex c fs r1 => simp only [e, ofR]
  | st => simp only [e, ofR]
theorem gs_putU {st : Stmt} (h : GS X C st (fPut i m fe fi)) (h' : GS X C st (fPut i m' fe fi)) : GS X C st (fPut i (orM m m') fe fi) := by
  rw [fPut_alt]
  exact gs_alt h h'
end
/-- xs[k] = v -/
def fSetL (ds as : List D) : Option (List D × D) := match as with
  | [v, .int k] => (ixN ds.length k).map fun j => (ds.set j v, .non)
  | _ => none
def keyD : D → Option Key
  | .int i => some (.inl i)
  | .str w => some (.inr ⟨w.toArray⟩)
  | _ => none
def getD (kvs : List (Key × D)) (k : Key) : Option D := (kvs.find? fun kv => decide (kv.1 = k)).map (·.2)
def putD (kvs : List (Key × D)) (k : Key) (v : D) : List (Key × D) :=
  if (kvs.any fun kv => decide (kv.1 = k)) = true then kvs.map (fun kv => if kv.1 = k then (kv.1, v) else kv) else kvs ++ [(k, v)]
def asDw : S → Option (List (Key × D))
  | .od k => some k | .bd k => some k | _ => none
def asDr : S → Option (List (Key × D))
  | .od k => some k | .bd k => some k | .kd _ _ k => some k | _ => none
def reD : S → List (Key × D) → S
  | .bd _, k => .bd k
  | _, k => .od k
def mDPut : Mu := fun s as => match asDw s, as with
  | some kvs, [v, k] => (match keyD k with
    | some k => if decide (kvs.length < 16777216) then some (reD s (putD kvs k v), .non) else none
    | none => none)
  | _, _ => none
def tDP : TSet := fun o i v H Q => ∃ a H4, o = .ref a ∧ DPut H a i v H4 ∧ Q H4
section
variable {X : Cx} {C : Ct} {e ie : Expr} {fe fi : Rho → Rs Opd} {i : Nat} {x : Str} {m m' : Mu} {t : TSet} {K : PySem.W.Frag} {U W : Addr → Prop} {H : Hp}
theorem mu_setL : MuOk C (rPut rSetL) (mOf fSetL) := by
  refine mOf_ok fun W H p xs vs ds as ds' d Q hp lv x xv h q => ?_
  match as, xv, h with
  | [a, .int k], .cons y (.cons (.int _) .nil), h =>
    have h : ((ixN ds.length k).map fun j => (ds.set j a, D.non)) = some (ds', _) := h
    cases e : ixN ds.length k with
    | none => rw [e] at h; cases h
    | some j =>
      rw [e] at h; cases h
      exact ⟨_, _, rfl, p, xs, k, j, rfl, rfl, hp, by rw [x.len]; exact e, q _ _ (rps_set j x y) .non⟩
theorem keyD_of {v : V} {d : D} {k : Key} (x : Rp K W H v d) (h : keyD d = some k) : v = kV k := by
  cases x <;> first | (cases h; rfl) | cases h
theorem kr_any {k : Key} : ∀ {xs : List (Key × V)} {ds : List (Key × D)}, KR K W H xs ds → (xs.any fun kv => decide (kv.1 = k)) = ds.any fun kv => decide (kv.1 = k)
  | _, _, .nil => rfl
  | _, _, .cons h t => by rw [List.any_cons, List.any_cons, h.1, kr_any t]
theorem kr_get {k : Key} : ∀ {xs : List (Key × V)} {ds : List (Key × D)}, KR K W H xs ds → match getD ds k with | some d => ∃ v, valV xs k = some v ∧ Rp K W H v d | none => valV xs k = none
  | _, _, .nil => rfl
  | _, _, .cons (a := p) (b := q) h t => by
    by_cases e : q.1 = k
    · have e' : p.1 = k := h.1.trans e
      rw [show getD (q :: _) k = some q.2 by simp [getD, List.find?_cons, e]]
      exact ⟨p.2, valV_pos e', h.2⟩
    · have e' : ¬ p.1 = k := fun z => e (h.1.symm.trans z)
      rw [show getD (q :: _) k = getD _ k by simp [getD, List.find?_cons, e]; rfl, valV_neg e']
      exact kr_get t
theorem kr_map {k : Key} {v : V} {d : D} (y : Rp K W H v d) : ∀ {xs : List (Key × V)} {ds : List (Key × D)}, KR K W H xs ds → KR K W H (xs.map fun kv => if kv.1 = k then (kv.1, v) else kv) (ds.map fun kv => if kv.1 = k then (kv.1, d) else kv)
  | _, _, .nil => .nil
  | _, _, .cons (a := p) (b := q) h t => by
    refine .cons ?_ (kr_map y t)
    dsimp only
    by_cases e : q.1 = k
    · rw [if_pos e, if_pos (h.1.trans e)]; exact ⟨h.1, y⟩
    · rw [if_neg e, if_neg fun z => e (h.1.symm.trans z)]; exact h
theorem kr_app : ∀ {xs ys : List (Key × V)} {ds es : List (Key × D)}, KR K W H xs ds → KR K W H ys es → KR K W H (xs ++ ys) (ds ++ es)
  | _, _, _, _, .nil, h => h
  | _, _, _, _, .cons x t, h => .cons x (kr_app t h)
theorem kr_put {k : Key} {v : V} {d : D} (y : Rp K W H v d) {xs : List (Key × V)} {ds : List (Key × D)} (x : KR K W H xs ds) : KR K W H (putK xs k v) (putD ds k d) := by
  unfold putK putD
  rw [kr_any x]
  by_cases h : (ds.any fun kv => decide (kv.1 = k)) = true
  · rw [if_pos h, if_pos h]; exact kr_map y x
  · rw [if_neg h, if_neg h]; exact kr_app x (.cons ⟨rfl, y⟩ .nil)
theorem mu_dput : MuOk C (rPut tDP) mDPut := by
  intro U W H p s s' vs as d Q ho hw lv xs xv hm q
  have go : ∀ (ls : List (Key × D)) (ys : List (Key × V)), asDw s = some ls → H p = some (.dK ys) → KR C.K W H ys ls → (∀ ds' ys', KR C.K W H ys' ds' → At C.K W H (reD s ds') (.dK ys')) → (∀ ds', s.hard = true → Sl s (reD s ds')) → rPut tDP (.ref p) vs H Q := fun ls ys e1 e2 e3 e4 e5 => by
    unfold mDPut at hm
    rw [e1] at hm
    match as, xv, hm with
    | [a, kd], .cons y (.cons yk .nil), hm =>
      dsimp only at hm
      cases e : keyD kd with
      | none => rw [e] at hm; cases hm
      | some k =>
        rw [e] at hm
        dsimp only at hm
        by_cases hl : decide (ls.length < 16777216) = true
        · rw [if_pos hl] at hm; cases hm
          rw [keyD_of yk e]
          exact ⟨_, _, rfl, p, _, rfl, .k e2 (by rw [sizeLine_eq, e3.len]; exact of_decide_eq_true hl), q _ _ (e4 _ _ (kr_put y e3)) (e5 _) .non⟩
        · rw [if_neg hl] at hm; cases hm
  cases xs with
  | od e x => exact go _ _ rfl e x (fun _ _ y => .od y) fun _ h => by cases h
  | bd e x => exact go _ _ rfl e x (fun _ _ y => .bd y) fun _ _ => ⟨_, rfl⟩
  | _ => first | (cases ho; done) | (cases hm; done)
/-- x[k] = e, a list or a dict -/
def mPut : Mu := orM (mOf fSetL) mDPut
theorem gs_sub {px p1 pos : Pos} (hu : X.A.units + 1 < cLine) (hN : X.N[i]? = some x) (hv : Vis X.env.scope x) (he : GE X C e fe) (hi : GE X C ie fi)
    (ha : ∀ v, assign (.Subscript (.Name x px) ie p1) X.env v = (do
      let ov ← holding [v] (eval (.Name x px) X.env)
      let iv ← holding [v, ov] (eval ie X.env)
      standAt p1
      holding [v, ov, iv] (setItem ov iv v)
      release [v, ov, iv] []) := by intro _; rfl)
    (hs : swapsWithSole [.Subscript (.Name x px) ie p1] e pos.line X.env = pure false := by rfl) (hw : swappedStores [.Subscript (.Name x px) ie p1] e X.env = pure none := by rfl)
    (h1 : (assignEach [.Subscript (.Name x px) ie p1] X.env).map (·.2) = [assign (.Subscript (.Name x px) ie p1) X.env] := by rfl)
    (hs2 : swapsWith e (some (.Subscript (.Name x px) ie p1)) pos.line X.env = pure false := by rfl)
    (hd : (x == ("__debug__" : Str)) = false := by decide) (hcd : (x == ("__classdict__" : Str)) = false := by decide) : GS X C (.Assign [.Subscript (.Name x px) ie p1] e pos) (fPut i mPut fe fi) :=
  gs_putU (gs_put (ps_asg he (pg_sub (pe_var hN hv hd hcd) hi set_list ha) hs hw h1) mu_setL)
    (gs_put (t := tDP) (weakS (ps_dput hu (pe_var hN hv hd hcd) hi he hs2) fun D σ H h => h) mu_dput)
def rDGet : R2 := fun x y H Q => ∃ a v, x = .ref a ∧ DGet H a y (some v) ∧ Q v H
def fDGet (a b : S) : Option S := match asDr a, b with
  | some kvs, .fz k => (match keyD k with | some k => (getD kvs k).map .fz | none => none)
  | _, _ => none
theorem asDr_of {v : V} {s : S} (x : SR K U W H v s) {ds : List (Key × D)} (h : asDr s = some ds) : ∃ p xs, v = .ref p ∧ Rd H p (.dK xs) ∧ KR K W H xs ds := by
  cases x with
  | od e x => cases h; exact ⟨_, _, rfl, .inl e, x⟩
  | bd e x => cases h; exact ⟨_, _, rfl, .inl e, x⟩
  | kd e x => cases h; obtain ⟨_, _, e⟩ := e.ex; exact ⟨_, _, rfl, .inr ⟨_, e⟩, x⟩
  | _ => cases h
theorem pn_dget : PN C (fun vs H Q => ∃ x y, vs = [x, y] ∧ rDGet x y H Q) (p2 fDGet) := by
  refine pn2 fun U W H x y a b s Q lv xa xb h q => ?_
  unfold fDGet at h
  cases e : asDr a with
  | none => rw [e] at h; cases h
  | some kvs =>
    rw [e] at h
    cases b with
    | fz kd =>
      dsimp only at h
      cases e2 : keyD kd with
      | none => rw [e2] at h; cases h
      | some k =>
        rw [e2] at h
        dsimp only at h
        cases e3 : getD kvs k with
        | none => rw [e3] at h; cases h
        | some d =>
          rw [e3] at h; cases h
          obtain ⟨p, xs, rfl, e4, t⟩ := asDr_of xa e
          have g := kr_get (k := k) t
          rw [e3] at g
          obtain ⟨v, g1, g2⟩ := g
          cases xb with
          | fz xb =>
            rw [keyD_of xb e2]
            exact ⟨p, v, rfl, .inl ⟨xs, k, e4, rfl, g1.symm⟩, q _ _ (.same g2)⟩
    | _ => cases h
/-- o[i]: a list, a tuple, a text, a dict -/
theorem ge_sub {pos : Pos} (hu : X.A.units + 1 < cLine) (hn : NoSl ie) (ho : GE X C e fe) (hi : GE X C ie fi) (h : GE X C (.Subscript e ie pos) (eCall (p2 fIx) (eCons fe (eCons fi eNil)))) : GE X C (.Subscript e ie pos) (eCall (orP (p2 fIx) (p2 fDGet)) (eCons fe (eCons fi eNil))) :=
  ge_orP h (ge_op pn_dget (weakE (pe_dget hu ho hi hn) fun σ H Q h => h))
/-- {} -/
def eDic0 : Rho → Rs Opd := fun r => .ok (.val (.od [])) r
theorem ge_dic0 {pos : Pos} : GE X C (.Dict [] [] pos) eDic0 := by
  refine weakE pe_dnewK fun σ H Q h => ?_
  obtain ⟨U, r, s, h⟩ := h
  intro p hp
  obtain ⟨U2, s2, a2, k2, n2⟩ := (Got.od (K := C.K) (W := Wn U σ r) (upd_keep hp) hp (upd_same (o := .dK [])) .nil).fin s
  exact h _ _ U2 s2 a2 Per.refl k2 n2
/-- k in d -/
def inD (a b : S) : Option Bool := match a, asDr b with
  | .fz k, some kvs => (keyD k).map fun k => (getD kvs k).isSome
  | _, _ => none
def fDIn (a b : S) : Option S := (inD a b).map fun k => .fz (.bl k)
def fDNotIn (a b : S) : Option S := (inD a b).map fun k => .fz (.bl (!k))
def rDIn : R2 := fun y x H Q => ∃ a o, x = .ref a ∧ DGet H a y o ∧ Q (.bl o.isSome) H
def rDNotIn : R2 := fun y x H Q => ∃ a o, x = .ref a ∧ DGet H a y o ∧ Q (.bl (!o.isSome)) H
theorem inD_of {x y : V} {a b : S} {k : Bool} (xa : SR K U W H x a) (xb : SR K U W H y b) (h : inD a b = some k) : ∃ p o, y = .ref p ∧ DGet H p x o ∧ o.isSome = k := by
  unfold inD at h
  cases a with
  | fz kd =>
    cases e : asDr b with
    | none => rw [e] at h; cases h
    | some kvs =>
      rw [e] at h
      dsimp only at h
      cases e2 : keyD kd with
      | none => rw [e2] at h; cases h
      | some k =>
        rw [e2] at h; cases h
        obtain ⟨p, xs, rfl, e4, t⟩ := asDr_of xb e
        have g := kr_get (k := k) t
        cases xa with
        | fz xa =>
          rw [keyD_of xa e2]
          refine ⟨p, _, rfl, .inl ⟨xs, k, e4, rfl, rfl⟩, ?_⟩
          cases e3 : getD kvs k with
          | none => rw [e3] at g; simp only [g, e3, Option.isSome_none]
          | some d => rw [e3] at g; obtain ⟨v, g1, g2⟩ := g; simp only [g1, e3, Option.isSome_some]
  | _ => cases h
theorem pn_din : PN C (fun vs H Q => ∃ x y, vs = [x, y] ∧ rDIn x y H Q) (p2 fDIn) := by
  refine pn2 fun U W H x y a b s Q lv xa xb h q => ?_
  unfold fDIn at h
  cases e : inD a b with
  | none => rw [e] at h; cases h
  | some k =>
    rw [e] at h; cases h
    obtain ⟨p, o, h1, h2, h3⟩ := inD_of xa xb e
    exact ⟨p, o, h1, h2, by rw [h3]; exact q (.bl k) H (.same (.bl k))⟩
theorem pn_dnotin : PN C (fun vs H Q => ∃ x y, vs = [x, y] ∧ rDNotIn x y H Q) (p2 fDNotIn) := by
  refine pn2 fun U W H x y a b s Q lv xa xb h q => ?_
  unfold fDNotIn at h
  cases e : inD a b with
  | none => rw [e] at h; cases h
  | some k =>
    rw [e] at h; cases h
    obtain ⟨p, o, h1, h2, h3⟩ := inD_of xa xb e
    exact ⟨p, o, h1, h2, by rw [h3]; exact q (.bl (!k)) H (.same (.bl _))⟩
theorem PN.or2 {rr rr' : R2} {p q : Pr} (h : PN C (fun vs H Q => ∃ x y, vs = [x, y] ∧ rr x y H Q) p) (h' : PN C (fun vs H Q => ∃ x y, vs = [x, y] ∧ rr' x y H Q) q) : PN C (fun vs H Q => ∃ x y, vs = [x, y] ∧ (rr x y H Q ∨ rr' x y H Q)) (orP p q) := by
  intro U W H vs ss s Q lv hs hp k
  rcases PN.or h h' U W H vs ss s Q lv hs hp k with ⟨x, y, e, z⟩ | ⟨x, y, e, z⟩
  · exact ⟨x, y, e, .inl z⟩
  · exact ⟨x, y, e, .inr z⟩
theorem op_din (hu : X.A.units + 1 < cLine) : OpR X (compareOp .In) rDIn := fun pins s σ H x y v u Q I rx ry h => by
  obtain ⟨a, o, rfl, g, q⟩ := h
  obtain rfl : u = Value.ref a := ry
  exact d_in hu I g rx fun s3 I3 => ⟨.bl o.isSome, H, I3, rfl, q⟩
theorem op_dnotin (hu : X.A.units + 1 < cLine) : OpR X (compareOp .NotIn) rDNotIn := fun pins s σ H x y v u Q I rx ry h => by
  obtain ⟨a, o, rfl, g, q⟩ := h
  obtain rfl : u = Value.ref a := ry
  exact d_notIn hu I g rx fun s3 I3 => ⟨.bl (!o.isSome), H, I3, rfl, q⟩
/-- in, of all kinds -/
def qIn : Pr := orP (p2 fIn) (p2 fDIn)
def qNotIn : Pr := orP (p2 fNotIn) (p2 fDNotIn)
theorem op_inA (hu : X.A.units + 1 < cLine) : OpR X (compareOp .In) (fun x y H Q => rInU X.K x y H Q ∨ rDIn x y H Q) := op_inU.or (op_din hu)
theorem op_notInA (hu : X.A.units + 1 < cLine) : OpR X (compareOp .NotIn) (fun x y H Q => rNotInU X.K x y H Q ∨ rDNotIn x y H Q) := op_notInU.or (op_dnotin hu)
theorem pn_inA : PN C (fun vs H Q => ∃ x y, vs = [x, y] ∧ (rInU C.K x y H Q ∨ rDIn x y H Q)) qIn := PN.or2 pn_in pn_din
theorem pn_notInA : PN C (fun vs H Q => ∃ x y, vs = [x, y] ∧ (rNotInU C.K x y H Q ∨ rDNotIn x y H Q)) qNotIn := PN.or2 pn_notIn pn_dnotin
end
end GB
namespace GB
open PySem PySem.Spec PyProof.Rows L2
section
variable {X : Cx} {C : Ct} {e e2 tg : Expr} {fe fe2 : Rho → Rs Opd} {fa : Rho → Rs (List Opd)} {R : It → Hp → Prop} {pins : List (Addr × Obj)} {σ : St} {H : Hp} {s : Shared} {a : Addr}
/-- a list, a tuple or a text is walked -/
def iAny (K : PySem.W.Frag) (v : V) (H : Hp) (R : It → Hp → Prop) : Prop :=
  (∃ a, v = .ref a ∧ (∃ xs, SqL K H a xs) ∧ R (Itl K a) H) ∨ (∃ a, v = .ref a ∧ (∃ xs, SqT K H a xs) ∧ R (Itt K a) H) ∨ ∃ x, v = .str x ∧ R (Its x) H
theorem it_any {v : V} {u : Value} (I : Inv X pins σ H s) (r : RelV v u) (h : iAny X.K v H R) : wpAny (model X.prog X.w) X.A (pyIter u) (PIE X pins σ tg R) X.xe s := by
  rcases h with ⟨a, rfl, ⟨xs, hq⟩, h⟩ | ⟨a, rfl, ⟨xs, hq⟩, h⟩ | ⟨x, rfl, h⟩
  · cases r
    obtain ⟨its, _, p, _⟩ := I.list hq
    exact wpAny_pyIter_list p.isList (pi_one (tk := s.toks) I _ (turn_list a _) ⟨_, Heap.get?_push_size _ rfl, rfl, rfl⟩ h)
  · cases r
    obtain ⟨its, _, p, _⟩ := I.tuple hq
    exact wpAny_pyIter_tuple (show s.heap.IsTuple a its.toArray from p) (pi_one (tk := s.toks) I _ (turn_tuple a _) ⟨_, Heap.get?_push_size _ rfl, rfl, rfl⟩ h)
  · obtain ⟨t, rfl⟩ := r
    by_cases z : x.cps.all (· < 128) = true
    · exact wpAny_pyIter_ascii z (pi_one (tk := s.toks) I _ (turn_str _ x t _ (.inl rfl)) ⟨_, Heap.get?_push_size _ rfl, rfl, rfl⟩ h)
    · exact wpAny_pyIter_wide (Bool.eq_false_iff.mpr z) (pi_one (tk := s.toks) I _ (turn_str _ x t _ (.inr rfl)) ⟨_, Heap.get?_push_size _ rfl, rfl, rfl⟩ h)
theorem pi_any {te : TE} (he : PE X e te) : PI X tg e (fun σ H R => te σ H fun v H1 => iAny X.K v H1 R) :=
  ⟨fun pins s σ H R I h => thn (he.run pins s σ H _ I h) fun u s1 ⟨v, H1, I1, r1, q⟩ => it_any I1 r1 q⟩
/-- what a walk gives, one by one -/
def itemsOf : S → Option (List D)
  | .fz (.str w) => some (w.map fun c => .str [c])
  | s => asQ s
def mkSeq : List S → Option (List D)
  | [s] => itemsOf s
  | _ => none
theorem weakI {wi wi' : TI} (h : PI X tg e wi) (k : ∀ σ H R, wi' σ H R → wi σ H R) : PI X tg e wi' := ⟨fun pins s σ H R I q => h.run pins s σ H R I (k σ H R q)⟩
theorem walkL {K : PySem.W.Frag} {n : Nat} : Walk (Itl K a) n (fun H => ∃ xs, SqL K H a xs ∧ xs.length = n) (fun i H x H' => H' = H ∧ ∀ xs, SqL K H a xs → xs[i]? = some x) :=
  ⟨fun i _ hi ⟨xs, q, e⟩ => ⟨xs, xs[i], q, by simp [e, hi]⟩, fun _ ⟨xs, q, e⟩ => ⟨xs, q, Nat.le_of_eq e⟩, fun _ _ _ _ _ _ y => y⟩
theorem walkT {K : PySem.W.Frag} {n : Nat} : Walk (Itt K a) n (fun H => ∃ xs, SqT K H a xs ∧ xs.length = n) (fun i H x H' => H' = H ∧ ∀ xs, SqT K H a xs → xs[i]? = some x) :=
  ⟨fun i _ hi ⟨xs, q, e⟩ => ⟨xs, xs[i], q, by simp [e, hi]⟩, fun _ ⟨xs, q, e⟩ => ⟨xs, q, Nat.le_of_eq e⟩, fun _ _ _ _ _ _ y => y⟩
theorem srs1 {K : PySem.W.Frag} {U W : Addr → Prop} {v : V} {t : S} (h : SRs K U W H [v] [t]) : SR K U W H v t := by cases h; assumption
theorem git_list {t : S} {p : Addr} {ds : List D} (h : asLs t = some ds) : GItem C (Itl C.K p) ds [.ref p] [t] := by
  refine ⟨_, _, walkL, fun U W H z => ?_, fun i H x H' d U W hd z lv y => ?_⟩
  · obtain ⟨p', xs, e, h2, h3⟩ := asLs_of (srs1 z) h
    cases e
    exact ⟨xs, h2, h3.len⟩
  · obtain ⟨p', xs, e, h2, h3⟩ := asLs_of (srs1 z) h
    cases e
    obtain ⟨rfl, y⟩ := y
    obtain ⟨v, g1, g2⟩ := rps_at h3 hd
    have := y xs h2
    rw [g1] at this
    cases this
    exact ⟨fun _ _ h => h, .inl g2⟩
theorem git_tup {p : Addr} {ds : List D} : GItem C (Itt C.K p) ds [.ref p] [.fz (.tup ds)] := by
  refine ⟨_, _, walkT, fun U W H z => ?_, fun i H x H' d U W hd z lv y => ?_⟩
  · cases srs1 z with | fz z => cases z with | tup e z => exact ⟨_, e.sq, z.len⟩
  · cases srs1 z with
    | fz z =>
      cases z with
      | tup e z =>
        obtain ⟨rfl, y⟩ := y
        obtain ⟨v, g1, g2⟩ := rps_at z hd
        have := y _ e.sq
        rw [g1] at this
        cases this
        exact ⟨fun _ _ h => h, .inl g2⟩
theorem git_str {w : List Nat} : GItem C (Its ⟨w.toArray⟩) (w.map fun c => .str [c]) [.str ⟨w.toArray⟩] [.fz (.str w)] := by
  refine ⟨_, _, by simpa using walk_str (z := ⟨w.toArray⟩), fun U W H z => True.intro, fun i H x H' d U W hd z lv y => ?_⟩
  obtain ⟨rfl, c, e, rfl⟩ := y
  have e : w[i]? = some c := by simpa using e
  rw [List.getElem?_map, e] at hd
  cases hd
  exact ⟨fun _ _ h => h, .inl (.str [c])⟩
theorem gi_seq (he : GE X C e fe) (hK : C.K = X.K := by rfl) : GI X C tg e (eCons fe eNil) mkSeq := by
  refine ⟨fun vs H R => ∃ v, vs = [v] ∧ iAny C.K v H R, ?_, ?_⟩
  · intro vs H ss ds U W R hs hn hm q
    match ss, hs, hm with
    | [t], .cons (a := v) x .nil, hm =>
      refine ⟨v, rfl, ?_⟩
      have hm : itemsOf t = some ds := hm
      have lst : asLs t = some ds → iAny C.K v H R := fun h => by
        obtain ⟨p, xs, rfl, h2, h3⟩ := asLs_of x h
        exact .inl ⟨p, rfl, ⟨xs, h2⟩, q _ (git_list h)⟩
      cases t with
      | fz d =>
        cases d with
        | str w =>
          cases hm
          have e := sr_str x
          subst e
          exact .inr (.inr ⟨_, rfl, q _ git_str⟩)
        | tup es =>
          cases hm
          cases x with
          | fz x => cases x with | tup e z => exact .inr (.inl ⟨_, rfl, ⟨_, e.sq⟩, q _ git_tup⟩)
        | _ => exact lst hm
      | _ => exact lst hm
  · refine weakI (pi_any he) fun σ H R h => ?_
    obtain ⟨U, r, s, h⟩ := h
    refine tE_then (g := fun o r1 => Rs.ok [o] r1) (R := fun z : Rs (List Opd) => match z with | .ok os r' => ∀ vs H' U', Sit C U' H' σ r' → Aft U H σ r U' H' σ r' → Per r r' → OpsOk C U' H' σ r' os vs → NewS H os vs → ∃ v, vs = [v] ∧ iAny C.K v H' R | .ex c fs r' => XWant C U H σ r c fs r' | .st => False) s ?_ id (fun _ _ _ z => z) ?_
    · refine cast ?_ h
      unfold eCons eNil Rs.bind
      cases fe r <;> rfl
    · intro o r1 v H1 U1 s1 a1 p1 k1 n1 h1
      obtain ⟨v', e, q⟩ := h1 [v] H1 U1 s1 a1 p1 (.cons k1 .nil) (.cons n1 .nil)
      cases e
      rw [← hK]
      exact q
def small62 (i : Int) : Bool := decide (-(2 ^ 62) ≤ i ∧ i < 2 ^ 62)
def upFrom (lo : Int) (n : Nat) : List D := (List.range n).map fun k => .int (lo + (k : Nat))
def mkR1 : List S → Option (List D)
  | [.fz (.int j)] => if small62 j then some (upFrom 0 j.toNat) else none
  | _ => none
def mkR2 : List S → Option (List D)
  | [.fz (.int i), .fz (.int j)] => if small62 i && small62 j then some (upFrom i (j - i).toNat) else none
  | _ => none
theorem git_range {lo : Int} {n : Nat} {vs : List V} {ss : List S} : GItem C (Itr lo n) (upFrom lo n) vs ss := by
  refine ⟨_, _, by simpa [upFrom] using walk_range (lo := lo) (n := n), fun U W H z => True.intro, fun i H x H' d U W hd z lv y => ?_⟩
  obtain ⟨rfl, rfl⟩ := y
  unfold upFrom at hd
  rw [List.getElem?_map] at hd
  by_cases hi : i < n
  · rw [List.getElem?_range hi] at hd
    cases hd
    exact ⟨fun _ _ h => h, .inl (.int _)⟩
  · rw [List.getElem?_eq_none (by simpa using hi)] at hd
    cases hd
theorem gi_range1 {p pos : Pos} (hg : Gl X "range") (hm : X.mg "range" = none) (ha : GA X C [e] fa) (hs : starEach [e] X.env = [(false, eval e X.env)] := by rfl) : GI X C tg (.Call (.Name "range" p) [e] [] pos) fa mkR1 := by
  refine ⟨_, ?_, pi_range1 hg hm ha hs⟩
  intro vs H ss ds U W R hs hn hm q
  match ss, hs, hm with
  | [.fz (.int j)], .cons x .nil, hm =>
    have hm : (if small62 j then some (upFrom 0 j.toNat) else none) = some ds := hm
    by_cases z : small62 j = true
    · rw [if_pos z] at hm; cases hm
      have z := of_decide_eq_true z
      rw [sr_int x]
      exact ⟨j, rfl, z.1, z.2, q _ git_range⟩
    · rw [if_neg z] at hm; cases hm
def mkEnum : List S → Option (List D)
  | [s] => (asLs s).map fun ds => ds.zipIdx.map fun z => .tup [.int (z.2 : Nat), z.1]
  | _ => none
theorem walkE {K : PySem.W.Frag} {n : Nat} : Walk (Ite K a) n (fun H => ∃ xs, SqL K H a xs ∧ xs.length = n) (fun i H v H' => ∃ T x, v = .ref T ∧ H T = none ∧ H' = upd H T (.tup [.int (i : Nat), x]) ∧ ∀ xs, SqL K H a xs → xs[i]? = some x) :=
  ⟨fun i _ hi ⟨xs, q, e⟩ => ⟨xs, xs[i], q, by simp [e, hi]⟩, fun _ ⟨xs, q, e⟩ => ⟨xs, q, Nat.le_of_eq e⟩, fun _ _ _ _ _ _ y => y⟩
end
end GB
namespace GB
open PySem PySem.Spec PyProof.Rows L2
theorem revIx (n : Nat) : Builtin.Str.strSliceIndices none none (-1) n = (List.range n).reverse := by
  unfold Builtin.Str.strSliceIndices
  show sliceRange ((n : Int) - 1) (-1) (-1) = _
  rw [PySem.W.krv_sliceRange, PySem.W.krv_range]
theorem allAt (w : List Nat) : (List.range w.length).filterMap (w.toArray[·]?) = w := by
  have key : ∀ (a b : List Nat), (List.range' a.length b.length).filterMap ((a ++ b).toArray[·]?) = b := by
    intro a b
    induction b generalizing a with
    | nil => rfl
    | cons c b ih =>
      rw [List.length_cons, List.range'_succ, List.filterMap_cons]
      have e : (a ++ c :: b).toArray[a.length]? = some c := by simp
      rw [e]
      have h := ih (a ++ [c])
      rw [List.length_append, List.length_singleton, List.append_assoc, List.singleton_append] at h
      rw [h]
  have := key [] w
  rw [List.range_eq_range']
  exact this
section
variable {X : Cx} {C : Ct} {e : Expr} {fe : Rho → Rs Opd} {k : Nat} {p1' p2' p3' pos : Pos}
theorem revMade {w : List Nat} {t u : Tok} : (if (((some ((-1 : Int), u)).map (·.1)).getD 1 == 1 && (slicePicked ⟨w.toArray⟩ none none (some (-1, u))).length == (⟨w.toArray⟩ : Str).length) = true then Made.val (.str ⟨w.toArray⟩ t) else .str ⟨((slicePicked ⟨w.toArray⟩ none none (some (-1, u))).filterMap ((⟨w.toArray⟩ : Str).cps[·]?)).toArray⟩) = .str ⟨w.reverse.toArray⟩ := by
  rw [if_neg (by simp)]
  have e : slicePicked ⟨w.toArray⟩ none none (some (-1, u)) = (List.range w.length).reverse := by
    show Builtin.Str.strSliceIndices none none (-1) (⟨w.toArray⟩ : Str).length = _
    rw [revIx, str_len]
  rw [e, List.filterMap_reverse]
  show Made.str ⟨((List.range w.length).filterMap (w.toArray[·]?)).reverse.toArray⟩ = _
  rw [allAt]
def tRevS (te : TE) : TE := fun σ H Q => te σ H fun x H1 => ∃ w : List Nat, x = .str ⟨w.toArray⟩ ∧ w.length ≤ sizeLine ∧ Q (.str ⟨w.reverse.toArray⟩) H1
theorem pe_revS {te : TE} (he : PE X e te) : PE X (.Subscript e (.Slice none none (some (.UnaryOp .USub (.Constant (.int 1) k p1') p2')) p3') pos) (tRevS te) := by
  refine ⟨fun pins s σ H Q I h => Subscript_ (thn (he.run pins s σ H _ I h) fun v s1 ⟨x, H1, I1, r1, w, ex, hz, q⟩ => ?_)⟩
  subst ex
  obtain ⟨tk, rfl⟩ := r1
  have step : PO X (some (.UnaryOp .USub (.Constant (.int 1) k p1') p2')) _ := po_some (pe_un un_neg pe_int)
  refine wpAny_Slice (thn ((po_none (X := X)).run pins s1 σ H1 (fun o H2 => o = none ∧ H2 = H1) I1 ⟨rfl, rfl⟩) fun vl s2 z2 => ?_)
  obtain ⟨l, H2, I2, pl, rfl, rfl⟩ := z2
  refine thn ((po_none (X := X)).run pins s2 σ H2 (fun o H3 => o = none ∧ H3 = H2) I2 ⟨rfl, rfl⟩) fun vu s3 z3 => ?_
  obtain ⟨u, H3, I3, pu, rfl, rfl⟩ := z3
  refine thn (step.run pins s3 σ H3 (fun o H4 => o = some (-1) ∧ H4 = H3) I3 ⟨1, rfl, -1, rfl, rfl, rfl⟩) fun vs s4 z4 => ?_
  obtain ⟨o, H4, I4, ps, rfl, rfl⟩ := z4
  cases pl
  cases pu
  cases ps with
  | int i t =>
  have I5 : Inv X pins σ H4 { s4 with heap := s4.heap.push { cls := .type "slice", data := .fields #[.none, .none, .int (-1) t] } } := I4.kept (t' := s4.toks) fun b ob q => Heap.get?_push_of_some _ q
  show wpAny (model X.prog X.w) X.A (subscriptTail e _ (.str ⟨w.toArray⟩ tk) (.ref s4.heap.objs.size)) _ X.xe _
  refine tail_any (ops := [.ref s4.heap.objs.size, .str ⟨w.toArray⟩ tk]) (typeIs_str _ _ _) F.slot_str_getitem.lookup ?_ (by with_unfolding_all rfl)
  refine wpAny_getItem_str_slice (l := none) (u := none) (st := some (-1, t)) ⟨_, Heap.get?_push_size _ rfl, rfl, rfl⟩ rfl ?_
  unfold sliceMade
  rw [revMade]
  exact ⟨by rw [str_len, List.length_reverse]; exact hz, .str _, H4, I5.tok _, ⟨_, rfl⟩, q⟩
def fRevS : S → Option S
  | .fz (.str w) => if big w.length then some (.fz (.str w.reverse)) else none
  | _ => none
def fRevL (s : S) : Option S := (asLs s).map fun ds => .ol ds.reverse
theorem pn_revS : PN C (fun vs H Q => ∃ x, vs = [x] ∧ ∃ w : List Nat, x = .str ⟨w.toArray⟩ ∧ w.length ≤ sizeLine ∧ Q (.str ⟨w.reverse.toArray⟩) H) (p1 fRevS) := by
  refine pn1 (rr := fun x H Q => ∃ w : List Nat, x = .str ⟨w.toArray⟩ ∧ w.length ≤ sizeLine ∧ Q (.str ⟨w.reverse.toArray⟩) H) fun U W H x a s Q lv xa h q => ?_
  cases a with
  | fz a =>
    cases a with
    | str w =>
      have h : (if big w.length then some (S.fz (.str w.reverse)) else none) = some s := h
      by_cases z : big w.length = true
      · rw [if_pos z] at h; cases h
        rw [sr_str xa]
        exact ⟨w, rfl, big_le z, q _ _ (.same (.str _))⟩
      · rw [if_neg z] at h; cases h
    | _ => cases h
  | _ => cases h
theorem rps_rev {K : PySem.W.Frag} {W : Addr → Prop} {H : Hp} : ∀ {xs : List V} {ds : List D}, Rps K W H xs ds → Rps K W H xs.reverse ds.reverse
  | _, _, .nil => .nil
  | _, _, .cons x t => by rw [List.reverse_cons, List.reverse_cons]; exact rps_append (rps_rev t) (.cons x .nil)
theorem pn_revL : PN C (fun vs H Q => ∃ x, vs = [x] ∧ ∃ a xs, x = .ref a ∧ SqL C.K H a xs ∧ ∀ p, H p = none → Q (.ref p) (upd H p (.lst xs.reverse))) (p1 fRevL) := by
  refine pn1 (rr := fun x H Q => ∃ a xs, x = .ref a ∧ SqL C.K H a xs ∧ ∀ p, H p = none → Q (.ref p) (upd H p (.lst xs.reverse))) fun U W H x a s Q lv xa h q => ?_
  unfold fRevL at h
  cases e : asLs a with
  | none => rw [e] at h; cases h
  | some ds =>
    rw [e] at h; cases h
    obtain ⟨p, xs, rfl, e2, t⟩ := asLs_of xa e
    exact ⟨p, xs, rfl, e2, fun l hl => q _ _ (Got.newL (C := C) lv hl (rps_rev t))⟩
def qRev : Pr := orP (p1 fRevS) (p1 fRevL)
theorem ge_rev (he : GE X C e fe) (hK : C.K = X.K := by rfl) : GE X C (.Subscript e (.Slice none none (some (.UnaryOp .USub (.Constant (.int 1) k p1') p2')) p3') pos) (eCall qRev (eCons fe eNil)) :=
  ge_orP (ge_un pn_revS (pe_revS he)) (ge_un pn_revL (by rw [hK]; exact pe_revL he))
theorem toStr (z : Str) : z = ⟨z.cps.toList.toArray⟩ := by cases z; simp
end
end GB
namespace GB
open PySem PySem.Spec PyProof.Rows L2
abbrev e1 (p : Pr) (fa : Rho → Rs Opd) : Rho → Rs Opd := eCall p (eCons fa eNil)
abbrev e2 (p : Pr) (fa fb : Rho → Rs Opd) : Rho → Rs Opd := eCall p (eCons fa (eCons fb eNil))
theorem rp_str {K : PySem.W.Frag} {W : Addr → Prop} {H : Hp} {x : Str} {l : List Nat} (h : x = ⟨l.toArray⟩) : Rp K W H (.str x) (.str l) := by subst h; exact .str l
section
variable {X : Cx} {C : Ct} {a b c e : Expr} {es : List Expr} {fa fb fc fe fo : Rho → Rs Opd} {fs : Rho → Rs (List Opd)} {pos p px : Pos} {i : Nat} {x : Str}
theorem x_var (i : Nat) (hN : X.N[i]? = some x := by rfl) (hv : Vis X.env.scope x := by first | exact Or.inl rfl | exact Or.inr (Or.inl rfl) | exact Or.inr (Or.inr rfl)) (hd : (x == ("__debug__" : Str)) = false := by decide) (hcd : (x == ("__classdict__" : Str)) = false := by decide) :
    GE X C (.Name x pos) (eVar i) := ge_var hN hv hd hcd
theorem x_int {n : Int} {j : Nat} : GE X C (.Constant (.int n) j pos) (eC (.int n)) := ge_c pe_int fun _ _ => .int n
theorem x_bl {k : Bool} {j : Nat} : GE X C (.Constant (.bool k) j pos) (eC (.bl k)) := ge_c pe_bl fun _ _ => .bl k
theorem x_non {j : Nat} : GE X C (.Constant .none j pos) (eC .non) := ge_c pe_non fun _ _ => .non
theorem x_str {z : Str} {j : Nat} (l : List Nat) (h : z = ⟨l.toArray⟩ := by rfl) : GE X C (.Constant (.str z) j pos) (eC (.str l)) := ge_c pe_str fun _ _ => rp_str h
/-- a text of the module -/
theorem x_gstr {z : Str} (l : List Nat) (h : ∃ u, X.mg x = some u ∧ RelV (.str z) u) (hl : z = ⟨l.toArray⟩ := by rfl) (hg : Gl X x := by rfl) (hd : (x == ("__debug__" : Str)) = false := by decide) : GE X C (.Name x pos) (eC (.str l)) :=
  ge_c (C8.pe_gc hg h hd) fun _ _ => rp_str hl
theorem x_add (ha : GE X C a fa) (hb : GE X C b fb) (hK : C.K = X.K := by rfl) : GE X C (.BinOp a .Add b pos) (e2 (p2 fAdd) fa fb) := ge_op pn_add (by rw [hK]; exact pe_op op_addU ha hb)
theorem x_sub (ha : GE X C a fa) (hb : GE X C b fb) : GE X C (.BinOp a .Sub b pos) (e2 (p2 (fInts fun i j => some (.fz (.int (i - j))))) fa fb) := ge_op pn_sub (pe_op op_sub ha hb)
theorem x_mod (ha : GE X C a fa) (hb : GE X C b fb) : GE X C (.BinOp a .Mod b pos) (e2 (p2 (fInts fModI)) fa fb) := ge_op pn_mod (pe_op op_mod ha hb)
theorem x_div (ha : GE X C a fa) (hb : GE X C b fb) : GE X C (.BinOp a .FloorDiv b pos) (e2 (p2 (fInts fDivI)) fa fb) := ge_op pn_div (pe_op op_fdiv ha hb)
theorem x_pow (ha : GE X C a fa) (hb : GE X C b fb) : GE X C (.BinOp a .Pow b pos) (e2 (p2 (fInts fPowI)) fa fb) := ge_op pn_pow (pe_op op_pow ha hb)
theorem x_neg (ha : GE X C a fa) : GE X C (.UnaryOp .USub a pos) (e1 (p1 fNeg) fa) := ge_un pn_neg (pe_un un_neg ha)
abbrev qLt : Pr := p2 (fInts fun i j => some (.fz (.bl (decide (i < j)))))
abbrev qLe : Pr := p2 (fInts fun i j => some (.fz (.bl (decide (i ≤ j)))))
abbrev qGt : Pr := p2 (fInts fun i j => some (.fz (.bl (decide (j < i)))))
theorem x_gt (ha : GE X C a fa) (hb : GE X C b fb) : GE X C (.Compare a [.Gt] [b] pos) (e2 qGt fa fb) := ge_op (pn_cmpI fun i j => decide (j < i)) (pe_cmpR op_gt ha hb (nobehind _ (by decide) (by decide)))
theorem t_lt (ha : GE X C a fa) (hb : GE X C b fb) : GT X C (.Compare a [.Lt] [b] pos) (eBl (e2 qLt fa fb)) := gt_cmp op_lt (pn_cmpI fun i j => decide (i < j)) ha hb (nobehind _ (by decide) (by decide))
theorem t_gt (ha : GE X C a fa) (hb : GE X C b fb) : GT X C (.Compare a [.Gt] [b] pos) (eBl (e2 qGt fa fb)) := gt_cmp op_gt (pn_cmpI fun i j => decide (j < i)) ha hb (nobehind _ (by decide) (by decide))
theorem hu64 {A : Around} {k : Nat} (hr : Room k A) : A.units + 64 < cLine := by have := hr.un; omega
theorem hu1 {A : Around} {k : Nat} (hr : Room k A) : A.units + 1 < cLine := by have := hr.un; omega
theorem x_eq (hr : X.A.units + 64 < cLine) (ha : GE X C a fa) (hb : GE X C b fb) (hK : C.K = X.K := by rfl) : GE X C (.Compare a [.Eq] [b] pos) (e2 (p2 fEq) fa fb) := ge_op pn_eq (by rw [hK]; exact pe_cmpR (op_eqU hr) ha hb (nobehind _ (by decide) (by decide)))
theorem x_ne (hr : X.A.units + 64 < cLine) (ha : GE X C a fa) (hb : GE X C b fb) (hK : C.K = X.K := by rfl) : GE X C (.Compare a [.NotEq] [b] pos) (e2 (p2 fNe) fa fb) := ge_op pn_ne (by rw [hK]; exact pe_cmpR (op_neU hr) ha hb (nobehind _ (by decide) (by decide)))
theorem t_eq (hr : X.A.units + 64 < cLine) (ha : GE X C a fa) (hb : GE X C b fb) (hK : C.K = X.K := by rfl) : GT X C (.Compare a [.Eq] [b] pos) (eBl (e2 (p2 fEq) fa fb)) := gt_cmp (by rw [hK]; exact op_eqU hr) pn_eq ha hb (nobehind _ (by decide) (by decide))
theorem t_ne (hr : X.A.units + 64 < cLine) (ha : GE X C a fa) (hb : GE X C b fb) (hK : C.K = X.K := by rfl) : GT X C (.Compare a [.NotEq] [b] pos) (eBl (e2 (p2 fNe) fa fb)) := gt_cmp (by rw [hK]; exact op_neU hr) pn_ne ha hb (nobehind _ (by decide) (by decide))
theorem t_in (hr : X.A.units + 64 < cLine) (ha : GE X C a fa) (hb : GE X C b fb) (hK : C.K = X.K := by rfl) (hm : behindInMarks .In b = false := by with_unfolding_all rfl) : GT X C (.Compare a [.In] [b] pos) (eBl (e2 qIn fa fb)) := gt_cmp (by rw [hK]; exact op_inA (by omega)) pn_inA ha hb hm
theorem t_notIn (hr : X.A.units + 64 < cLine) (ha : GE X C a fa) (hb : GE X C b fb) (hK : C.K = X.K := by rfl) (hm : behindInMarks .NotIn b = false := by with_unfolding_all rfl) : GT X C (.Compare a [.NotIn] [b] pos) (eBl (e2 qNotIn fa fb)) := gt_cmp (by rw [hK]; exact op_notInA (by omega)) pn_notInA ha hb hm
theorem x_tup {n : Nat} (h : GA X C es fs) : GE X C (.Tuple es n pos) (eTup fs) := ge_tup (pe_tupX h)
theorem x_lst (h : GA X C es fs) : GE X C (.List es pos) (eLst fs) := ge_lst (pe_lst h)
abbrev qIx : Pr := orP (p2 fIx) (p2 fDGet)
theorem x_ix (hr : X.A.units + 64 < cLine) (ha : GE X C a fa) (hb : GE X C b fb) (hK : C.K = X.K := by rfl) (hs : PlainIx b := by intro _ _; rfl) (hn : NoSl b := by intro _ _; rfl) : GE X C (.Subscript a b pos) (e2 qIx fa fb) :=
  ge_sub (by omega) hn ha hb (ge_op pn_ix (by rw [hK]; exact pe_ix ix_seq ha hb hs))
abbrev eSl (fa : Rho → Rs Opd) (fl fh : Option (Rho → Rs Opd)) : Rho → Rs Opd := eCall (p3 fSl) (eCons fa (eCons (ePart fl) (eCons (ePart fh) eNil)))
theorem x_sl {lo hi : Option Expr} {fl fh : Option (Rho → Rs Opd)} (ha : GE X C a fa) (hl : GP X C lo fl) (hh : GP X C hi fh) (hK : C.K = X.K := by rfl) : GE X C (.Subscript a (.Slice lo hi none p) pos) (eSl fa fl fh) :=
  ge_slice sl_U (by rw [← hK]; exact pn_sl) ha hl hh
theorem x_rev {k : Nat} {q1 q2 q3 : Pos} (ha : GE X C a fa) (hK : C.K = X.K := by rfl) : GE X C (.Subscript a (.Slice none none (some (.UnaryOp .USub (.Constant (.int 1) k q1) q2)) q3) pos) (e1 qRev fa) := ge_rev ha hK
theorem x_len (hm : X.mg "len" = none) (ha : GE X C a fa) (hK : C.K = X.K := by rfl) (hg : Gl X "len" := by rfl) (hs : starEach [a] X.env = (false, eval a X.env) :: starEach [] X.env := by rfl) : GE X C (.Call (.Name "len" p) [a] [] pos) (e1 (p1 fLen) fa) :=
  ge_call pn_len (by rw [hK]; exact pe_callB call_len hg hm PySem.boot_len (ga_cons ha ga_nil hs) (he := hs))
theorem x_int1 (hm : X.mg "int" = none) (ha : GE X C a fa) (hg : Gl X "int" := by rfl) (hs : starEach [a] X.env = (false, eval a X.env) :: starEach [] X.env := by rfl) : GE X C (.Call (.Name "int" p) [a] [] pos) (e1 (p1 fInt1) fa) :=
  ge_call pn_int1 (pe_callTy call_int1 hg hm PyProof.Rows.boot_int (ga_cons ha ga_nil hs) (he := hs))
end
end GB
namespace GB
open PySem PySem.Spec PyProof.Rows L2
section
variable {X : Cx} {C : Ct} {a b c e o : Expr} {es : List Expr} {fa fb fc fe fo : Rho → Rs Opd} {fs : Rho → Rs (List Opd)} {pos p px apos cpos : Pos} {i : Nat} {x : Str}
theorem x_lower (ho : GE X C o fo) (hbase : attributeBase o "lower" X.env (eval o X.env) = eval o X.env := by rfl) (hline : (apos.endLine == cpos.line) = true := by rfl) : GE X C (.Call (.Attribute o "lower" apos) [] [] cpos) (eMeth isStr (p1 fLower) fo eNil) :=
  ge_meth0 (pe_bm0 PySem.F.plainAttrs_str PySem.F.slot_str_lower PySem.F.type_str_lower mt_lower ho hbase hline) isStr_ty pn_lower
theorem x_upper (ho : GE X C o fo) (hbase : attributeBase o "upper" X.env (eval o X.env) = eval o X.env := by rfl) (hline : (apos.endLine == cpos.line) = true := by rfl) : GE X C (.Call (.Attribute o "upper" apos) [] [] cpos) (eMeth isStr (p1 fUpper) fo eNil) :=
  ge_meth0 (pe_bm0 PySem.F.plainAttrs_str PySem.F.slot_str_upper PySem.F.type_str_upper mt_upper ho hbase hline) isStr_ty pn_upper
/-- what a method call of a built-in asks of the text -/
structure MCall (X : Cx) (o : Expr) (m : Str) (apos : Pos) (e : Expr) (es : List Expr) (cpos : Pos) : Prop where
  base : attributeBase o m X.env (eval o X.env) = eval o X.env
  few : ((backTo cpos (starEach (e :: es) X.env)).all (fun x => !x.1) && (backToKw cpos (keywordEach [] X.env)).all (fun x => x.1.isSome)
      && decide ((e :: es).length + ([] : List Keyword).length + (if ([] : List Keyword).isEmpty then 0 else 1) < 30)) = true
  line : (apos.endLine == cpos.line) = true
  star : starEach (e :: es) X.env = (false, eval e X.env) :: starEach es X.env
  plain : (backTo cpos (starEach es X.env)).any (·.1) = false
theorem x_join (ho : GE X C o fo) (ha : GE X C e fe) (mc : MCall X o "join" apos e [] cpos) (hK : C.K = X.K := by rfl) : GE X C (.Call (.Attribute o "join" apos) [e] [] cpos) (eMeth isStr (p2 fJoin) fo (eCons fe eNil)) :=
  ge_meth (pe_bm PySem.F.plainAttrs_str PySem.F.slot_str_join PySem.F.type_str_join mt_join ho (ga_cons ha ga_nil mc.star) mc.base mc.few mc.line mc.star mc.plain) isStr_ty (by rw [← hK]; exact pn_join)
theorem x_sindex (ho : GE X C o fo) (ha : GE X C e fe) (mc : MCall X o "index" apos e [] cpos) : GE X C (.Call (.Attribute o "index" apos) [e] [] cpos) (eMeth isStr (p2 fSIndex) fo (eCons fe eNil)) :=
  ge_meth (pe_bm PySem.F.plainAttrs_str PySem.F.slot_str_index PySem.F.type_str_index mt_sindex ho (ga_cons ha ga_nil mc.star) mc.base mc.few mc.line mc.star mc.plain) isStr_ty pn_sindex
theorem x_append (hN : X.N[i]? = some x) (hv : Vis X.env.scope x) (ha : GE X C e fe) (mc : MCall X (.Name x px) "append" apos e [] cpos) (hK : C.K = X.K := by rfl) (hd : (x == ("__debug__" : Str)) = false := by decide) (hcd : (x == ("__classdict__" : Str)) = false := by decide) :
    GE X C (.Call (.Attribute (.Name x px) "append" apos) [e] [] cpos) (eMut isOL (mOf fApp) i (eCons fe eNil)) :=
  ge_mut (by rw [hK]; exact pe_bm PySem.F.plainAttrs_list PySem.F.slot_list_append PySem.F.type_list_append mt_append (pe_var hN hv hd hcd) (ga_cons ha ga_nil mc.star) mc.base mc.few mc.line mc.star mc.plain) isOL_ty mu_append
theorem x_pop (hN : X.N[i]? = some x) (hv : Vis X.env.scope x) (hbase : attributeBase (.Name x px) "pop" X.env (eval (.Name x px) X.env) = eval (.Name x px) X.env := by rfl) (hline : (apos.endLine == cpos.line) = true := by rfl) (hK : C.K = X.K := by rfl) (hd : (x == ("__debug__" : Str)) = false := by decide) (hcd : (x == ("__classdict__" : Str)) = false := by decide) :
    GE X C (.Call (.Attribute (.Name x px) "pop" apos) [] [] cpos) (eMut isOL (mOf fPop0) i eNil) :=
  ge_mut0 (by rw [hK]; exact pe_bm0 PySem.F.plainAttrs_list PySem.F.slot_list_pop PySem.F.type_list_pop mt_pop (pe_var hN hv hd hcd) hbase hline) isOL_ty mu_pop
/-- a def of the module, its function shown -/
def DefOk (P : Program) (w : World) (K : PySem.W.Frag) (mg : Str → Option Value) (base : Heap) (k : Nat) (x : Str) (ps : List Str) (F : Fs) : Prop :=
  ∃ f fd, FnG P w K mg base k f fd ps (spF (ct0 K mg) ps.length F) ∧ mg x = some (.ref f) ∧ PySem.W.keepIn K (.ref f) = true ∧ Binds K fd ps []
theorem x_fn {k j : Nat} {ps : List Str} {F : Fs} (c : DefOk X.prog X.w X.K X.mg X.base j x ps F) (hr : Room k X.A) (hj : j ≤ k) (gu : X.A.guards = some []) (tk : Takes X C.W) (ha : GA X C (e :: es) fs) (ar : Ar fs ps.length) (hK : C.K = X.K := by rfl) (hM : C.mg = X.mg := by rfl) (hg : Gl X x := by rfl) (hdb : (x == ("__debug__" : Str)) = false := by decide)
    (he : starEach (e :: es) X.env = (false, eval e X.env) :: starEach es X.env := by rfl) (hpl : (backTo pos (starEach es X.env)).any (·.1) = false := by rfl) : GE X C (.Call (.Name x p) (e :: es) [] pos) (eFn F fs) := by
  obtain ⟨f, fd, G, hm, hk, hb⟩ := c
  exact ge_callF G (hr.mono hj) gu hg hm hk hb tk ha ar hK hM hdb he hpl
/-- a def of the module, by its text -/
def DefAt (K : PySem.W.Frag) (mg : Str → Option Value) (x : Str) (ps : List Str) (st : Stmt) : Prop :=
  ∃ f fd, L2.Fun K x x st f fd ∧ mg x = some (.ref f) ∧ Binds K fd ps []
theorem def_at {P : Program} {w : World} {K : PySem.W.Frag} {mg : Str → Option Value} {base : Heap} {x : Str} {st : Stmt} {N ps : List Str} {k : Nat} {body : Rho → Fl} (d : DefAt K mg x ps st) (Sc : FnScope N ps (defScope st))
    (hb : ∀ (f : Addr) (cdv : Value) (A : Around) (l : List Env) (t : Shared) (H : Hp) (E : XK), Room k (A.deeper (envOfC x (defScope st) t.heap.objs.size f cdv)) → A.guards = some [] → GSs (bodyCx P w K mg base N x st f cdv A l t H E) (bodyCt K mg E) (defBody st) body) :
    DefOk P w K mg base (k + 1) x ps (runF N.length body) := by
  obtain ⟨f, fd, F, hm, b⟩ := d
  exact ⟨f, fd, def_ok F Sc (hb f), hm, F.kp, b⟩
section
variable {P : Program} {w : World} {K : PySem.W.Frag} {mg : Str → Option Value} {base : Heap} {N : List Str} {qual : Str} {st : Stmt} {f : Addr} {cdv : Value} {A : Around} {l : List Env} {t : Shared} {H : Hp} {E : XK}
theorem tkB : Takes (bodyCx P w K mg base N qual st f cdv A l t H E) (bodyCt K mg E).W := takes_of rfl rfl rfl rfl
theorem psB : PassesOwn (model (bodyCx P w K mg base N qual st f cdv A l t H E).prog (bodyCx P w K mg base N qual st f cdv A l t H E).w) (bodyCx P w K mg base N qual st f cdv A l t H E).A (bodyCx P w K mg base N qual st f cdv A l t H E).env (bodyCx P w K mg base N qual st f cdv A l t H E).xe := passes_of rfl
end
theorem tkQ : Takes X (C.quiet).W := fun _ _ ⟨_, _, _, _, _, _, _, _, _, _, _, _, _, _, _, _, w⟩ => w.elim
end
end GB
namespace GB
open PySem PySem.Spec PyProof.Rows L2
variable {α β : Type} {r : Rho} {i : Nat}
@[simp] theorem bind_ok {a : α} {f : α → Rho → Rs β} : (Rs.ok a r).bind f = f a r := rfl
@[simp] theorem bind_ex {c fs} {f : α → Rho → Rs β} : (Rs.ex c fs r).bind f = .ex c fs r := rfl
@[simp] theorem bind_st {f : α → Rho → Rs β} : (Rs.st : Rs α).bind f = .st := rfl
@[simp] theorem ofR_ok {a : α} {k : α → Rho → Fl} : ofR (.ok a r) k = k a r := rfl
@[simp] theorem ofR_ex {c fs} {k : α → Rho → Fl} : ofR (.ex c fs r) k = .ex c fs r := rfl
@[simp] theorem ofR_st {k : α → Rho → Fl} : ofR (.st : Rs α) k = .st := rfl
section
variable {fa fb fc fe fi fo : Rho → Rs Opd} {ft gt : Rho → Rs Bool} {fs : Rho → Rs (List Opd)} {f g : Rho → Fl} {p q : Pr} {os : List Opd} {o : Opd} {F : Fs} {s : S} {d : D}
@[simp] theorem s_eC : eC d r = .ok (.val (.fz d)) r := rfl
@[simp] theorem s_eNil : eNil r = .ok [] r := rfl
@[simp] theorem s_eCons : eCons fe fs r = (fe r).bind fun o r1 => (fs r1).bind fun os r2 => .ok (o :: os) r2 := rfl
@[simp] theorem s_eCall : eCall p fs r = (fs r).bind (eP p) := rfl
@[simp] theorem s_eVar : eVar i r = match r[i]? with | some (some _) => .ok (.loc i) r | _ => .st := rfl
@[simp] theorem s_eP : eP p os r = match resAll r os with | some ss => (match p ss with | some s => .ok (.val s) r | none => .st) | none => .st := rfl
@[simp] theorem s_res1 : resAll r [] = some [] := rfl
@[simp] theorem s_res2 : resAll r (o :: os) = match res r o, resAll r os with | some s, some ss => some (s :: ss) | _, _ => none := rfl
@[simp] theorem s_resL : res r (.loc i) = (r[i]?).join := rfl
@[simp] theorem s_resV : res r (.val s) = some s := rfl
@[simp] theorem s_eIf : eIf ft fa fb r = (ft r).bind fun b r1 => if b then fa r1 else fb r1 := rfl
@[simp] theorem s_eBl : eBl fe r = (fe r).bind tBl := rfl
@[simp] theorem s_tBl {b : Bool} : tBl (.val (.fz (.bl b))) r = .ok b r := rfl
@[simp] theorem s_eTru : eTru fe r = (fe r).bind tTru := rfl
@[simp] theorem s_tTru : tTru o r = match res r o with | some s => (match tru s with | some b => .ok b r | none => .st) | none => .st := rfl
@[simp] theorem s_eNotT : eNotT ft r = (ft r).bind fun b r1 => .ok (!b) r1 := rfl
@[simp] theorem s_eAndT : eAndT ft gt r = (ft r).bind fun b r1 => if b then gt r1 else .ok false r1 := rfl
@[simp] theorem s_eOrT : eOrT ft gt r = (ft r).bind fun b r1 => if b then .ok true r1 else gt r1 := rfl
@[simp] theorem s_fSeq : fSeq f g r = match f r with | .nx r1 => g r1 | z => z := rfl
@[simp] theorem s_fNil : fNil r = .nx r := rfl
@[simp] theorem s_fRet : fRet fe r = ofR (fe r) handed := by unfold fRet; cases fe r <;> rfl
@[simp] theorem s_fExpr : fExpr fe r = ofR (fe r) fun _ r1 => .nx r1 := by unfold fExpr; cases fe r <;> rfl
@[simp] theorem s_fSet : fSet i fe r = ofR (fe r) (putS i) := by unfold fSet; cases fe r <;> rfl
@[simp] theorem s_fIf : fIf ft f g r = ofR (ft r) fun b r1 => if b then f r1 else g r1 := rfl
@[simp] theorem s_p1 {h : S → Option S} : p1 h [s] = h s := rfl
@[simp] theorem s_p2 {h : S → S → Option S} {t : S} : p2 h [s, t] = h s t := rfl
@[simp] theorem s_p3 {h : S → S → S → Option S} {t u : S} : p3 h [s, t, u] = h s t u := rfl
@[simp] theorem s_eMeth {tt : S → Bool} : eMeth tt p fo fs r = (fo r).bind fun o r1 => match res r1 o with | some s => if tt s then (fs r1).bind fun os r2 => eP p (o :: os) r2 else .st | none => .st := rfl
@[simp] theorem s_isStr {w : List Nat} : isStr (.fz (.str w)) = true := rfl
@[simp] theorem s_pass0 : passAll r [] = some [] := rfl
@[simp] theorem s_passc : passAll r (o :: os) = match pass1 r o, passAll r os with | some s, some ss => some (s :: ss) | _, _ => none := rfl
@[simp] theorem s_pass1v : pass1 r (.val (.fz d)) = some (.fz d) := rfl
@[simp] theorem s_pass1o {ds : List D} : pass1 r (.val (.ol ds)) = some (.fz (.lst ds)) := rfl
@[simp] theorem s_pass1l : pass1 r (.loc i) = match r[i]? with | some (some s) => (match s with | .fz d => some (.fz d) | .ol ds => some (.br ds) | .br ds => some (.br ds) | .lk ds => some (.lk ds) | .od k => some (.bd k) | .bd k => some (.bd k) | .kd _ _ _ => none | .exc _ _ _ _ => none | .nd _ _ => none | .nh _ _ _ => none | .ot _ => none | .kt _ _ _ => none | .ky _ => none) | _ => none := rfl
@[simp] theorem s_eFn : eFn F fs r = (fs r).bind (eFnO F) := rfl
@[simp] theorem s_eFnO : eFnO F os r = match passAll r os with | some ss => if dst r os then (match F ss with | .ok s outs => (match wbAll os outs r with | some r1 => .ok (.val s) r1 | none => .st) | .ex c fs outs => (match wbAll os outs r with | some r1 => .ex c fs r1 | none => .st) | .st => .st) else .st | none => .st := rfl
@[simp] theorem s_dst0 : dst r [] = true := rfl
@[simp] theorem s_dstv : dst r (.val s :: os) = dst r os := rfl
@[simp] theorem s_dstl : dst r (.loc i :: os) = ((if hardAt r i then !(os.any (isLoc i)) else true) && dst r os) := rfl
@[simp] theorem s_isLocv : isLoc i (.val s) = false := rfl
@[simp] theorem s_isLocl {j : Nat} : isLoc i (.loc j) = (i == j) := rfl
@[simp] theorem s_hardAt : hardAt r i = match r[i]? with | some (some s) => !s.soft | _ => false := rfl
@[simp] theorem s_soft1 : S.soft (.fz d) = true := rfl
@[simp] theorem s_soft2 {ds : List D} : S.soft (.ol ds) = false := rfl
@[simp] theorem s_soft3 {ds : List D} : S.soft (.br ds) = false := rfl
@[simp] theorem s_soft4 {ds : List D} : S.soft (.lk ds) = false := rfl
@[simp] theorem s_soft5 {k : List (Key × D)} : S.soft (.od k) = false := rfl
@[simp] theorem s_soft6 {k : List (Key × D)} : S.soft (.bd k) = false := rfl
@[simp] theorem s_soft7 {o : Obj → Prop} {xs : List (Key × V)} {k : List (Key × D)} : S.soft (.kd o xs k) = true := rfl
@[simp] theorem s_soft8 {a dx : Addr} {c : Str} {q : List (Str × D)} : S.soft (.exc a dx c q) = true := rfl
@[simp] theorem s_hard8 {a dx : Addr} {c : Str} {q : List (Str × D)} : S.hard (.exc a dx c q) = false := rfl
@[simp] theorem s_own8 {a dx : Addr} {c : Str} {q : List (Str × D)} : S.own (.exc a dx c q) = false := rfl
@[simp] theorem s_hard1 : S.hard (.fz d) = false := rfl
@[simp] theorem s_hard2 {ds : List D} : S.hard (.ol ds) = false := rfl
@[simp] theorem s_hard3 {ds : List D} : S.hard (.br ds) = true := rfl
@[simp] theorem s_hard4 {ds : List D} : S.hard (.lk ds) = true := rfl
@[simp] theorem s_hard5 {k : List (Key × D)} : S.hard (.od k) = false := rfl
@[simp] theorem s_hard6 {k : List (Key × D)} : S.hard (.bd k) = true := rfl
@[simp] theorem s_hard7 {o : Obj → Prop} {xs : List (Key × V)} {k : List (Key × D)} : S.hard (.kd o xs k) = true := rfl
@[simp] theorem s_own1 : S.own (.fz d) = false := rfl
@[simp] theorem s_own2 {ds : List D} : S.own (.ol ds) = true := rfl
@[simp] theorem s_own3 {ds : List D} : S.own (.br ds) = true := rfl
@[simp] theorem s_own4 {ds : List D} : S.own (.lk ds) = false := rfl
@[simp] theorem s_own5 {k : List (Key × D)} : S.own (.od k) = true := rfl
@[simp] theorem s_own6 {k : List (Key × D)} : S.own (.bd k) = true := rfl
@[simp] theorem s_own7 {o : Obj → Prop} {xs : List (Key × V)} {k : List (Key × D)} : S.own (.kd o xs k) = false := rfl
@[simp] theorem s_wb0 : wbAll [] [] r = some r := rfl
@[simp] theorem s_wbc {t : S} {ts : List S} : wbAll (o :: os) (t :: ts) r = match wb1 o t r with | some r1 => wbAll os ts r1 | none => none := rfl
@[simp] theorem s_wb1v {t : S} : wb1 (.val s) t r = some r := rfl
@[simp] theorem s_wb1l {t : S} : wb1 (.loc i) t r = match r[i]? with
    | some (some (.ol _)) => (match t with | .br ds => some (r.set i (some (.ol ds))) | _ => none)
    | some (some (.br _)) => (match t with | .br ds => some (r.set i (some (.br ds))) | _ => none)
    | some (some (.od _)) => (match t with | .bd ds => some (r.set i (some (.od ds))) | _ => none)
    | some (some (.bd _)) => (match t with | .bd ds => some (r.set i (some (.bd ds))) | _ => none)
    | some (some (.ot _)) => none
    | some (some _) => some r
    | _ => none := rfl
@[simp] theorem s_handv : handed (.val s) r = if s.hard then .st else .rt s r := rfl
@[simp] theorem s_handl : handed (.loc i) r = match r[i]? with
    | some (some (.fz d)) => .rt (.fz d) r
    | some (some (.ol ds)) => .rt (.ol ds) (r.set i none)
    | some (some (.od ds)) => .rt (.od ds) (r.set i none)
    | _ => .st := rfl
@[simp] theorem s_takev : take (.val s) r = if s.hard then none else some (s, r) := rfl
@[simp] theorem s_takel : take (.loc i) r = match frz1 (.loc i) r with | some (d, r1) => some (.fz d, r1) | none => none := rfl
@[simp] theorem s_putS : putS i o r = match take o r with | some (s, r1) => if free r1 i then .nx (r1.set i (some s)) else .st | none => .st := rfl
@[simp] theorem s_free : free r i = match r[i]? with | some none => true | some (some s) => !s.hard | none => false := rfl
@[simp] theorem s_frz1v : frz1 (.val (.fz d)) r = some (d, r) := rfl
@[simp] theorem s_frz1o {ds : List D} : frz1 (.val (.ol ds)) r = some (.lst ds, r) := rfl
@[simp] theorem s_frz1l : frz1 (.loc i) r = match r[i]? with
    | some (some (.fz d)) => some (d, r)
    | some (some (.ol ds)) => some (.lst ds, r.set i (some (.fz (.lst ds))))
    | _ => none := rfl
@[simp] theorem s_frz0 : frzAll [] r = some ([], r) := rfl
@[simp] theorem s_frzc : frzAll (o :: os) r = match frz1 o r with | some (d, r1) => (match frzAll os r1 with | some (ds, r2) => some (d :: ds, r2) | none => none) | none => none := rfl
@[simp] theorem s_eTup : eTup fs r = (fs r).bind fun os r1 => match frzAll os r1 with | some (ds, r2) => if os.length ≤ 1000 then .ok (.val (.fz (.tup ds))) r2 else .st | none => .st := rfl
@[simp] theorem s_eLst : eLst fs r = (fs r).bind fun os r1 => match frzAll os r1 with | some (ds, r2) => if os.length ≤ 1000 then .ok (.val (.ol ds)) r2 else .st | none => .st := rfl
@[simp] theorem s_eMut {tt : S → Bool} {m : Mu} : eMut tt m i fs r = match ownAt r i with | some s => if tt s then (fs r).bind (mutP m i) else .st | none => .st := rfl
@[simp] theorem s_ownAt : ownAt r i = match r[i]? with | some (some s) => if s.own then some s else none | _ => none := rfl
@[simp] theorem s_mutP {m : Mu} : mutP m i os r = match frzAll os r with
    | some (ds, r2) => (match ownAt r2 i with
      | some s => (match m s ds with | some (s', d) => .ok (.val (.fz d)) (r2.set i (some s')) | none => .st)
      | none => .st)
    | none => .st := rfl
@[simp] theorem s_isOL1 {ds : List D} : isOL (.ol ds) = true := rfl
@[simp] theorem s_isOL2 {ds : List D} : isOL (.br ds) = true := rfl
@[simp] theorem s_fPut {m : Mu} : fPut i m fe fi r = ofR (fe r) fun o r1 => match ownAt r1 i with | some _ => ofR (fi r1) fun o2 r2 => ofR (mutP m i [o, o2] r2) fun _ r3 => .nx r3 | none => .st := rfl
@[simp] theorem s_eNot : eNot fa r = (fa r).bind fun o r1 => match blOf o r1 with | some b => .ok (.val (.fz (.bl (!b)))) r1 | none => .st := rfl
@[simp] theorem s_ePartN : ePart none r = .ok (.val (.fz .non)) r := rfl
@[simp] theorem s_ePartS : ePart (some fe) r = (fe r).bind fun o r1 => if isI o r1 then .ok o r1 else .st := rfl
@[simp] theorem s_isI : isI o r = match res r o with | some (.fz (.int _)) => true | _ => false := rfl
@[simp] theorem s_mOf {h : List D → List D → Option (List D × D)} {ds : List D} : mOf h s ds = match asO s with | some xs => (h xs ds).map fun z => (reO s z.1, z.2) | none => none := rfl
@[simp] theorem s_asO1 {ds : List D} : asO (.ol ds) = some ds := rfl
@[simp] theorem s_asO2 {ds : List D} : asO (.br ds) = some ds := rfl
@[simp] theorem s_reO1 {ds es : List D} : reO (.ol ds) es = .ol es := rfl
@[simp] theorem s_reO2 {ds es : List D} : reO (.br ds) es = .br es := rfl
@[simp] theorem s_fFor {mk : List S → Option (List D)} {fg : D → Rho → Option Rho} : fFor fs mk fg f r = ofR (fs r) fun os r1 => match lockAll os r1 with
  | some (ss, r2, u) => (match mk ss with | some ds => mapFl (unlR u) (forL fg f ds r2) | none => .st)
  | none => .st := rfl
@[simp] theorem s_eLc {mk : List S → Option (List D)} {fg : D → Rho → Option Rho} {vs : List Nat} : eLc fs mk fg ft fe vs r = (fs r).bind fun os r1 => match lockAll os r1 with
  | some (ss, r2, u) => (match mk ss with
    | some ds => if softs r2 vs then
        (match cmpL fg ft fe vs ds (wipeR r2 vs) [] with | .ok acc r3 => .ok (.val (.ol acc)) (unlR u (restR r2 r3 vs)) | _ => .st)
        else .st
    | none => .st)
  | none => .st := rfl
@[simp] theorem s_lock0 : lockAll [] r = some ([], r, []) := rfl
@[simp] theorem s_lockc : lockAll (o :: os) r = match lockO o r with
    | some (s, r1, u1) => (match lockAll os r1 with | some (ss, r2, u2) => some (s :: ss, r2, u1 ++ u2) | none => none)
    | none => none := rfl
@[simp] theorem s_lockv : lockO (.val (.fz d)) r = some (.fz d, r, []) := rfl
@[simp] theorem s_locko {ds : List D} : lockO (.val (.ol ds)) r = some (.lk ds, r, []) := rfl
@[simp] theorem s_lockl : lockO (.loc i) r = match r[i]? with
    | some (some (.fz d)) => some (.fz d, r, [])
    | some (some (.lk ds)) => some (.lk ds, r, [])
    | some (some (.ol ds)) => some (.lk ds, r.set i (some (.lk ds)), [(i, .ol ds)])
    | some (some (.br ds)) => some (.lk ds, r.set i (some (.lk ds)), [(i, .br ds)])
    | some (some (.kd o xs ks)) => some (.kd o xs ks, r, [])
    | some (some (.kt o xs ks)) => some (.kt o xs ks, r, [])
    | _ => none := rfl
@[simp] theorem s_unl0 : unlR [] r = r := rfl
@[simp] theorem s_unlc {u : List (Nat × S)} : unlR ((i, s) :: u) r = (unlR u r).set i (some s) := rfl
@[simp] theorem s_softs {vs : List Nat} : softs r (i :: vs) = ((match r[i]? with | some none => true | some (some (.fz _)) => true | _ => false) && softs r vs) := by
  unfold softs
  rw [List.all_cons] <;> congr 1
@[simp] theorem s_softs0 : softs r [] = true := rfl
@[simp] theorem s_wipe0 : wipeR r [] = r := rfl
@[simp] theorem s_wipec {vs : List Nat} : wipeR r (i :: vs) = (wipeR r vs).set i none := rfl
@[simp] theorem s_rest0 {r0 : Rho} : restR r0 r [] = r := rfl
@[simp] theorem s_restc {r0 : Rho} {vs : List Nat} : restR r0 r (i :: vs) = (restR r0 r vs).set i (r0[i]?).join := rfl
@[simp] theorem s_gNm : gNm i d r = if free r i then some (r.set i (some (.fz d))) else none := rfl
@[simp] theorem s_eYes : eYes r = .ok true r := rfl
theorem s_orP {ss : List S} : orP p q ss = match p ss with | none => q ss | z => z := rfl
@[simp] theorem s_runF {n : Nat} {ss : List S} : runF n f ss = match f (startR n ss) with
  | .nx r => .ok (.fz .non) (outsL ss r)
  | .rt s r => .ok s (outsL ss r)
  | .ex c fs r => .ex c fs (outsL ss r)
  | _ => .st := rfl
@[simp] theorem s_outs0 : outsL [] r = [] := rfl
@[simp] theorem s_outsc {ss : List S} : outsL (s :: ss) r = (if s.hard then (match r.head? with | some (some t) => t | _ => s) else s) :: outsL ss r.tail := rfl
@[simp] theorem s_start {n : Nat} {ss : List S} : startR n ss = words ss ++ List.replicate (n - ss.length) none := rfl
@[simp] theorem s_words {ss : List S} : words ss = ss.map some := rfl
@[simp] theorem s_mapnx {h : Rho → Rho} : mapFl h (.nx r) = .nx (h r) := rfl
@[simp] theorem s_mapct {h : Rho → Rho} : mapFl h (.ct r) = .ct (h r) := rfl
@[simp] theorem s_mapbk {h : Rho → Rho} : mapFl h (.bk r) = .bk (h r) := rfl
@[simp] theorem s_maprt {h : Rho → Rho} : mapFl h (.rt s r) = .rt s (h r) := rfl
@[simp] theorem s_mapex {c fs'} {h : Rho → Rho} : mapFl h (.ex c fs' r) = .ex c fs' (h r) := rfl
@[simp] theorem s_fInts {h : Int → Int → Option S} {i j : Int} : fInts h (.fz (.int i)) (.fz (.int j)) = h i j := rfl
@[simp] theorem s_mkR1 {j : Int} : mkR1 [.fz (.int j)] = if small62 j then some (upFrom 0 j.toNat) else none := rfl
@[simp] theorem s_mkR2 {i j : Int} : mkR2 [.fz (.int i), .fz (.int j)] = if small62 i && small62 j then some (upFrom i (j - i).toNat) else none := rfl
@[simp] theorem s_mkSeq : mkSeq [s] = itemsOf s := rfl
end
section
variable {fg : D → Rho → Option Rho} {ft : Rho → Rs Bool} {fe : Rho → Rs Opd} {f : Rho → Fl} {vs : List Nat} {r0 : Rho} {ds acc : List D}
/-- a for loop by a word that holds behind each turn -/
theorem forL_ind (P : Nat → Rho → Prop) : ∀ {ds : List D} {r : Rho} (k : Nat), P k r → (∀ i d r, ds[i]? = some d → P (k + i) r → ∃ r1, fg d r = some r1 ∧ ∃ r2, (f r1 = .nx r2 ∨ f r1 = .ct r2) ∧ P (k + i + 1) r2) → ∃ r', forL fg f ds r = .nx r' ∧ P (k + ds.length) r'
  | [], r, k, h0, hs => ⟨r, rfl, h0⟩
  | d :: ds, r, k, h0, hs => by
    obtain ⟨r1, e1, r2, e2, h2⟩ := hs 0 d r rfl h0
    obtain ⟨r', e3, h3⟩ := forL_ind P (ds := ds) (r := r2) (k + 1) h2 fun i d' r' hd hp => by
      have := hs (i + 1) d' r' (by simpa using hd) (by rw [Nat.add_right_comm] at hp; exact hp)
      rw [Nat.add_right_comm k 1 i]
      exact this
    refine ⟨r', ?_, by rw [List.length_cons, Nat.add_comm ds.length 1, ← Nat.add_assoc]; exact h3⟩
    rw [forL, e1]
    rcases e2 with e2 | e2 <;> simp only [e2] <;> exact e3
theorem forL_inv (P : Nat → Rho → Prop) {ds : List D} {r : Rho} (h0 : P 0 r) (hs : ∀ i d r, ds[i]? = some d → P i r → ∃ r1, fg d r = some r1 ∧ ∃ r2, (f r1 = .nx r2 ∨ f r1 = .ct r2) ∧ P (i + 1) r2) : ∃ r', forL fg f ds r = .nx r' ∧ P ds.length r' := by
  have := forL_ind P (ds := ds) (r := r) 0 h0 fun i d r hd hp => by rw [Nat.zero_add] at hp ⊢; exact hs i d r hd hp
  rw [Nat.zero_add] at this
  exact this
end
end GB
namespace GB
open PySem PySem.Spec PyProof.Rows L2
theorem subAt1 (c : Nat) (l : List Nat) (i : Nat) : subAtL [c] l i = (l[i]? == some c) := by
  unfold subAtL
  by_cases h : i < l.length
  · rw [List.drop_eq_getElem_cons h, List.getElem?_eq_getElem h]
    have : decide (i + [c].length ≤ l.length) = true := decide_eq_true (by rw [List.length_singleton]; omega)
    rw [this, Bool.true_and]
    show ([l[i]] == [c]) = (some l[i] == some c)
    rw [Bool.eq_iff_iff, beq_iff_eq, beq_iff_eq]
    simp
  · rw [List.getElem?_eq_none (by omega)]
    have : decide (i + [c].length ≤ l.length) = false := decide_eq_false (by rw [List.length_singleton]; omega)
    rw [this]
    rfl
theorem subIx_one (c : Nat) : ∀ l : List Nat, subIx [c] l = l.findIdx? (· == c) := by
  intro l
  have e : subAtL [c] l = fun i => l[i]? == some c := funext (subAt1 c l)
  unfold subIx
  rw [e]
  induction l with
  | nil => rfl
  | cons a l ih =>
    have ih := ih (funext (subAt1 c l))
    rw [List.length_cons, List.range_succ_eq_map, List.find?_cons, List.find?_map, List.findIdx?_cons]
    by_cases h : a = c
    · subst h; simp
    · have h1 : ((a :: l)[0]? == some c) = false := by simp [h]
      have h2 : (a == c) = false := by simp [h]
      rw [h1, h2]
      simp only [Bool.false_eq_true, if_false]
      have e2 : ((fun i => (a :: l)[i]? == some c) ∘ Nat.succ) = fun i => l[i]? == some c := by funext i; rfl
      rw [e2, ih]
theorem subIx_isSome (c : Nat) (l : List Nat) : (subIx [c] l).isSome = decide (c ∈ l) := by
  rw [subIx_one, List.findIdx?_isSome, Bool.eq_iff_iff, List.any_eq_true, decide_eq_true_iff]
  simp
@[simp] theorem s_qIn1 {c : Nat} {l : List Nat} : qIn [.fz (.str [c]), .fz (.str l)] = some (.fz (.bl (decide (c ∈ l)))) := by
  unfold qIn
  simp [s_orP, fIn, inS, subIx_isSome]
@[simp] theorem s_qNotIn1 {c : Nat} {l : List Nat} : qNotIn [.fz (.str [c]), .fz (.str l)] = some (.fz (.bl (!decide (c ∈ l)))) := by
  unfold qNotIn
  simp [s_orP, fNotIn, inS, subIx_isSome]
theorem strsOf_map {α : Type} (f : α → List Nat) : ∀ l : List α, strsOf (l.map fun a => .str (f a)) = some (l.map f)
  | [] => rfl
  | a :: l => by
    show (strsOf (l.map fun a => D.str (f a))).map (f a :: ·) = _
    rw [strsOf_map f l]; rfl
theorem joinN_nil : ∀ ws : List (List Nat), joinN [] ws = ws.flatten
  | [] => rfl
  | [p] => by show p = _; simp
  | p :: q :: r => by
    show p ++ ([] ++ joinN [] (q :: r)) = _
    rw [joinN_nil (q :: r)]; simp
@[simp] theorem s_fJoin {sep : List Nat} {ds : List D} : fJoin (.fz (.str sep)) (.ol ds) = match strsOf ds with
      | some ws => if big ((ws.map List.length).sum + ws.length * sep.length) then some (.fz (.str (joinN sep ws))) else none
      | none => none := rfl
/-- one turn of a comprehension: what it adds -/
def cturn (fg : D → Rho → Option Rho) (ft : Rho → Rs Bool) (fe : Rho → Rs Opd) (vs : List Nat) (d : D) (r : Rho) : Option (List D × Rho) := match fg d r with
  | none => none
  | some r1 => match ft r1 with
    | .ok false r2 => some ([], wipeR r2 vs)
    | .ok true r2 => (match fe r2 with
      | .ok o r3 => (match frz1 o r3 with | some (y, r4) => some ([y], wipeR r4 vs) | none => none)
      | _ => none)
    | _ => none
theorem cturn_len {fg : D → Rho → Option Rho} {ft : Rho → Rs Bool} {fe : Rho → Rs Opd} {vs : List Nat} {d : D} {r r' : Rho} {ys : List D} (h : cturn fg ft fe vs d r = some (ys, r')) : ys.length ≤ 1 := by
  unfold cturn at h
  cases e1 : fg d r with
  | none => rw [e1] at h; cases h
  | some r1 =>
    simp only [e1] at h
    cases e2 : ft r1 with
    | st => simp only [e2] at h; cases h
    | ex c fs r => simp only [e2] at h; cases h
    | ok b r2 =>
      simp only [e2] at h
      cases b with
      | false => cases h; exact Nat.zero_le _
      | true =>
        cases e3 : fe r2 with
        | st => simp only [e3] at h; cases h
        | ex c fs r => simp only [e3] at h; cases h
        | ok o r3 =>
          simp only [e3] at h
          cases e4 : frz1 o r3 with
          | none => simp only [e4] at h; cases h
          | some z => simp only [e4] at h; cases h; exact Nat.le_refl _
theorem cmpL_turn {fg : D → Rho → Option Rho} {ft : Rho → Rs Bool} {fe : Rho → Rs Opd} {vs : List Nat} {d : D} {ds acc : List D} {r r' : Rho} {ys : List D} (h : cturn fg ft fe vs d r = some (ys, r')) (hl : acc.length < 16777216) : cmpL fg ft fe vs (d :: ds) r acc = cmpL fg ft fe vs ds r' (acc ++ ys) := by
  rw [cmpL]
  unfold cturn at h
  cases e1 : fg d r with
  | none => rw [e1] at h; cases h
  | some r1 =>
    simp only [e1] at h ⊢
    cases e2 : ft r1 with
    | st => simp only [e2] at h; cases h
    | ex c fs r => simp only [e2] at h; cases h
    | ok b r2 =>
      simp only [e2] at h ⊢
      cases b with
      | false => cases h; rw [List.append_nil]
      | true =>
        cases e3 : fe r2 with
        | st => simp only [e3] at h; cases h
        | ex c fs r => simp only [e3] at h; cases h
        | ok o r3 =>
          simp only [e3] at h ⊢
          cases e4 : frz1 o r3 with
          | none => simp only [e4] at h; cases h
          | some z => simp only [e4] at h ⊢; cases h; rw [if_pos hl]
theorem cmpL_each {fg : D → Rho → Option Rho} {ft : Rho → Rs Bool} {fe : Rho → Rs Opd} {vs : List Nat} {r0 : Rho} (g : D → List D) : ∀ {ds acc : List D}, acc.length + ds.length ≤ 16777216 → (∀ d ∈ ds, cturn fg ft fe vs d r0 = some (g d, r0)) → cmpL fg ft fe vs ds r0 acc = .ok (acc ++ ds.flatMap g) r0
  | [], acc, _, _ => by rw [cmpL, List.flatMap_nil, List.append_nil]
  | d :: ds, acc, hl, h => by
    rw [List.length_cons] at hl
    have e := h d (List.mem_cons_self ..)
    have hy := cturn_len e
    rw [cmpL_turn e (by omega), cmpL_each g (ds := ds) (by rw [List.length_append]; omega) fun d' hd => h d' (List.mem_cons_of_mem _ hd), List.flatMap_cons, List.append_assoc]
theorem flat_sing {α β : Type} (g : α → β) : ∀ ds : List α, ds.flatMap (fun d => [g d]) = ds.map g
  | [] => rfl
  | d :: ds => by rw [List.flatMap_cons, flat_sing g ds]; rfl
/-- each item becomes one -/
theorem cmpL_one {fg : D → Rho → Option Rho} {ft : Rho → Rs Bool} {fe : Rho → Rs Opd} {vs : List Nat} {r0 : Rho} (g : D → D) {ds : List D} (hl : ds.length ≤ 16777216) (h : ∀ d ∈ ds, cturn fg ft fe vs d r0 = some ([g d], r0)) : cmpL fg ft fe vs ds r0 [] = .ok (ds.map g) r0 := by
  rw [cmpL_each (fun d => [g d]) (by simpa using hl) h, flat_sing]; rfl
theorem flat_one (f : Nat → Nat) : ∀ l : List Nat, (l.map fun a => [f a]).flatten = l.map f
  | [] => rfl
  | a :: l => by rw [List.map_cons, List.flatten_cons, flat_one f l]; rfl
theorem sum_one (f : Nat → Nat) : ∀ l : List Nat, ((l.map fun a => [f a]).map List.length).sum = l.length
  | [] => rfl
  | a :: l => by rw [List.map_cons, List.map_cons, List.sum_cons, sum_one f l, List.length_cons]; simp; omega
theorem fWhile_go {ft : Rho → Rs Bool} {f : Rho → Fl} (P : Nat → Rho → Prop) (Q : Rho → Prop) (hs : ∀ k r, P k r → (∃ r1, ft r = .ok false r1 ∧ Q r1) ∨ ∃ r1 r2 k', ft r = .ok true r1 ∧ (f r1 = .nx r2 ∨ f r1 = .ct r2) ∧ k' < k ∧ P k' r2) : ∀ k r, P k r → ∃ r', fWhile ft f r = .nx r' ∧ Q r' := by
  intro k
  induction k using Nat.strongRecOn with
  | _ k ih =>
    intro r hp
    rcases hs k r hp with ⟨r1, e1, h1⟩ | ⟨r1, r2, k', e1, e2, lt, h2⟩
    · exact ⟨r1, by rw [fWhile_eq, e1]; rfl, h1⟩
    · obtain ⟨r', e3, h3⟩ := ih k' lt r2 h2
      refine ⟨r', ?_, h3⟩
      rw [fWhile_eq, e1]
      rcases e2 with e2 | e2 <;> simp [e2, e3]
theorem atI_n {α : Type} (l : List α) (k : Nat) : atI l (k : Int) = l[k]? := by
  unfold atI ixN
  rw [if_pos (by omega)]
  by_cases h : (k : Int) < l.length
  · rw [if_pos h]; simp
  · rw [if_neg h]; simp only [Option.bind_none]; rw [List.getElem?_eq_none (by omega)]
theorem ixN_n {n k : Nat} (h : k < n) : ixN n (k : Int) = some k := by
  unfold ixN
  rw [if_pos (by omega), if_pos (by omega)]
  simp
@[simp] theorem s_ixB {ds : List D} {k : Int} : qIx [.br ds, .fz (.int k)] = (atI ds k).map .fz := by
  show (match (atI ds k).map S.fz with | none => (none : Option S) | z => z) = _
  cases atI ds k <;> rfl
@[simp] theorem s_ixO {ds : List D} {k : Int} : qIx [.ol ds, .fz (.int k)] = (atI ds k).map .fz := by
  show (match (atI ds k).map S.fz with | none => (none : Option S) | z => z) = _
  cases atI ds k <;> rfl
@[simp] theorem s_ixK {ds : List D} {k : Int} : qIx [.lk ds, .fz (.int k)] = (atI ds k).map .fz := by
  show (match (atI ds k).map S.fz with | none => (none : Option S) | z => z) = _
  cases atI ds k <;> rfl
@[simp] theorem s_ixF {ds : List D} {k : Int} : qIx [.fz (.lst ds), .fz (.int k)] = (atI ds k).map .fz := by
  show (match (atI ds k).map S.fz with | none => (none : Option S) | z => z) = _
  cases atI ds k <;> rfl
@[simp] theorem s_ixT {ds : List D} {k : Int} : qIx [.fz (.tup ds), .fz (.int k)] = (atI ds k).map .fz := by
  show (match (atI ds k).map S.fz with | none => (none : Option S) | z => z) = _
  cases atI ds k <;> rfl
@[simp] theorem s_ixS {w : List Nat} {k : Int} : qIx [.fz (.str w), .fz (.int k)] = if big w.length then (atI w k).map fun c => .fz (.str [c]) else none := by
  show (match (if big w.length then (atI w k).map fun c => S.fz (.str [c]) else none) with | none => (none : Option S) | z => z) = _
  by_cases h : big w.length = true
  · rw [if_pos h]; cases atI w k <;> rfl
  · rw [if_neg h]
@[simp] theorem s_putB {ds : List D} {v : D} {k : Int} : mPut (.br ds) [v, .int k] = (ixN ds.length k).map fun j => (.br (ds.set j v), .non) := by
  unfold mPut orM mDPut
  simp [fSetL]
  cases ixN ds.length k <;> simp [asDw]
@[simp] theorem s_putO {ds : List D} {v : D} {k : Int} : mPut (.ol ds) [v, .int k] = (ixN ds.length k).map fun j => (.ol (ds.set j v), .non) := by
  unfold mPut orM mDPut
  simp [fSetL]
  cases ixN ds.length k <;> simp [asDw]
@[simp] theorem s_addI {i j : Int} : fAdd (.fz (.int i)) (.fz (.int j)) = some (.fz (.int (i + j))) := rfl
@[simp] theorem s_addS {a b : List Nat} : fAdd (.fz (.str a)) (.fz (.str b)) = if big (a.length + b.length) then some (.fz (.str (a ++ b))) else none := rfl
@[simp] theorem s_mulI {i j : Int} : fMul (.fz (.int i)) (.fz (.int j)) = if (-(2 ^ 64) < i ∧ i < 2 ^ 64) ∨ (-(2 ^ 64) < j ∧ j < 2 ^ 64) then some (.fz (.int (i * j))) else none := rfl
@[simp] theorem s_lenS {w : List Nat} : fLen (.fz (.str w)) = if big w.length then some (.fz (.int w.length)) else none := by
  show Option.map (fun n : Int => S.fz (.int n)) ((if big w.length = true then some w.length else none : Option Nat).bind fun a => some (a : Int)) = _
  by_cases h : big w.length = true
  · rw [if_pos h, if_pos h]; rfl
  · rw [if_neg h, if_neg h]; rfl
@[simp] theorem s_lenO {ds : List D} : fLen (.ol ds) = some (.fz (.int ds.length)) := rfl
@[simp] theorem s_lenB {ds : List D} : fLen (.br ds) = some (.fz (.int ds.length)) := rfl
@[simp] theorem s_lenK {ds : List D} : fLen (.lk ds) = some (.fz (.int ds.length)) := rfl
@[simp] theorem s_lenF {ds : List D} : fLen (.fz (.lst ds)) = some (.fz (.int ds.length)) := rfl
@[simp] theorem s_lenT {ds : List D} : fLen (.fz (.tup ds)) = some (.fz (.int ds.length)) := rfl
@[simp] theorem s_lenC {ds : List D} : fLen (.fz (.scr ds)) = some (.fz (.int ds.length)) := rfl
@[simp] theorem s_truB {b : Bool} : tru (.fz (.bl b)) = some b := rfl
@[simp] theorem s_truI {i : Int} : tru (.fz (.int i)) = some (i != 0) := rfl
end GB
namespace GB
open PySem PySem.Spec PyProof.Rows L2
/-- a slot that may be stored to: empty, or a tree -/
def sf (x : Option S) : Prop := x = none ∨ ∃ d, x = some (.fz d)
theorem sf_n : sf none := .inl rfl
theorem sf_f {d : D} : sf (some (.fz d)) := .inr ⟨_, rfl⟩
theorem upFrom_get {lo : Int} {n i : Nat} {d : D} (h : (upFrom lo n)[i]? = some d) : i < n ∧ d = .int (lo + (i : Nat)) := by
  unfold upFrom at h
  rw [List.getElem?_map] at h
  by_cases hi : i < n
  · rw [List.getElem?_range hi] at h; cases h; exact ⟨hi, rfl⟩
  · rw [List.getElem?_eq_none (by simpa using hi)] at h; cases h
theorem upFrom_len {lo : Int} {n : Nat} : (upFrom lo n).length = n := by simp [upFrom]
theorem small_n {n : Nat} (h : n ≤ 16777216) : small62 (n : Int) = true := decide_eq_true ⟨by omega, by omega⟩
@[simp] theorem s_neS {a b : List Nat} : fNe (.fz (.str a)) (.fz (.str b)) = some (.fz (.bl (!decide (a = b)))) := rfl
@[simp] theorem s_eqS {a b : List Nat} : fEq (.fz (.str a)) (.fz (.str b)) = some (.fz (.bl (decide (a = b)))) := rfl
@[simp] theorem s_neI {a b : Int} : fNe (.fz (.int a)) (.fz (.int b)) = some (.fz (.bl (!decide (a = b)))) := rfl
@[simp] theorem s_eqI {a b : Int} : fEq (.fz (.int a)) (.fz (.int b)) = some (.fz (.bl (decide (a = b)))) := rfl
theorem big_of {n : Nat} (h : n ≤ 16777216) : big n = true := decide_eq_true h
theorem range_foldl_succ {α : Type} (f : α → Nat → α) (a : α) (n : Nat) : (List.range (n + 1)).foldl f a = f ((List.range n).foldl f a) n := by
  rw [List.range_succ, List.foldl_append]; rfl
end GB
namespace GB
open PySem PySem.Spec PyProof.Rows L2
theorem mapFl_id (z : Fl) : mapFl (unlR []) z = z := by cases z <;> rfl
section
variable {fs : Rho → Rs (List Opd)} {fg : D → Rho → Option Rho} {f : Rho → Fl} {r r1 : Rho} {n : Nat} {ft : Rho → Rs Bool} {fe : Rho → Rs Opd} {vs : List Nat}
theorem if_small (h : n ≤ 16777216) : (if small62 (n : Int) then some (upFrom 0 (n : Int).toNat) else none) = some (upFrom 0 n) := by
  rw [small_n h, Int.toNat_natCast]
  rfl
theorem mkR1_n (h : n ≤ 16777216) : mkR1 [.fz (.int (n : Nat))] = some (upFrom 0 n) := by
  rw [s_mkR1]
  exact if_small h
/-- a walk over a value that is a tree -/
theorem for_fz {d : D} {mk : List S → Option (List D)} {ds : List D} (h : fs r = .ok [.val (.fz d)] r1) (hk : mk [.fz d] = some ds) : fFor fs mk fg f r = forL fg f ds r1 := by
  unfold fFor
  rw [h]
  show (match mk [.fz d] with | some ds => mapFl (unlR []) (forL fg f ds r1) | none => .st) = _
  rw [hk]
  exact mapFl_id _
theorem for_r1 (h : fs r = .ok [.val (.fz (.int (n : Nat)))] r1) (hn : n ≤ 16777216) : fFor fs mkR1 fg f r = forL fg f (upFrom 0 n) r1 := for_fz h (mkR1_n hn)
/-- a walk over a slot that holds a tree -/
theorem for_lfz {i : Nat} {d : D} {mk : List S → Option (List D)} {ds : List D} (h : fs r = .ok [.loc i] r1) (hi : r1[i]? = some (some (.fz d))) (hk : mk [.fz d] = some ds) : fFor fs mk fg f r = forL fg f ds r1 := by
  unfold fFor
  rw [h]
  have e : lockAll [.loc i] r1 = some ([.fz d], r1, []) := by simp [hi]
  show (match lockAll [.loc i] r1 with | some (ss, r2, u) => (match mk ss with | some ds => mapFl (unlR u) (forL fg f ds r2) | none => .st) | none => .st) = _
  rw [e]
  show (match mk [.fz d] with | some ds => mapFl (unlR []) (forL fg f ds r1) | none => .st) = _
  rw [hk]
  exact mapFl_id _
end
end GB
namespace GB
open PySem PySem.Spec PyProof.Rows L2
variable {α : Type} {l : List α} {n : Nat}
@[simp] theorem atI_0 : atI l 0 = l[0]? := atI_n l 0
@[simp] theorem atI_1 : atI l 1 = l[1]? := atI_n l 1
@[simp] theorem atI_2 : atI l 2 = l[2]? := atI_n l 2
@[simp] theorem atI_3 : atI l 3 = l[3]? := atI_n l 3
@[simp] theorem atI_4 : atI l 4 = l[4]? := atI_n l 4
@[simp] theorem atI_5 : atI l 5 = l[5]? := atI_n l 5
@[simp] theorem atI_6 : atI l 6 = l[6]? := atI_n l 6
@[simp] theorem atI_7 : atI l 7 = l[7]? := atI_n l 7
@[simp] theorem atI_8 : atI l 8 = l[8]? := atI_n l 8
@[simp] theorem atI_9 : atI l 9 = l[9]? := atI_n l 9
@[simp] theorem atI_10 : atI l 10 = l[10]? := atI_n l 10
@[simp] theorem atI_11 : atI l 11 = l[11]? := atI_n l 11
@[simp] theorem atI_12 : atI l 12 = l[12]? := atI_n l 12
@[simp] theorem atI_13 : atI l 13 = l[13]? := atI_n l 13
theorem ixN_k {n k : Nat} : ixN n (k : Int) = if k < n then some k else none := by
  by_cases h : k < n
  · rw [ixN_n h, if_pos h]
  · rw [if_neg h]; unfold ixN; rw [if_pos (by omega), if_neg (by omega)]
@[simp] theorem ixN_0 : ixN n 0 = if 0 < n then some 0 else none := ixN_k (k := 0)
@[simp] theorem ixN_1 : ixN n 1 = if 1 < n then some 1 else none := ixN_k (k := 1)
@[simp] theorem ixN_2 : ixN n 2 = if 2 < n then some 2 else none := ixN_k (k := 2)
@[simp] theorem ixN_3 : ixN n 3 = if 3 < n then some 3 else none := ixN_k (k := 3)
@[simp] theorem ixN_4 : ixN n 4 = if 4 < n then some 4 else none := ixN_k (k := 4)
@[simp] theorem ixN_5 : ixN n 5 = if 5 < n then some 5 else none := ixN_k (k := 5)
@[simp] theorem ixN_6 : ixN n 6 = if 6 < n then some 6 else none := ixN_k (k := 6)
@[simp] theorem ixN_7 : ixN n 7 = if 7 < n then some 7 else none := ixN_k (k := 7)
@[simp] theorem ixN_8 : ixN n 8 = if 8 < n then some 8 else none := ixN_k (k := 8)
@[simp] theorem ixN_9 : ixN n 9 = if 9 < n then some 9 else none := ixN_k (k := 9)
@[simp] theorem ixN_10 : ixN n 10 = if 10 < n then some 10 else none := ixN_k (k := 10)
@[simp] theorem ixN_11 : ixN n 11 = if 11 < n then some 11 else none := ixN_k (k := 11)
@[simp] theorem ixN_12 : ixN n 12 = if 12 < n then some 12 else none := ixN_k (k := 12)
@[simp] theorem ixN_13 : ixN n 13 = if 13 < n then some 13 else none := ixN_k (k := 13)
end GB
namespace GB
open PySem PySem.Spec PyProof.Rows L2
def shownL (d : D) : List Nat := d.py.shown.cps.toList
theorem depth_str (l : List Nat) : (D.str l).py.depth = 0 := by rw [D.py, PyData.depth]
/-- a slot that may be stored to -/
def nh (x : Option S) : Prop := x = none ∨ ∃ s, x = some s ∧ s.hard = false
end GB
namespace GB
open PySem PySem.Spec PyProof.Rows L2
section
variable {X : Cx} {C : Ct} {a b e o : Expr} {fa fb fe fo : Rho → Rs Opd} {fs : Rho → Rs (List Opd)} {pos p px apos cpos : Pos} {i : Nat} {x : Str}
theorem pn_ii {rr : List V → Hp → VK → Prop} {f : Int → Int → Int} (h : ∀ (H : Hp) (i j : Int) (Q : VK), Q (.int (f i j)) H → rr [.int i, .int j] H Q) : PN C rr (p2 (fInts fun i j => some (.fz (.int (f i j))))) := by
  intro U W H vs ss s Q lv hs hp q
  match ss, hs, hp with
  | [a, b], .cons xa (.cons xb .nil), hp =>
    cases a with
    | fz a =>
      cases a with
      | int i =>
        cases b with
        | fz b =>
          cases b with
          | int j => cases hp; rw [sr_int xa, sr_int xb]; exact h H i j Q (q _ _ (.same (.int _)))
          | _ => cases hp
        | _ => cases hp
      | _ => cases b <;> first | cases hp | (rename_i d; cases d <;> cases hp)
    | _ => cases b <;> first | cases hp | (rename_i d; cases d <;> cases hp)
abbrev qMax : Pr := p2 (fInts fun i j => some (.fz (.int (if j > i then j else i))))
theorem x_max (hc : X.calm = true) (hm : X.mg "max" = none) (ha : GA X C [a, b] fs) (hg : Gl X "max" := by rfl) (hs : starEach [a, b] X.env = (false, eval a X.env) :: starEach [b] X.env := by rfl) (hpl : (backTo pos (starEach [b] X.env)).any (·.1) = false := by rfl) : GE X C (.Call (.Name "max" p) [a, b] [] pos) (eCall qMax fs) :=
  ge_call (pn_ii fun H i j Q h => ⟨i, j, rfl, h⟩) (pe_callB (call_max2 hc) hg hm PyProof.Rows.boot_max ha (he := hs) (hpl := hpl))
def fFind : S → S → Option S
  | .fz (.str l), .fz (.str q) => some (.fz (.int (match subIx q l with | some n => (n : Int) | none => -1)))
  | _, _ => none
theorem pn_find : PN C (fun vs H Q => ∃ x xs, vs = x :: xs ∧ ∃ a b, x = .str a ∧ xs = [.str b] ∧ Q (.int (Txt.find a b)) H) (p2 fFind) := by
  refine pnm1 (rr := fun x xs H Q => ∃ a b, x = .str a ∧ xs = [.str b] ∧ Q (.int (Txt.find a b)) H) fun U W H x y a b s Q lv xa xb h q => ?_
  cases a with
  | fz a =>
    cases a with
    | str l =>
      cases b with
      | fz b =>
        cases b with
        | str p =>
          cases h
          rw [sr_str xa, sr_str xb]
          refine ⟨_, _, rfl, rfl, ?_⟩
          have e : Txt.find ⟨l.toArray⟩ ⟨p.toArray⟩ = (match subIx p l with | some n => (n : Int) | none => -1) := by
            unfold Txt.find
            rw [occ_subIx]
            cases subIx p l <;> rfl
          rw [e]
          exact q _ _ (.same (.int _))
        | _ => cases h
      | _ => cases h
    | _ => cases b <;> first | cases h | (rename_i d; cases d <;> cases h)
  | _ => cases b <;> first | cases h | (rename_i d; cases d <;> cases h)
theorem x_find (ho : GE X C o fo) (ha : GE X C e fe) (mc : MCall X o "find" apos e [] cpos) : GE X C (.Call (.Attribute o "find" apos) [e] [] cpos) (eMeth isStr (p2 fFind) fo (eCons fe eNil)) :=
  ge_meth (pe_bm PySem.F.plainAttrs_str PySem.F.slot_str_find PySem.F.type_str_find mt_find ho (ga_cons ha ga_nil mc.star) mc.base mc.few mc.line mc.star mc.plain) isStr_ty pn_find
def fPopAt (ds as : List D) : Option (List D × D) := match as with
  | [.int k] => if decide (ds.length < 2 ^ 62) then (match ixN ds.length k with | some j => (ds[j]?).map fun d => (ds.eraseIdx j, d) | none => none) else none
  | _ => none
theorem rps_erase {K : PySem.W.Frag} {W : Addr → Prop} {H : Hp} : ∀ {xs : List V} {ds : List D} (j : Nat), Rps K W H xs ds → Rps K W H (xs.eraseIdx j) (ds.eraseIdx j)
  | _, _, _, .nil => .nil
  | _, _, 0, .cons _ t => t
  | _, _, j + 1, .cons x t => .cons x (rps_erase j t)
theorem mu_popAt : MuOk C rPopAt (mOf fPopAt) := by
  refine mOf_ok fun W H p xs vs ds as ds' d Q hp lv x xv h q => ?_
  match as, xv, h with
  | [.int k], .cons (.int _) .nil, h =>
    have h : (if decide (ds.length < 2 ^ 62) then (match ixN ds.length k with | some j => (ds[j]?).map fun d => (ds.eraseIdx j, d) | none => none) else none) = some (ds', _) := h
    by_cases hl : decide (ds.length < 2 ^ 62) = true
    · rw [if_pos hl] at h
      have hl := of_decide_eq_true hl
      cases e : ixN ds.length k with
      | none => rw [e] at h; cases h
      | some j =>
        rw [e] at h
        dsimp only at h
        cases e2 : ds[j]? with
        | none => rw [e2] at h; cases h
        | some d' =>
          rw [e2] at h; cases h
          obtain ⟨w, e3, y⟩ := rps_at x e2
          obtain ⟨h1, h2, h3, h4⟩ := ixN_seq e
          exact ⟨p, xs, k, j, w, rfl, rfl, hp, by omega, by omega, by rw [x.len]; exact h1, e3, q _ _ (rps_erase j x) y⟩
    · rw [if_neg hl] at h; cases h
theorem x_popAt (hN : X.N[i]? = some x) (hv : Vis X.env.scope x) (ha : GE X C e fe) (mc : MCall X (.Name x px) "pop" apos e [] cpos) (hK : C.K = X.K := by rfl) (hd : (x == ("__debug__" : Str)) = false := by decide) (hcd : (x == ("__classdict__" : Str)) = false := by decide) :
    GE X C (.Call (.Attribute (.Name x px) "pop" apos) [e] [] cpos) (eMut isOL (mOf fPopAt) i (eCons fe eNil)) :=
  ge_mut (by rw [hK]; exact pe_bm PySem.F.plainAttrs_list PySem.F.slot_list_pop PySem.F.type_list_pop mt_popAt (pe_var hN hv hd hcd) (ga_cons ha ga_nil mc.star) mc.base mc.few mc.line mc.star mc.plain) isOL_ty mu_popAt
end
end GB
namespace GB
open PySem PySem.Spec PyProof.Rows L2
def isX : S → Bool
  | .exc _ _ _ _ => true | .kd _ _ _ => true | .nd _ _ => true | .nh _ _ _ => true | .ot _ => true | .kt _ _ _ => true | .ky _ => true | _ => false
/-- a type that may be asked for -/
inductive BT | str | int | bool | tuple | list | dict
def isA (s : S) : BT → Bool
  | .str => (match s with | .fz (.str _) => true | _ => false)
  | .int => (match s with | .fz (.int _) => true | .fz (.bl _) => true | _ => false)
  | .bool => (match s with | .fz (.bl _) => true | _ => false)
  | .tuple => (match s with | .fz (.tup _) => true | _ => false)
  | .list => (match s with | .fz (.lst _) => true | .fz (.scr _) => true | .ol _ => true | .br _ => true | .lk _ => true | _ => false)
  | .dict => (match s with | .fz (.dic _ _) => true | .od _ => true | .bd _ => true | .kd _ _ _ => true | _ => false)
section
variable {X : Cx} {C : Ct} {K : PySem.W.Frag} {U W : Addr → Prop} {H : Hp} {v : V} {s : S} {e : Expr} {fe : Rho → Rs Opd} {pos p q : Pos}
def fIsA (T : BT) : S → Option S := fun s => match isX s with | true => none | false => some (.fz (.bl (isA s T)))
end
end GB
namespace GB
open PySem PySem.Spec PyProof.Rows L2
section
variable {C : Ct} {U U' : Addr → Prop} {H H' : Hp} {σ σ' : St} {r r' : Rho}
theorem Sit.poke2 {p : Addr} {o : HO} (s0 : Sit C U H σ r) (s : Sit C U' H' σ' r') (a : Aft U H σ r U' H' σ' r') (hp : H p = none) (up : U' p) (ho : ∃ kvs, o = .dK kvs) :
    Sit C U' (upd H' p o) σ' r' ∧ Aft U H σ r U' (upd H' p o) σ' r' ∧ (∀ {vs : List V} {ds : List D}, Rps C.K (Wn U' σ' r') H' vs ds → Rps C.K (Wn U' σ' r') (upd H' p o) vs ds) := by
  obtain ⟨xs, rfl⟩ := ho
  have m : Mono (fun _ => False) (Wn U' σ' r') H' (fun _ => False) (Wn U' σ' r') (upd H' p (.dK xs)) :=
    ⟨s.wlv, fun b o n h => by rw [upd_ne (fun z => n (by rw [z]; exact .inr up))]; exact h, fun b o n _ => n, fun _ _ z => z.elim, fun _ z => z.elim⟩
  have keep : ∀ b o, b ≠ p → H' b = some o → upd H' p (.dK xs) b = some o := fun b o n h => by rw [upd_ne n]; exact h
  refine ⟨⟨s.len, fun j t h => ?_, s.inj, s.dis, fun b h => ?_⟩, ⟨a.sub, a.new, a.grow, fun b o h n => keep b o (fun z => by rw [z, hp] at h; cases h) (a.keep b o h n), fun b o h => ?_, a.pin, a.lok⟩, fun x => x.mono m⟩
  · obtain ⟨v, e, x⟩ := s.rep j t h
    refine ⟨v, e, ?_⟩
    have own : ∀ b, t.own = true → v = .ref b → b ≠ p := fun b z1 z2 z => by subst z; exact s.dis b ⟨j, t, h, z1, by rw [e, z2]⟩ up
    have lk : ∀ b, t.lkd = true → v = .ref b → b ≠ p := fun b z1 z2 z => by
      subst z
      obtain ⟨g1, g2⟩ := a.lok j t h z1
      obtain ⟨w, e', y⟩ := s0.rep j t g1
      rw [← g2, e] at e'; cases e'
      exact (s0.uok b (y.lkLv z1 z2)).ne hp
    cases x with
    | fz x => exact .fz (x.mono m)
    | ol e1 x => exact .ol (keep _ _ (own _ rfl rfl) e1) (x.mono m)
    | br e1 x => exact .br (keep _ _ (own _ rfl rfl) e1) (x.mono m)
    | lk e1 u x => exact .lk (keep _ _ (lk _ rfl rfl) e1) u (x.mono m)
    | od e1 x => exact .od (keep _ _ (own _ rfl rfl) e1) (x.mono m)
    | bd e1 x => exact .bd (keep _ _ (own _ rfl rfl) e1) (x.mono m)
    | kd e1 x => exact .kd (e1.to fun o h => keep _ _ (fun z => by subst z; exact (s.uok _ up).fzn h) h) (x.mono m)
    | exc e1 x => exact .exc (keep _ _ (fun z => by subst z; exact (s.uok _ up).xd e1) e1) (x.mono m)
    | nd x => exact .nd (x.mono m)
    | nh e1 x => exact .nh (e1.to fun o u h => keep _ _ (fun z => by subst z; exact (s.uok _ up).fzn h) h) (x.mono m)
    | ot e1 x => exact .ot (keep _ _ (own _ rfl rfl) e1) (x.mono m)
    | kt e1 x => exact .kt (e1.to fun o h => keep _ _ (fun z => by subst z; exact (s.uok _ up).fzn h) h) (x.mono m)
    | ky e1 => exact .ky (e1.to m.tup)
  · by_cases z : b = p
    · subst z; exact .inr (.inl ⟨xs, upd_same⟩)
    · rcases s.uok b h with ⟨y, l⟩ | ⟨y, l⟩ | ⟨y, l⟩
      · exact .inl ⟨y, keep _ _ z l⟩
      · exact .inr (.inl ⟨y, keep _ _ z l⟩)
      · exact .inr (.inr ⟨y, keep _ _ z l⟩)
  · by_cases z : b = p
    · subst z; exact ⟨_, upd_same⟩
    · obtain ⟨o', h'⟩ := a.there b o h
      exact ⟨o', keep _ _ z h'⟩
end
/-- keys and values by turns -/
def eKVs : List ((Rho → Rs Opd) × (Rho → Rs Opd)) → Rho → Rs (List Opd)
  | [] => eNil
  | (k, v) :: l => eCons k (eCons v (eKVs l))
def flatP : List (V × V) → List V
  | [] => []
  | (x, y) :: l => x :: y :: flatP l
def pairD : List D → Option (List (Key × D))
  | [] => some []
  | k :: v :: ds => match keyD k, pairD ds with
    | some k, some l => some ((k, v) :: l)
    | _, _ => none
  | _ => none
def mergeD (kvs : List (Key × D)) : List (Key × D) := kvs.foldl (fun acc kv => putD acc kv.1 kv.2) []
def eDisp (l : List ((Rho → Rs Opd) × (Rho → Rs Opd))) : Rho → Rs Opd := fun r => (eKVs l r).bind fun os r1 => match frzAll os r1 with
  | some (ds, r2) => (match pairD ds with | some kvs => if kvs.length ≤ 15 then .ok (.val (.od (mergeD kvs))) r2 else .st | none => .st)
  | none => .st
section
variable {X : Cx} {C : Ct}
abbrev RA (C : Ct) (U : Addr → Prop) (H : Hp) (σ : St) (r : Rho) (Q : List V → Hp → Prop) : Rs (List Opd) → Prop := fun z => match z with
  | .ok os r' => ∀ vs H' U', Sit C U' H' σ r' → Aft U H σ r U' H' σ r' → Per r r' → OpsOk C U' H' σ r' os vs → NewS H os vs → Q vs H'
  | .ex c fs r' => XWant C U H σ r c fs r'
  | .st => False
theorem pairs_reading : ∀ (l : List ((Rho → Rs Opd) × (Rho → Rs Opd))) {σ : St} {H : Hp} {Q : List (V × V) → Hp → Prop}, tA C (eKVs l) σ H (fun vs H' => ∃ ps, vs = flatP ps ∧ Q ps H') → tPairs (l.map fun z => (tE C z.1, tE C z.2)) σ H Q
  | [], σ, H, Q, h => by
    obtain ⟨U, r, s, h⟩ := h
    obtain ⟨ps, e, q⟩ := h [] H U s Aft.refl Per.refl .nil .nil
    match ps, e with
    | [], _ => exact q
  | (k, v) :: l, σ, H, Q, h => by
    obtain ⟨U, r, s, h⟩ := h
    have h : RA C U H σ r (fun vs H' => ∃ ps, vs = flatP ps ∧ Q ps H') (eKVs ((k, v) :: l) r) := h
    refine tE_then (f := k) (g := fun o r1 => ((eCons v (eKVs l)) r1).bind fun os r2 => Rs.ok (o :: os) r2) (R := RA C U H σ r (fun vs H' => ∃ ps, vs = flatP ps ∧ Q ps H')) s h id (fun _ _ _ z => z) fun o1 r1 v1 H1 U1 s1 a1 p1 k1 n1 h1 => ?_
    refine tE_then (f := v) (g := fun o2 r2 => (eKVs l r2).bind fun os r3 => Rs.ok (o1 :: o2 :: os) r3) (R := RA C U H σ r (fun vs H' => ∃ ps, vs = flatP ps ∧ Q ps H')) s1 ?_ id (fun _ _ _ z => XWant.before z a1) fun o2 r2 v2 H2 U2 s2 a2 p2 k2 n2 h2 => ?_
    · refine cast ?_ h1
      unfold eCons Rs.bind
      cases v r1 with
      | ok o r2 => simp only []; cases eKVs l r2 <;> rfl
      | ex c fs r2 => rfl
      | st => rfl
    · refine pairs_reading l ⟨U2, r2, s2, ?_⟩
      have h2 : RA C U H σ r (fun vs H' => ∃ ps, vs = flatP ps ∧ Q ps H') ((eKVs l r2).bind fun os r3 => Rs.ok (o1 :: o2 :: os) r3) := h2
      cases e : eKVs l r2 with
      | ok os r3 =>
        rw [e] at h2
        intro vs H3 U3 s3 a3 p3 k3 n3
        obtain ⟨ps, e2, q⟩ := h2 (v1 :: v2 :: vs) H3 U3 s3 ((a1.trans a2).trans a3) ((p1.trans p2).trans p3) (.cons ((k1.after a2 s1 p2).after a3 s2 p3) (.cons (k2.after a3 s2 p3) k3)) (.cons n1 (.cons (n2.back a1) (NewS.back (a1.trans a2) n3)))
        match ps, e2 with
        | (x, y) :: ps, e2 => cases e2; exact ⟨ps, rfl, q⟩
      | ex c fs r3 => rw [e] at h2; exact XWant.before h2 (a1.trans a2)
      | st => rw [e] at h2; exact h2
theorem pairD_of {K : PySem.W.Frag} {W : Addr → Prop} {H : Hp} : ∀ {ds : List D} {vs : List V} {kvs : List (Key × D)}, Rps K W H vs ds → pairD ds = some kvs → ∃ xs : List (Key × V), vs = flatP (xs.map fun kv => (kV kv.1, kv.2)) ∧ KR K W H xs kvs
  | [], _, _, .nil, h => by cases h; exact ⟨[], rfl, .nil⟩
  | [d], _, _, _, h => by cases h
  | k :: d :: ds, _, kvs, .cons xk (.cons xv t), h => by
    have h : (match keyD k, pairD ds with | some k, some l => some ((k, d) :: l) | _, _ => none) = some kvs := h
    cases e1 : keyD k with
    | none => rw [e1] at h; cases h
    | some k' =>
      cases e2 : pairD ds with
      | none => rw [e1, e2] at h; cases h
      | some l =>
        rw [e1, e2] at h; cases h
        obtain ⟨xs, e3, t'⟩ := pairD_of t e2
        refine ⟨(k', _) :: xs, ?_, .cons ⟨rfl, xv⟩ t'⟩
        rw [keyD_of xk e1, e3]; rfl
theorem mergeD_of {K : PySem.W.Frag} {W : Addr → Prop} {H : Hp} {xs : List (Key × V)} {kvs : List (Key × D)} (h : KR K W H xs kvs) : KR K W H (mergeK [] xs) (mergeD kvs) := by
  unfold mergeK mergeD
  have go : ∀ {xs : List (Key × V)} {kvs : List (Key × D)} {a : List (Key × V)} {b : List (Key × D)}, KR K W H xs kvs → KR K W H a b → KR K W H (xs.foldl (fun acc kv => putK acc kv.1 kv.2) a) (kvs.foldl (fun acc kv => putD acc kv.1 kv.2) b) := by
    intro xs kvs a b h
    induction h generalizing a b with
    | nil => exact fun q => q
    | @cons p q ps qs h t ih =>
      intro r
      have e : KR K W H (putK a p.1 p.2) (putD b q.1 q.2) := by rw [h.1]; exact kr_put h.2 r
      exact ih e
  exact go h .nil
/-- {k: v, ..} -/
theorem ge_disp {keys : List (Option Expr)} {values : List Expr} {pos : Pos} {l : List ((Rho → Rs Opd) × (Rho → Rs Opd))} (h : PPs X pos keys values (l.map fun z => (tE C z.1, tE C z.2))) (hall : keys.all (·.isSome) = true) (hl : keys.length = values.length) (h0 : keys ≠ []) (h15 : keys.length ≤ 15) : GE X C (.Dict keys values pos) (eDisp l) := by
  refine weakE (pe_disp h hall hl h0 h15) fun σ H Q h => ?_
  obtain ⟨U, r, s, h⟩ := h
  have h : RE C U H σ r Q (eDisp l r) := h
  intro p hp
  obtain ⟨s1, a1⟩ := own_set hp s (upd_keep hp) (H' := upd H p (.dK [])) (.inr (.inl ⟨_, upd_same⟩))
  refine pairs_reading l ⟨_, r, s1, ?_⟩
  unfold eDisp at h
  cases e : eKVs l r with
  | st => rw [e] at h; exact h
  | ex c fs r1 => rw [e] at h; exact XWant.before h a1
  | ok os r1 =>
    rw [e] at h
    intro vs H2 U2 s2 a2 p2 k2 n2
    simp only [Rs.bind] at h
    cases e1 : frzAll os r1 with
    | none => simp only [e1] at h; exact (show False from h).elim
    | some z =>
      obtain ⟨ds, r2⟩ := z
      simp only [e1] at h
      cases e2 : pairD ds with
      | none => simp only [e2] at h; exact (show False from h).elim
      | some kvs =>
        simp only [e2] at h
        by_cases hk : kvs.length ≤ 15
        · rw [if_pos hk] at h
          obtain ⟨U3, s3, a3, u3, k3⟩ := ops_drop s1 s2 a2 k2 n2
          obtain ⟨s4, a4, p4, x4⟩ := frzAll_ok s3 k3 e1
          obtain ⟨xs, e3, t⟩ := pairD_of x4 e2
          have up : U3 p := a3.sub p (.inr rfl)
          have hp2 : H2 p = some (.dK []) := a2.keep p _ upd_same fun z => (s1.dis p z (.inr rfl))
          refine ⟨_, e3, hp2, xs, rfl, by rw [KR.len t]; exact hk, ?_⟩
          obtain ⟨s5, a5, c5⟩ := s.poke2 s4 (a1.trans (a3.trans a4)) hp up ⟨mergeK [] xs, rfl⟩
          have m : Mono (fun _ => False) (Wn U3 σ r2) H2 (fun _ => False) (Wn U3 σ r2) (upd H2 p (.dK (mergeK [] xs))) :=
            ⟨s4.wlv, fun b o n h => by rw [upd_ne (fun z => n (by rw [z]; exact .inr up))]; exact h, fun b o n _ => n, fun _ _ z => z.elim, fun _ z => z.elim⟩
          refine h (.ref p) _ U3 s5 a5 (p2.trans p4) ⟨.od upd_same (KR.mono m (mergeD_of t)), fun q _ z => by cases z; exact up, rfl⟩ fun t' q z1 z2 z3 => ?_
          cases z3; exact hp
        · rw [if_neg hk] at h; exact h.elim
end
end GB
namespace GB
open PySem PySem.Spec PyProof.Rows L2
theorem rep_len {α : Type} (l : List α) : ∀ n, (List.replicate n l).flatten.length = n * l.length
  | 0 => by simp
  | n + 1 => by rw [List.replicate_succ, List.flatten_cons, List.length_append, rep_len l n, Nat.add_mul]; omega
theorem foldl_arr (l : List Nat) : ∀ (k : Nat) (acc : List Nat), (List.replicate k l.toArray).foldl (· ++ ·) acc.toArray = (acc ++ (List.replicate k l).flatten).toArray
  | 0, acc => by simp
  | k + 1, acc => by
    rw [List.replicate_succ, List.foldl_cons, List.replicate_succ, List.flatten_cons, ← List.append_assoc]
    have : acc.toArray ++ l.toArray = (acc ++ l).toArray := by simp
    rw [this]
    exact foldl_arr l k (acc ++ l)
section
variable {X : Cx} {C : Ct} {K : PySem.W.Frag} {U W : Addr → Prop} {H : Hp} {a b e : Expr} {fa fb fe : Rho → Rs Opd} {pos p : Pos}
def rMulS : R2 := fun x y H Q => ∃ (l : List Nat) (k : Int), x = .str ⟨l.toArray⟩ ∧ y = .int k ∧ -(2 ^ 62) ≤ k ∧ k < 2 ^ 62 ∧ l.length * k.toNat ≤ 16777216 ∧ Q (.str ⟨(List.replicate k.toNat l).flatten.toArray⟩) H
theorem op_mulS : OpR X (binaryOp .Mult) rMulS := by
  intro pins s σ H x y v u Q I rx ry h
  obtain ⟨l, k, rfl, rfl, h1, h2, h3, q⟩ := h
  obtain ⟨t, rfl⟩ := rx
  obtain ⟨t', rfl⟩ := ry
  have hln : (⟨l.toArray⟩ : Str).length = l.length := str_len l
  refine PySem.P.mul_str ?_ ?_ ?_ ?_
  · rw [decide_eq_false (by omega), decide_eq_false (by omega)]; rfl
  · intro z1 z2 z3
    rw [hln] at z3
    have hk : 0 < k := by omega
    have hk2 : (k.toNat : Int) = k := by omega
    have z4 : ((l.length * k.toNat : Nat) : Int) ≤ 16777216 := by omega
    rw [Int.natCast_mul, hk2] at z4
    have z5 : ((2 : Int) ^ 63 - 1) / k < l.length := z3
    have z6 : ((2 : Int) ^ 63 - 1) < l.length * k := by
      rw [Int.ediv_lt_iff_lt_mul hk] at z5
      exact z5
    omega
  · intro z1 z2
    rw [hln]
    unfold Builtin.Str.tooLong
    exact decide_eq_false (by rw [sizeLine_eq]; omega)
  · by_cases z : k < 1
    · rw [if_pos z]
      have e : k.toNat = 0 := by omega
      rw [e] at q
      exact ⟨Nat.zero_le _, .str _, H, I.tok _, ⟨_, rfl⟩, q⟩
    · rw [if_neg z]
      by_cases z2 : (k == 1 || (⟨l.toArray⟩ : Str).length == 0) = true
      · rw [if_pos z2]
        have e : (List.replicate k.toNat l).flatten = l := by
          rw [Bool.or_eq_true] at z2
          rcases z2 with z2 | z2
          · have : k = 1 := eq_of_beq z2
            subst this; simp
          · have z3 : l.length = 0 := by rw [← hln]; exact eq_of_beq z2
            have : l = [] := List.length_eq_zero_iff.mp z3
            subst this; simp
        rw [e] at q
        exact ⟨.str _, H, I, ⟨_, rfl⟩, q⟩
      · rw [if_neg z2]
        have e : (List.replicate k.toNat (⟨l.toArray⟩ : Str).cps).foldl (· ++ ·) #[] = (List.replicate k.toNat l).flatten.toArray := by
          have := foldl_arr l k.toNat []
          simpa using this
        rw [e]
        refine ⟨?_, .str _, H, I.tok _, ⟨_, rfl⟩, q⟩
        rw [str_len, sizeLine_eq, rep_len, Nat.mul_comm]
        exact h3
def fMulS : S → S → Option S
  | .fz (.str l), .fz (.int k) => if -(2 ^ 62) ≤ k ∧ k < 2 ^ 62 ∧ l.length * k.toNat ≤ 16777216 then some (.fz (.str (List.replicate k.toNat l).flatten)) else none
  | _, _ => none
theorem pn_mulS : PN C (fun vs H Q => ∃ x y, vs = [x, y] ∧ rMulS x y H Q) (p2 fMulS) := by
  refine pn2 fun U W H x y a b s Q lv xa xb h q => ?_
  cases a with
  | fz a =>
    cases a with
    | str l =>
      cases b with
      | fz b =>
        cases b with
        | int k =>
          rw [sr_str xa, sr_int xb]
          have h : (if -(2 ^ 62) ≤ k ∧ k < 2 ^ 62 ∧ l.length * k.toNat ≤ 16777216 then some (S.fz (.str (List.replicate k.toNat l).flatten)) else none) = some s := h
          by_cases z : -(2 ^ 62) ≤ k ∧ k < 2 ^ 62 ∧ l.length * k.toNat ≤ 16777216
          · rw [if_pos z] at h; cases h
            exact ⟨l, k, rfl, rfl, z.1, z.2.1, z.2.2, q _ _ (.same (.str _))⟩
          · rw [if_neg z] at h; cases h
        | _ => cases h
      | _ => cases h
    | _ => cases b <;> first | cases h | (rename_i d; cases d <;> cases h)
  | _ => cases b <;> first | cases h | (rename_i d; cases d <;> cases h)
def qMul : Pr := orP (p2 fMul) (p2 fMulS)
theorem x_mulA (ha : GE X C a fa) (hb : GE X C b fb) : GE X C (.BinOp a .Mult b pos) (e2 qMul fa fb) :=
  ge_op (PN.or2 pn_mul pn_mulS) (pe_op (op_mulU.or op_mulS) ha hb)
@[simp] theorem s_qMulI {i j : Int} : qMul [.fz (.int i), .fz (.int j)] = if (-(2 ^ 64) < i ∧ i < 2 ^ 64) ∨ (-(2 ^ 64) < j ∧ j < 2 ^ 64) then some (.fz (.int (i * j))) else none := by
  unfold qMul orP
  show (match fMul (.fz (.int i)) (.fz (.int j)) with | none => _ | z => z) = _
  rw [s_mulI]
  by_cases z : (-(2 ^ 64) < i ∧ i < 2 ^ 64) ∨ (-(2 ^ 64) < j ∧ j < 2 ^ 64)
  · rw [if_pos z]
  · rw [if_neg z]; rfl
@[simp] theorem s_qMulS {l : List Nat} {k : Int} : qMul [.fz (.str l), .fz (.int k)] = if -(2 ^ 62) ≤ k ∧ k < 2 ^ 62 ∧ l.length * k.toNat ≤ 16777216 then some (.fz (.str (List.replicate k.toNat l).flatten)) else none := rfl
@[simp] theorem s_qMulO {l : List D} {k : Int} : qMul [.ol l, .fz (.int k)] = if -(2 ^ 63) ≤ k ∧ k < 2 ^ 63 ∧ l.length * k.toNat ≤ 16777216 then some (.ol (List.replicate k.toNat l).flatten) else none := by
  unfold qMul orP
  show (match (if -(2 ^ 63) ≤ k ∧ k < 2 ^ 63 ∧ l.length * k.toNat ≤ 16777216 then some (S.ol (List.replicate k.toNat l).flatten) else none) with | none => p2 fMulS [.ol l, .fz (.int k)] | z => z) = _
  by_cases z : -(2 ^ 63) ≤ k ∧ k < 2 ^ 63 ∧ l.length * k.toNat ≤ 16777216
  · rw [if_pos z]
  · rw [if_neg z]; rfl
end
end GB
namespace GB
open PySem PySem.Spec PyProof.Rows L2
def numsOfD : List D → Option (List Int)
  | [] => some []
  | .int i :: ds => (numsOfD ds).map (i :: ·)
  | _ :: _ => none
def sortI (ns : List Int) : List Int := ns.mergeSort fun a b => decide (a ≤ b)
def sortT (ws : List (List Nat)) : List (List Nat) := ws.mergeSort fun a b => decide (a ≤ b)
theorem le_tr (a b c : List Nat) : decide (a ≤ b) = true → decide (b ≤ c) = true → decide (a ≤ c) = true := fun h1 h2 => decide_eq_true (List.le_trans (of_decide_eq_true h1) (of_decide_eq_true h2))
theorem le_tt (a b : List Nat) : (decide (a ≤ b) || decide (b ≤ a)) = true := by
  rcases List.le_total a b with h | h <;> simp [h]
theorem sortT_perm (ws : List (List Nat)) : (sortT ws).Perm ws := List.mergeSort_perm _ _
theorem sortT_pw (ws : List (List Nat)) : (sortT ws).Pairwise (· ≤ ·) := (List.pairwise_mergeSort le_tr le_tt ws).imp fun h => of_decide_eq_true h
theorem sortI_perm (ws : List Int) : (sortI ws).Perm ws := List.mergeSort_perm _ _
theorem leI_tr (a b c : Int) (h1 : decide (a ≤ b) = true) (h2 : decide (b ≤ c) = true) : decide (a ≤ c) = true := decide_eq_true (Int.le_trans (of_decide_eq_true h1) (of_decide_eq_true h2))
theorem leI_tt (a b : Int) : (decide (a ≤ b) || decide (b ≤ a)) = true := by
  rcases Int.le_total a b with h | h <;> simp [h]
theorem sortI_pw (ws : List Int) : (sortI ws).Pairwise (· ≤ ·) := (List.pairwise_mergeSort leI_tr leI_tt ws).imp fun h => of_decide_eq_true h
theorem sortT_of {ys ws : List (List Nat)} (h : ys.Perm ws) (hp : ys.Pairwise (· ≤ ·)) : ys = sortT ws :=
  List.Perm.eq_of_pairwise (fun _ _ _ _ h1 h2 => List.le_antisymm h1 h2) hp (sortT_pw ws) (h.trans (sortT_perm ws).symm)
theorem sortI_of {ys ws : List Int} (h : ys.Perm ws) (hp : ys.Pairwise (· ≤ ·)) : ys = sortI ws :=
  List.Perm.eq_of_pairwise (fun _ _ _ _ h1 h2 => Int.le_antisymm h1 h2) hp (sortI_pw ws) (h.trans (sortI_perm ws).symm)
theorem rising_pw : ∀ (p : Str) (l : List Str), risingS p l = true → (p :: l).Pairwise fun a b => a.cps.toList ≤ b.cps.toList
  | p, [], _ => by simp
  | p, x :: l, h => by
    have h : (!ltCps x.cps.toList p.cps.toList && risingS x l) = true := h
    rw [Bool.and_eq_true, ltCps_eq] at h
    have le : p.cps.toList ≤ x.cps.toList := by
      have := h.1
      simpa using this
    have ih := rising_pw x l h.2
    refine List.pairwise_cons.mpr ⟨fun y hy => ?_, ih⟩
    rcases List.mem_cons.mp hy with rfl | hy
    · exact le
    · exact List.le_trans le ((List.pairwise_cons.mp ih).1 y hy)
theorem sortedS_pw {l : List Str} (h : sortedS l = true) : l.Pairwise fun a b => a.cps.toList ≤ b.cps.toList := by
  cases l with
  | nil => exact .nil
  | cons x l => exact rising_pw x l h
section
variable {X : Cx} {C : Ct} {K : PySem.W.Frag} {U W : Addr → Prop} {H : Hp} {v : V} {e : Expr} {fe : Rho → Rs Opd} {fs : Rho → Rs (List Opd)} {pos p : Pos} {tg : Expr}
theorem numsOfD_of : ∀ {xs : List V} {ds : List D} {ns : List Int}, Rps K W H xs ds → numsOfD ds = some ns → xs = ns.map V.int
  | _, _, _, .nil, h => by cases h; rfl
  | _, d :: ds, ns, .cons x t, h => by
    cases x with
    | int i =>
      have h : (numsOfD ds).map (i :: ·) = some ns := h
      cases e : numsOfD ds with
      | none => rw [e] at h; cases h
      | some n2 => rw [e] at h; cases h; rw [numsOfD_of t e]; rfl
    | _ => cases h
theorem rps_ints : ∀ {ns : List Int}, Rps K W H (ns.map V.int) (ns.map D.int)
  | [] => .nil
  | _ :: _ => .cons (.int _) rps_ints
theorem rps_strs : ∀ {ws : List (List Nat)}, Rps K W H ((ws.map fun w => (⟨w.toArray⟩ : Str)).map V.str) (ws.map D.str)
  | [] => .nil
  | _ :: _ => .cons (.str _) rps_strs
/-- sorted of texts, any number of them -/
def rSrtT (K : PySem.W.Frag) : List V → Hp → VK → Prop := fun vs H Q => ∃ (a : Addr) (xs : List Str), vs = [V.ref a] ∧ SqL K H a (xs.map V.str) ∧
  ∀ (ys : List Str) (p : Addr), ys.Perm xs → sortedS ys = true → H p = none → Q (.ref p) (upd H p (.lst (ys.map V.str)))
theorem cr_srtT : CallR X (.builtin "sorted") (rSrtT X.K) := by
  intro pins s σ H vs us Q I r h
  obtain ⟨a, xs, rfl, hs, q⟩ := h
  obtain ⟨its, rv, hl, hz⟩ := I.list hs
  have hlen0 := rv.length
  cases Vals.ref1 r
  refine PyProof.Rows.sorted_strsAny hl.isList rv.strs (hlen0 ▸ hz) fun out ys h1 h2 h3 => ?_
  obtain ⟨ep, he'⟩ := PyProof.Rows.sortedAll_at s.heap its out
  have hlen : (ys.map V.str).length ≤ sizeLine := by
    rw [List.length_map] at hz ⊢
    rw [h2.length_eq]
    exact hz
  refine ⟨.ref _, upd H (s.heap.objs.size + 1) (.lst (ys.map V.str)), ?_, rfl, q ys _ h2 h3 (I.hok.fresh (Nat.le_succ _))⟩
  exact I.laid (t' := s.toks) (fun _ _ => PyProof.Rows.sortedAll_old) (Nat.le_succ _) ⟨hlen, out.toList, ep, vals_of_strs h1, he'⟩
def fSrt (s : S) : Option S := match asLs s with
  | some ds => (match numsOfD ds, strsOf ds with
    | some ns, _ => some (.ol ((sortI ns).map D.int))
    | none, some ws => some (.ol ((sortT ws).map D.str))
    | none, none => none)
  | none => none
theorem pn_srt : PN C (fun vs H Q => rSortedI C.K vs H Q ∨ rSrtT C.K vs H Q) (p1 fSrt) := by
  intro U W H vs ss s Q lv hs hp q
  match ss, hs, hp with
  | [a], .cons xa .nil, hp =>
    have hp : fSrt a = some s := hp
    unfold fSrt at hp
    cases e : asLs a with
    | none => rw [e] at hp; cases hp
    | some ds =>
      rw [e] at hp
      dsimp only at hp
      obtain ⟨l, xs, rfl, h2, t⟩ := asLs_of xa e
      cases e2 : numsOfD ds with
      | some ns =>
        rw [e2] at hp; cases hp
        rw [numsOfD_of t e2] at h2
        refine .inl ⟨l, ns, rfl, h2, fun ns' p hp hs hf => ?_⟩
        rw [sortI_of hp hs]
        exact q _ _ (Got.newL (C := C) lv hf rps_ints)
      | none =>
        rw [e2] at hp
        cases e3 : strsOf ds with
        | none => rw [e3] at hp; cases hp
        | some ws =>
          rw [e3] at hp; cases hp
          rw [strsOf_of t e3] at h2
          refine .inr ⟨l, _, rfl, h2, fun ys p hp hs hf => ?_⟩
          have e4 : ys.map (fun y => y.cps.toList) = sortT ws := by
            refine sortT_of ?_ (List.pairwise_map.mpr (sortedS_pw hs))
            have := hp.map fun y : Str => y.cps.toList
            rw [List.map_map] at this
            refine this.trans (List.Perm.of_eq ?_)
            conv => rhs; rw [← List.map_id ws]
            exact List.map_congr_left fun w _ => by simp
          have e5 : ys = (sortT ws).map fun w => (⟨w.toArray⟩ : Str) := by
            rw [← e4, List.map_map]
            conv => lhs; rw [← List.map_id ys]
            exact List.map_congr_left fun w _ => by simp
          rw [e5]
          exact q _ _ (Got.newL (C := C) lv hf rps_strs)
theorem cr_or {f : Value} {r1 r2 : List V → Hp → VK → Prop} (h1 : CallR X f r1) (h2 : CallR X f r2) : CallR X f fun vs H Q => r1 vs H Q ∨ r2 vs H Q := by
  intro pins s σ H vs us Q I r h
  rcases h with h | h
  · exact h1 pins s σ H vs us Q I r h
  · exact h2 pins s σ H vs us Q I r h
theorem x_sorted (hm : X.mg "sorted" = none) (ha : GE X C e fe) (hK : C.K = X.K := by rfl) (hg : Gl X "sorted" := by rfl) (hs : starEach [e] X.env = (false, eval e X.env) :: starEach [] X.env := by rfl) : GE X C (.Call (.Name "sorted" p) [e] [] pos) (e1 (p1 fSrt) fe) :=
  ge_call pn_srt (by rw [hK]; exact pe_callB (cr_or cr_sortedI cr_srtT) hg hm PyProof.Rows.boot_sorted (ga_cons ha ga_nil hs) (he := hs))
def leastT (w : List Nat) (ws : List (List Nat)) : List Nat := ws.foldl (fun a y => if y < a then y else a) w
theorem minD_strs (w : List Nat) (ws : List (List Nat)) : PySem.W.minD (.str ⟨w.toArray⟩) (ws.map fun w => PyData.str ⟨w.toArray⟩) = .str ⟨(leastT w ws).toArray⟩ := by
  unfold PySem.W.minD leastT
  induction ws generalizing w with
  | nil => rfl
  | cons y ws ih =>
    rw [List.map_cons, List.foldl_cons, List.foldl_cons, ← ih]
    congr 1
    rw [PySem.W.dataLt_str]
    by_cases h : y < w
    · simp [h]
    · simp [h]
def rMinT (K : PySem.W.Frag) : List V → Hp → VK → Prop := fun vs H Q => ∃ (a : Addr) (w : List Nat) (ws : List (List Nat)), vs = [V.ref a] ∧ SqL K H a (((w :: ws).map fun w => (⟨w.toArray⟩ : Str)).map V.str) ∧ Q (.str ⟨(leastT w ws).toArray⟩) H
theorem readsAll_strs {h : Heap} : ∀ {vs : List Value} {ws : List (List Nat)}, StrsAre vs (ws.map fun w => (⟨w.toArray⟩ : Str)) → ∃ as, ReadsAll h vs (ws.map fun w => PyData.str ⟨w.toArray⟩) as
  | _, [], h => by cases h; exact ⟨_, .nil⟩
  | _, w :: ws, h => by
    cases h with
    | cons n t h =>
      obtain ⟨as, r⟩ := readsAll_strs h
      exact ⟨_, .cons (.str _ t) r⟩
theorem cr_minT (hc : X.calm = true) (hu : X.A.units + 64 < cLine) : CallR X (.builtin "min") (rMinT X.K) := by
  intro pins s σ H vs us Q I r h
  obtain ⟨a, w, ws, rfl, hs, q⟩ := h
  obtain ⟨its, rv, hl, hz⟩ := I.list hs
  cases Vals.ref1 r
  obtain ⟨as, rd⟩ := readsAll_strs (h := s.heap) rv.strs
  rw [List.map_cons] at rd
  have d0 : ∀ l : List (List Nat), PyData.depthAll (l.map fun w => PyData.str ⟨w.toArray⟩) = 0 := by
    intro l
    induction l with
    | nil => rfl
    | cons x l ih => rw [List.map_cons, PyData.depthAll, ih]; rfl
  have dd := d0 (w :: ws)
  rw [List.map_cons] at dd
  refine PySem.W.min_list_data (I.ok.hd hc) hl.isList (by simpa using rd) ⟨?_, ?_⟩ (by rw [dd]; omega) fun i v h' tk bs hv hr hk => ?_
  · have key : ∀ x ∈ PyData.str ⟨w.toArray⟩ :: ws.map (fun w => PyData.str ⟨w.toArray⟩), ∃ c, x = .str c := by
      intro x hx
      rcases List.mem_cons.mp hx with rfl | hx
      · exact ⟨_, rfl⟩
      · obtain ⟨y, _, rfl⟩ := List.mem_map.mp hx
        exact ⟨_, rfl⟩
    intro x hx y hy
    obtain ⟨_, rfl⟩ := key x hx
    obtain ⟨_, rfl⟩ := key y hy
    rfl
  · intro x hx
    rcases List.mem_cons.mp hx with rfl | hx
    · exact fun z => nomatch z
    · obtain ⟨y, _, rfl⟩ := List.mem_map.mp hx
      exact fun z => nomatch z
  · rw [minD_strs] at hr
    cases hr with
    | str _ t => exact ⟨.str _, H, I.kept (t' := tk) hk, ⟨t, rfl⟩, q⟩
def leastI (n : Int) (ns : List Int) : Int := ns.foldl (fun a y => if y < a then y else a) n
theorem leastI_le (ns : List Int) : ∀ n, leastI n ns ≤ n ∧ (∀ y ∈ ns, leastI n ns ≤ y) ∧ (leastI n ns = n ∨ leastI n ns ∈ ns) := by
  induction ns with
  | nil => intro n; exact ⟨Int.le_refl _, fun y h => (nomatch h), .inl rfl⟩
  | cons k ns ih =>
    intro n
    have e : leastI n (k :: ns) = leastI (if k < n then k else n) ns := rfl
    rw [e]
    obtain ⟨h1, h2, h3⟩ := ih (if k < n then k else n)
    have c1 : (if k < n then k else n) ≤ n := by split <;> omega
    have c2 : (if k < n then k else n) ≤ k := by split <;> omega
    refine ⟨Int.le_trans h1 c1, fun y hy => ?_, ?_⟩
    · rcases List.mem_cons.mp hy with rfl | hy
      · exact Int.le_trans h1 c2
      · exact h2 y hy
    · rcases h3 with h3 | h3
      · rw [h3]; split
        · exact .inr (List.mem_cons_self ..)
        · exact .inl rfl
      · exact .inr (List.mem_cons_of_mem _ h3)
def fMin1 (s : S) : Option S := match asLs s with
  | some ds => (match numsOfD ds, strsOf ds with
    | some (n :: ns), _ => some (.fz (.int (leastI n ns)))
    | none, some (w :: ws) => some (.fz (.str (leastT w ws)))
    | _, _ => none)
  | none => none
theorem pn_min1 : PN C (fun vs H Q => rMin C.K vs H Q ∨ rMinT C.K vs H Q) (p1 fMin1) := by
  intro U W H vs ss s Q lv hs hp q
  match ss, hs, hp with
  | [a], .cons xa .nil, hp =>
    have hp : fMin1 a = some s := hp
    unfold fMin1 at hp
    cases e : asLs a with
    | none => rw [e] at hp; cases hp
    | some ds =>
      rw [e] at hp
      dsimp only at hp
      obtain ⟨l, xs, rfl, h2, t⟩ := asLs_of xa e
      cases e2 : numsOfD ds with
      | some ns =>
        rw [e2] at hp
        cases ns with
        | nil => cases hp
        | cons n ns =>
          cases hp
          rw [numsOfD_of t e2] at h2
          refine .inl ⟨l, n :: ns, rfl, h2, by simp, fun m hm hl => ?_⟩
          obtain ⟨g1, g2, g3⟩ := leastI_le ns n
          have e3 : m = leastI n ns := by
            refine Int.le_antisymm ?_ ?_
            · rcases g3 with g3 | g3
              · rw [g3]; exact hl n (List.mem_cons_self ..)
              · exact hl _ (List.mem_cons_of_mem _ g3)
            · rcases List.mem_cons.mp hm with rfl | hm
              · exact g1
              · exact g2 m hm
          rw [e3]
          exact q _ _ (.same (.int _))
      | none =>
        rw [e2] at hp
        cases e3 : strsOf ds with
        | none => rw [e3] at hp; cases hp
        | some ws =>
          rw [e3] at hp
          cases ws with
          | nil => cases hp
          | cons w ws =>
            cases hp
            rw [strsOf_of t e3] at h2
            exact .inr ⟨l, w, ws, rfl, h2, q _ _ (.same (.str _))⟩
theorem x_min1 {k : Nat} (hr : Room k X.A) (hc : X.calm = true) (hm : X.mg "min" = none) (ha : GE X C e fe) (hK : C.K = X.K := by rfl) (hg : Gl X "min" := by rfl) (hs : starEach [e] X.env = (false, eval e X.env) :: starEach [] X.env := by rfl) : GE X C (.Call (.Name "min" p) [e] [] pos) (e1 (p1 fMin1) fe) :=
  ge_call pn_min1 (by rw [hK]; exact pe_callB (cr_or (cr_min hc) (cr_minT hc (hu64 hr))) hg hm PyProof.Rows.boot_min (ga_cons ha ga_nil hs) (he := hs))
end
end GB
namespace GB
open PySem PySem.Spec PyProof.Rows L2
end GB
namespace GB
open PySem PySem.Spec PyProof.Rows L2
@[simp] theorem s_ixBS {kvs : List (Key × D)} {l : List Nat} : qIx [.bd kvs, .fz (.str l)] = (getD kvs (.inr ⟨l.toArray⟩)).map .fz := rfl
@[simp] theorem s_ixOS {kvs : List (Key × D)} {l : List Nat} : qIx [.od kvs, .fz (.str l)] = (getD kvs (.inr ⟨l.toArray⟩)).map .fz := rfl
@[simp] theorem s_putBS {kvs : List (Key × D)} {v : D} {l : List Nat} : mPut (.bd kvs) [v, .str l] = if decide (kvs.length < 16777216) then some (.bd (putD kvs (.inr ⟨l.toArray⟩) v), .non) else none := rfl
/-- the feed -/
def fd (cells : List Int) (a b c : Int) : List (Key × D) := [(.inr ⟨#[99, 101, 108, 108, 115]⟩, .lst (cells.map D.int)), (.inr ⟨#[97, 116]⟩, .int a), (.inr ⟨#[108, 101, 102, 116]⟩, .int b), (.inr ⟨#[116, 117, 114, 110]⟩, .int c)]
section
variable {cells : List Int} {a b c x : Int}
@[simp] theorem fd_len : (fd cells a b c).length = 4 := rfl
@[simp] theorem fd_c : getD (fd cells a b c) (.inr ⟨#[99, 101, 108, 108, 115]⟩) = some (.lst (cells.map D.int)) := rfl
@[simp] theorem fd_a : getD (fd cells a b c) (.inr ⟨#[97, 116]⟩) = some (.int a) := rfl
@[simp] theorem fd_l : getD (fd cells a b c) (.inr ⟨#[108, 101, 102, 116]⟩) = some (.int b) := rfl
@[simp] theorem fd_t : getD (fd cells a b c) (.inr ⟨#[116, 117, 114, 110]⟩) = some (.int c) := rfl
@[simp] theorem fd_pa : putD (fd cells a b c) (.inr ⟨#[97, 116]⟩) (.int x) = fd cells x b c := rfl
@[simp] theorem fd_pl : putD (fd cells a b c) (.inr ⟨#[108, 101, 102, 116]⟩) (.int x) = fd cells a x c := rfl
@[simp] theorem fd_pt : putD (fd cells a b c) (.inr ⟨#[116, 117, 114, 110]⟩) (.int x) = fd cells a b x := rfl
end
theorem atI_mod {α : Type} {l : List α} (h : 0 < l.length) (a : Int) : ∃ x, atI l (a % (l.length : Int)) = some x ∧ x ∈ l := by
  have h1 : 0 ≤ a % (l.length : Int) := Int.emod_nonneg _ (by omega)
  have h2 : a % (l.length : Int) < l.length := Int.emod_lt_of_pos _ (by omega)
  obtain ⟨k, hk⟩ := Int.eq_ofNat_of_zero_le h1
  rw [hk, atI_n]
  have : k < l.length := by omega
  exact ⟨l[k], List.getElem?_eq_getElem this, List.getElem_mem this⟩
/-- a sign turned about -/
def bk (c : Nat) : Nat := if 97 ≤ c ∧ c ≤ 102 then c - 32 else c + 32
def isL (c : Nat) : Bool := decide ((97 ≤ c ∧ c ≤ 102) ∨ (65 ≤ c ∧ c ≤ 70))
theorem isL_iff {c : Nat} : isL c = true ↔ (97 ≤ c ∧ c ≤ 102) ∨ (65 ≤ c ∧ c ≤ 70) := decide_eq_true_iff
theorem bk_isL {c : Nat} (h : isL c = true) : isL (bk c) = true := by
  rw [isL_iff] at h ⊢
  unfold bk
  split <;> omega
theorem bk_bk {c : Nat} (h : isL c = true) : bk (bk c) = c := by
  rw [isL_iff] at h
  unfold bk
  split <;> split <;> omega
theorem bk_ne {c : Nat} (h : isL c = true) : bk c ≠ c := by
  rw [isL_iff] at h
  unfold bk
  split <;> omega
theorem bk_inj {c d : Nat} (h : isL c = true) (h' : isL d = true) (e : bk c = bk d) : c = d := by
  rw [← bk_bk h, e, bk_bk h']
/-- letters -/
def W (w : List Nat) : Prop := ∀ c ∈ w, isL c = true
theorem W.app {u v : List Nat} (h : W u) (h' : W v) : W (u ++ v) := fun c hc => (List.mem_append.mp hc).elim (h c) (h' c)
theorem W.l {u v : List Nat} (h : W (u ++ v)) : W u := fun c hc => h c (List.mem_append_left _ hc)
theorem W.r {u v : List Nat} (h : W (u ++ v)) : W v := fun c hc => h c (List.mem_append_right _ hc)
theorem W.nil : W [] := fun c hc => (nomatch hc)
theorem W.cons {c : Nat} {u : List Nat} (h : isL c = true) (h' : W u) : W (c :: u) := fun d hd => (List.mem_cons.mp hd).elim (fun e => e ▸ h) (h' d)
theorem W.head {c : Nat} {u : List Nat} (h : W (c :: u)) : isL c = true := h c (List.mem_cons_self ..)
theorem W.tail {c : Nat} {u : List Nat} (h : W (c :: u)) : W u := fun d hd => h d (List.mem_cons_of_mem _ hd)
theorem W.rev {u : List Nat} (h : W u) : W u.reverse := fun c hc => h c (List.mem_reverse.mp hc)
theorem W.take {u : List Nat} (h : W u) (n : Nat) : W (u.take n) := fun c hc => h c (List.mem_of_mem_take hc)
theorem W.drop {u : List Nat} (h : W u) (n : Nat) : W (u.drop n) := fun c hc => h c (List.mem_of_mem_drop hc)
theorem W.all {u : List Nat} (h : W u) : u.all isL = true := List.all_eq_true.mpr h
/-- the backs -/
def bkw (w : List Nat) : List Nat := (w.map bk).reverse
theorem W.bkw {w : List Nat} (h : W w) : W (bkw w) := fun c hc => by
  obtain ⟨d, hd, rfl⟩ := List.mem_map.mp (List.mem_reverse.mp hc)
  exact bk_isL (h d hd)
theorem bkw_bkw {w : List Nat} (h : W w) : bkw (bkw w) = w := by
  unfold GB.bkw
  rw [List.map_reverse, List.reverse_reverse, List.map_map]
  conv => rhs; rw [← List.map_id w]
  exact List.map_congr_left fun c hc => bk_bk (h c hc)
theorem bkw_app (u v : List Nat) : bkw (u ++ v) = bkw v ++ bkw u := by
  unfold bkw; rw [List.map_append, List.reverse_append]
theorem bkw_len (w : List Nat) : (bkw w).length = w.length := by unfold bkw; simp
/-- one sign more upon a stack -/
def step (s : List Nat) (c : Nat) : List Nat := match s with
  | x :: s' => if x = bk c then s' else c :: x :: s'
  | [] => [c]
def run (s w : List Nat) : List Nat := w.foldl step s
def red (w : List Nat) : List Nat := (run [] w).reverse
theorem run_app (s u v : List Nat) : run s (u ++ v) = run (run s u) v := List.foldl_append
/-- a stack without a sign upon its back -/
def Ok : List Nat → Prop
  | x :: y :: s => y ≠ bk x ∧ Ok (y :: s)
  | _ => True
theorem Ok.tail : ∀ {x : Nat} {s : List Nat}, Ok (x :: s) → Ok s
  | _, [], _ => trivial
  | _, _ :: _, h => h.2
theorem step_ok {s : List Nat} {c : Nat} (hs : Ok s) : Ok (step s c) := by
  cases s with
  | nil => trivial
  | cons x s =>
    unfold step
    dsimp only
    split
    · exact hs.tail
    · exact ⟨by assumption, hs⟩
theorem step_w {s : List Nat} {c : Nat} (hs : W s) (hc : isL c = true) : W (step s c) := by
  cases s with
  | nil => exact .cons hc .nil
  | cons x s =>
    unfold step
    dsimp only
    split
    · exact hs.tail
    · exact .cons hc hs
theorem step_back {s : List Nat} {c : Nat} (hs : Ok s) (hw : W s) (hc : isL c = true) : step (step s c) (bk c) = s := by
  cases s with
  | nil =>
    show (if c = bk (bk c) then [] else [bk c, c]) = []
    rw [bk_bk hc, if_pos rfl]
  | cons x s =>
    unfold step
    dsimp only
    by_cases e : x = bk c
    · rw [if_pos e]
      cases s with
      | nil => rw [e]
      | cons y s =>
        dsimp only
        have : y ≠ bk (bk c) := by
          have := hs.1
          rw [e] at this
          exact this
        rw [if_neg this, e]
    · rw [if_neg e]
      dsimp only
      rw [if_pos (bk_bk hc).symm]
theorem run_ok : ∀ {w s : List Nat}, Ok s → Ok (run s w)
  | [], _, h => h
  | c :: w, s, h => run_ok (w := w) (step_ok h)
theorem run_w : ∀ {w s : List Nat}, W s → W w → W (run s w)
  | [], _, h, _ => h
  | c :: w, s, h, hw => run_w (w := w) (step_w h hw.head) hw.tail
theorem run_back : ∀ {w s : List Nat}, Ok s → W s → W w → run (run s w) (bkw w) = s
  | [], _, _, _, _ => rfl
  | c :: w, s, hs, hw, h => by
    have e : bkw (c :: w) = bkw w ++ [bk c] := by unfold bkw; simp
    show run (run (step s c) w) (bkw (c :: w)) = s
    rw [e, run_app, run_back (step_ok hs) (step_w hw h.head) h.tail]
    exact step_back hs hw h.head
/-- a reduced word stays -/
theorem run_rev : ∀ {s t : List Nat}, Ok (s ++ t) → run t s.reverse = s ++ t
  | [], _, _ => rfl
  | x :: s, t, h => by
    rw [List.reverse_cons, run_app, run_rev h.tail]
    show step (s ++ t) x = x :: (s ++ t)
    cases e : s ++ t with
    | nil => rfl
    | cons y r =>
      have h : Ok (x :: (s ++ t)) := h
      rw [e] at h
      show (if y = bk x then r else x :: y :: r) = _
      rw [if_neg h.1]
/-- upon any stack, a word does what its reduced form does -/
theorem run_red {s : List Nat} (hs : Ok s) (hw : W s) : ∀ {w : List Nat}, W w → run s (red w) = run s w := by
  have key : ∀ (w t : List Nat), Ok t → W t → W w → run (run s t.reverse) w = run s (run t w).reverse := by
    intro w
    induction w with
    | nil => intro t _ _ _; rfl
    | cons c w ih =>
      intro t ht wt hw'
      have e : run (run s t.reverse) (c :: w) = run (step (run s t.reverse) c) w := rfl
      rw [e]
      have e2 : step (run s t.reverse) c = run s (step t c).reverse := by
        cases t with
        | nil => rfl
        | cons x t =>
          unfold step
          dsimp only
          by_cases h : x = bk c
          · rw [if_pos h]
            rw [List.reverse_cons, run_app]
            have hx : c = bk x := by rw [h, bk_bk hw'.head]
            have := step_back (s := run s t.reverse) (c := x) (run_ok hs) (run_w hw wt.tail.rev) wt.head
            rw [← hx] at this
            exact this
          · rw [if_neg h]
            rw [List.reverse_cons (a := c), run_app]
            rfl
      rw [e2]
      exact ih (step t c) (step_ok ht) (step_w wt hw'.head) hw'.tail
  intro w h
  exact (key w [] trivial .nil h).symm
theorem red_w {w : List Nat} (h : W w) : W (red w) := (run_w .nil h).rev
theorem ok_nil : Ok [] := by unfold Ok; trivial
theorem red_l {u v : List Nat} (hu : W u) (hv : W v) : red (red u ++ v) = red (u ++ v) := by
  show (run [] (red u ++ v)).reverse = (run [] (u ++ v)).reverse
  rw [run_app, run_app, run_red ok_nil .nil hu]
theorem red_r {u v : List Nat} (hu : W u) (hv : W v) : red (u ++ red v) = red (u ++ v) := by
  show (run [] (u ++ red v)).reverse = (run [] (u ++ v)).reverse
  rw [run_app, run_app, run_red (run_ok ok_nil) (run_w .nil hu) hv]
theorem red_back {w : List Nat} (h : W w) : red (w ++ bkw w) = [] := by
  show (run [] (w ++ bkw w)).reverse = []
  rw [run_app, run_back ok_nil .nil h]
  rfl
theorem step_len (s : List Nat) (c : Nat) : (step s c).length ≤ s.length + 1 := by
  cases s with
  | nil => exact Nat.le_refl _
  | cons x s =>
    unfold step
    dsimp only
    split
    · simp; omega
    · simp
theorem run_len : ∀ (w s : List Nat), (run s w).length ≤ s.length + w.length
  | [], s => Nat.le_refl _
  | c :: w, s => by
    have h1 := run_len w (step s c)
    have h2 := step_len s c
    show (run (step s c) w).length ≤ _
    rw [List.length_cons]; omega
theorem red_len (w : List Nat) : (red w).length ≤ w.length := by
  unfold red; rw [List.length_reverse]; have := run_len w []; simpa using this
@[simp] theorem atI_m1 {α : Type} {l : List α} : atI l (-1) = l.getLast? := by
  cases l with
  | nil => rfl
  | cons a l =>
    have e : ixN (a :: l).length (-1) = some l.length := by
      unfold ixN
      rw [if_neg (by omega), if_pos (by rw [List.length_cons]; omega), List.length_cons]
      congr 1
      omega
    unfold atI
    rw [e, List.getLast?_eq_getElem?]
    rfl
@[simp] theorem s_fNeg {i : Int} : fNeg (.fz (.int i)) = some (.fz (.int (-i))) := rfl
@[simp] theorem s_fApp {ds : List D} {d : D} : fApp ds [d] = if decide (ds.length < 16777216) then some (ds ++ [d], .non) else none := rfl
@[simp] theorem s_fPop0 {ds : List D} : fPop0 ds [] = ds.getLast?.map fun d => (ds.dropLast, d) := rfl
def sgD (c : Nat) : D := .str [c]
@[simp] theorem join_sg {cs : List Nat} (h : cs.length ≤ 16777216) : fJoin (.fz (.str [])) (.ol (cs.map sgD)) = some (.fz (.str cs)) := by
  have e4 : strsOf (cs.map sgD) = some (cs.map fun c => [c]) := strsOf_map (fun c => [c]) cs
  have z : ((cs.map fun c => [c]).map List.length).sum = cs.length := sum_one id cs
  have fl : (cs.map fun c => [c]).flatten = cs := (flat_one id cs).trans (List.map_id cs)
  rw [s_fJoin, e4]
  dsimp only
  rw [z, joinN_nil, fl, if_pos (big_of (by simpa using h))]
/-- w[:k] -/
theorem sl_to {w : List Nat} (hb : w.length ≤ 16777216) (k : Nat) : fSl (.fz (.str w)) (.fz .non) (.fz (.int (k : Nat))) = some (.fz (.str (w.take k))) := by
  have e : GB.cutD w none (some (k : Int)) = w.take k := by
    unfold GB.cutD
    have e : HT.sIx w.length w.length (some (k : Int)) = min k w.length := HT.sIx_nat w.length w.length k
    rw [e]
    show List.take (min k w.length - 0) (w.drop 0) = _
    rw [List.drop_zero, Nat.sub_zero]
    by_cases h : k ≤ w.length
    · rw [Nat.min_eq_left h]
    · rw [Nat.min_eq_right (by omega), List.take_of_length_le (Nat.le_refl _), List.take_of_length_le (by omega)]
  show (if big w.length then some (S.fz (.str (GB.cutD w none (some (k : Int))))) else none) = _
  rw [if_pos (big_of hb), e]
/-- w[k:] -/
theorem sl_from {w : List Nat} (hb : w.length ≤ 16777216) (k : Nat) : fSl (.fz (.str w)) (.fz (.int (k : Nat))) (.fz .non) = some (.fz (.str (w.drop k))) := by
  have e : GB.cutD w (some (k : Int)) none = w.drop k := by
    unfold GB.cutD
    have e : HT.sIx w.length 0 (some (k : Int)) = min k w.length := HT.sIx_nat w.length 0 k
    rw [e]
    show List.take (w.length - min k w.length) (w.drop (min k w.length)) = _
    rw [List.take_of_length_le (by rw [List.length_drop]; omega)]
    by_cases h : k ≤ w.length
    · rw [Nat.min_eq_left h]
    · rw [Nat.min_eq_right (by omega), List.drop_eq_nil_of_le (Nat.le_refl _), List.drop_eq_nil_of_le (by omega)]
  show (if big w.length then some (S.fz (.str (GB.cutD w (some (k : Int)) none))) else none) = _
  rw [if_pos (big_of hb), e]
theorem lc_fz {fs : Rho → Rs (List Opd)} {mk : List S → Option (List D)} {fg : D → Rho → Option Rho} {ft : Rho → Rs Bool} {fe : Rho → Rs Opd} {vs : List Nat} {r r1 r3 : Rho} {d : D} {ds acc : List D} (h : fs r = .ok [.val (.fz d)] r1) (hk : mk [.fz d] = some ds) (hs : softs r1 vs = true) (hc : cmpL fg ft fe vs ds (wipeR r1 vs) [] = .ok acc r3) :
    eLc fs mk fg ft fe vs r = .ok (.val (.ol acc)) (restR r1 r3 vs) := by
  unfold eLc
  rw [h]
  show (match mk [.fz d] with
    | some ds => if softs r1 vs then (match cmpL fg ft fe vs ds (wipeR r1 vs) [] with | .ok acc r3 => Rs.ok (Opd.val (S.ol acc)) (unlR [] (restR r1 r3 vs)) | _ => .st) else .st
    | none => .st) = _
  rw [hk]
  dsimp only
  rw [if_pos hs, hc]
  rfl
theorem W.lt {w : List Nat} (h : W w) : ∀ c ∈ w, c < 16 ^ 8 := fun c hc => by have := isL_iff.mp (h c hc); omega
/-- so many times -/
def rep (w : List Nat) (k : Nat) : List Nat := (List.replicate k w).flatten
/-- a feed over some cells -/
def Feed (k : List (Key × D)) : Prop := ∃ cells a b c, 0 < cells.length ∧ k = fd cells a b c
theorem cut63 (ns : List Int) : GB.cutD (ns.map D.int) none (some 63) = (ns.take 63).map D.int := by
  unfold GB.cutD
  rw [List.length_map]
  have e : HT.sIx ns.length ns.length (some 63) = min 63 ns.length := HT.sIx_nat ns.length ns.length 63
  rw [e]
  show List.take (min 63 ns.length - 0) ((ns.map D.int).drop 0) = _
  rw [List.drop_zero, Nat.sub_zero, ← List.map_take]
  congr 1
  by_cases h : 63 ≤ ns.length
  · rw [Nat.min_eq_left h]
  · rw [Nat.min_eq_right (by omega), List.take_of_length_le (Nat.le_refl _), List.take_of_length_le (by omega)]
def sgn (m : Nat) : List Nat := [97, 98, 99, 100, 101, 102].take m ++ [65, 66, 67, 68, 69, 70].take m
theorem sgn_w (m : Nat) : W (sgn m) := by
  have h1 : W [97, 98, 99, 100, 101, 102] := fun c hc => isL_iff.mpr (by simp at hc; omega)
  have h2 : W [65, 66, 67, 68, 69, 70] := fun c hc => isL_iff.mpr (by simp at hc; omega)
  exact (h1.take m).app (h2.take m)
theorem sgn_len {m : Nat} (h : m ≤ 6) : (sgn m).length = 2 * m := by unfold sgn; simp; omega
end GB
namespace GB
open PySem PySem.Spec PyProof.Rows L2
theorem strsOf_ws (ws : List (List Nat)) : strsOf (ws.map D.str) = some ws := by
  induction ws with
  | nil => rfl
  | cons w ws ih => rw [List.map_cons, strsOf, ih]; rfl
theorem numsOfD_ws (w : List Nat) (ws : List (List Nat)) : numsOfD ((w :: ws).map D.str) = none := rfl
theorem min1T {w : List Nat} {ws : List (List Nat)} : fMin1 (.ol ((w :: ws).map D.str)) = some (.fz (.str (leastT w ws))) := by
  show (match numsOfD ((w :: ws).map D.str), strsOf ((w :: ws).map D.str) with
    | some (n :: ns), _ => some (S.fz (.int (leastI n ns)))
    | none, some (w :: ws) => some (.fz (.str (leastT w ws)))
    | _, _ => none) = _
  rw [numsOfD_ws, strsOf_ws]
theorem leastT_spec (ws : List (List Nat)) : ∀ w, leastT w ws ∈ w :: ws ∧ ∀ y ∈ w :: ws, leastT w ws ≤ y := by
  induction ws with
  | nil =>
    intro w
    refine ⟨List.mem_cons_self .., fun y hy => ?_⟩
    rcases List.mem_cons.mp hy with rfl | hy
    · exact List.le_refl _
    · cases hy
  | cons x ws ih =>
    intro w
    have e : leastT w (x :: ws) = leastT (if x < w then x else w) ws := rfl
    rw [e]
    obtain ⟨h1, h2⟩ := ih (if x < w then x else w)
    have h3 := h2 _ (List.mem_cons_self ..)
    refine ⟨?_, fun y hy => ?_⟩
    · rcases List.mem_cons.mp h1 with h1 | h1
      · rw [h1]; split
        · exact List.mem_cons_of_mem _ (List.mem_cons_self ..)
        · exact List.mem_cons_self ..
      · exact List.mem_cons_of_mem _ (List.mem_cons_of_mem _ h1)
    · by_cases c : x < w
      · rw [if_pos c] at h3 h2 ⊢
        rcases List.mem_cons.mp hy with rfl | hy
        · exact List.le_trans h3 (List.le_of_lt c)
        · rcases List.mem_cons.mp hy with rfl | hy
          · exact h3
          · exact h2 y (List.mem_cons_of_mem _ hy)
      · rw [if_neg c] at h3 h2 ⊢
        rcases List.mem_cons.mp hy with rfl | hy
        · exact h3
        · rcases List.mem_cons.mp hy with rfl | hy
          · exact List.le_trans h3 (List.not_lt.mp c)
          · exact h2 y (List.mem_cons_of_mem _ hy)
/-- w[i:j] -/
theorem sl_nn {w : List Nat} (hb : w.length ≤ 16777216) (i j : Nat) : fSl (.fz (.str w)) (.fz (.int (i : Nat))) (.fz (.int (j : Nat))) = some (.fz (.str ((w.take j).drop i))) := by
  have e : GB.cutD w (some (i : Int)) (some (j : Int)) = (w.take j).drop i := by
    unfold GB.cutD
    have e1' : HT.sIx w.length w.length (some (j : Int)) = min j w.length := HT.sIx_nat w.length w.length j
    have e2' : HT.sIx w.length 0 (some (i : Int)) = min i w.length := HT.sIx_nat w.length 0 i
    rw [e1', e2']
    refine List.ext_getElem? fun n => ?_
    rw [List.getElem?_take, List.getElem?_drop, List.getElem?_drop, List.getElem?_take]
    by_cases h1 : n < min j w.length - min i w.length
    · rw [if_pos h1, if_pos (by omega)]
      congr 1
      omega
    · rw [if_neg h1]
      split
      · exact (List.getElem?_eq_none (by omega)).symm
      · rfl
  show (if big w.length then some (S.fz (.str (GB.cutD w (some (i : Int)) (some (j : Int))))) else none) = _
  rw [if_pos (big_of hb), e]
/-- begun elsewhere -/
def rot (w : List Nat) (k : Nat) : List Nat := w.drop k ++ w.take k
theorem rot_0 (w : List Nat) : rot w 0 = w := by simp [rot]
/-- all turns -/
def turnsL (w : List Nat) : List (List Nat) := (List.range (max 1 w.length)).map (rot w)
theorem turnsL_cons (w : List Nat) : ∃ ws, turnsL w = w :: ws := by
  unfold turnsL
  obtain ⟨n, hn⟩ : ∃ n, max 1 w.length = n + 1 := ⟨max 1 w.length - 1, by omega⟩
  rw [hn, List.range_succ_eq_map, List.map_cons, rot_0]
  exact ⟨_, rfl⟩
/-- the least turn -/
def leastTurn (w : List Nat) : List Nat := match turnsL w with
  | x :: xs => leastT x xs
  | [] => []
theorem leastTurn_mem (w : List Nat) : leastTurn w ∈ turnsL w := by
  obtain ⟨ws, e⟩ := turnsL_cons w
  unfold leastTurn
  rw [e]
  exact (leastT_spec ws w).1
theorem min1_turns (w : List Nat) : fMin1 (.ol ((turnsL w).map D.str)) = some (.fz (.str (leastTurn w))) := by
  obtain ⟨ws, e⟩ := turnsL_cons w
  unfold leastTurn
  rw [e]
  exact min1T
/-- the letters at place k from both ends undo each other -/
def endsUndo (s : List Nat) (k : Nat) : Bool := decide (2 * k + 1 < s.length) && (match s[k]?, s[s.length - 1 - k]? with | some x, some y => decide (x = bk y) | _, _ => false)
def coreK (s : List Nat) : Nat → Nat → Nat
  | 0, k => k
  | n + 1, k => if endsUndo s k then coreK s n (k + 1) else k
def coreN (s : List Nat) : Nat := coreK s s.length 0
/-- without k letters at both ends -/
def midK (s : List Nat) (k : Nat) : List Nat := (s.take (s.length - k)).drop k
theorem midK_len (s : List Nat) (k : Nat) : (midK s k).length = s.length - 2 * k := by unfold midK; simp; omega
theorem midK_at {s : List Nat} {k i : Nat} (h : i + 2 * k < s.length) : (midK s k)[i]? = s[k + i]? := by
  unfold midK
  rw [List.getElem?_drop, List.getElem?_take, if_pos (by omega)]
theorem midK_succ (s : List Nat) (k : Nat) : ((midK s k).take ((midK s k).length - 1)).drop 1 = midK s (k + 1) := by
  rw [midK_len]
  unfold midK
  refine List.ext_getElem? fun n => ?_
  simp only [List.getElem?_drop, List.getElem?_take]
  by_cases h : 1 + n < s.length - 2 * k - 1
  · rw [if_pos h, if_pos (by omega), if_pos (by omega)]
    congr 1
    omega
  · rw [if_neg h, if_neg (by omega)]
theorem midK_w {s : List Nat} (h : W s) (k : Nat) : W (midK s k) := (h.take _).drop _
theorem endsUndo_lt {s : List Nat} {k : Nat} (h : endsUndo s k = true) : 2 * k + 1 < s.length := by
  unfold endsUndo at h
  rw [Bool.and_eq_true] at h
  exact of_decide_eq_true h.1
end GB
namespace GB
open PySem PySem.Spec PyProof.Rows L2
/-- a slot that may be stored to: empty, a tree or an own list -/
def so (x : Option S) : Prop := x = none ∨ (∃ d, x = some (.fz d)) ∨ ∃ l, x = some (.ol l)
/-- a comprehension over a slot that holds a tree -/
theorem lc_lfz {fs : Rho → Rs (List Opd)} {mk : List S → Option (List D)} {fg : D → Rho → Option Rho} {ft : Rho → Rs Bool} {fe : Rho → Rs Opd} {vs : List Nat} {r r1 r3 : Rho} {i : Nat} {d : D} {ds acc : List D} (h : fs r = .ok [.loc i] r1) (hi : r1[i]? = some (some (.fz d))) (hk : mk [.fz d] = some ds) (hs : softs r1 vs = true) (hc : cmpL fg ft fe vs ds (wipeR r1 vs) [] = .ok acc r3) :
    eLc fs mk fg ft fe vs r = .ok (.val (.ol acc)) (restR r1 r3 vs) := by
  unfold eLc
  rw [h]
  have e : lockAll [.loc i] r1 = some ([.fz d], r1, []) := by simp [hi]
  show (match lockAll [.loc i] r1 with
    | some (ss, r2, u) => (match mk ss with
      | some ds => if softs r2 vs then (match cmpL fg ft fe vs ds (wipeR r2 vs) [] with | .ok acc r3 => Rs.ok (Opd.val (S.ol acc)) (unlR u (restR r2 r3 vs)) | _ => .st) else .st
      | none => .st)
    | none => .st) = _
  rw [e]
  show (match mk [.fz d] with
    | some ds => if softs r1 vs then (match cmpL fg ft fe vs ds (wipeR r1 vs) [] with | .ok acc r3 => Rs.ok (Opd.val (S.ol acc)) (unlR [] (restR r1 r3 vs)) | _ => .st) else .st
    | none => .st) = _
  rw [hk]
  dsimp only
  rw [if_pos hs, hc]
  rfl
/-- w is so many times its first s letters -/
def per (w : List Nat) (s : Nat) : Bool := decide (rep (w.take s) (w.length / s) = w)
theorem mulI_s {a b : Int} (h1 : -1000000000 ≤ a) (h2 : a ≤ 1000000000) : qMul [.fz (.int a), .fz (.int b)] = some (.fz (.int (a * b))) := by
  rw [s_qMulI]
  exact if_pos (.inl ⟨by omega, by omega⟩)
end GB
namespace GB
open PySem PySem.Spec PyProof.Rows L2
/-- a small leaf -/
def lf (d : D) : Prop := (∃ i, d = .int i ∧ i.natAbs < 2 ^ 64) ∨ (∃ w : List Nat, d = .str w ∧ w.length ≤ 200 ∧ ∀ c ∈ w, c < 16 ^ 8) ∨ d = .non ∨ ∃ b, d = .bl b
end GB
namespace GB
open PySem PySem.Spec PyProof.Rows L2
/-- a leaf that may be compared -/
def eqL (d : D) : Prop := (∃ i, d = .int i) ∨ (∃ w : List Nat, d = .str w ∧ ∀ c ∈ w, c < 1114112) ∨ d = .non ∨ ∃ b, d = .bl b
theorem eqL_w {w : List Nat} (h : W w) : eqL (.str w) := .inr (.inl ⟨w, rfl, fun c hc => by have := isL_iff.mp (h c hc); omega⟩)
theorem eqL_spec {d : D} (h : eqL d) : d.py.canLay0 = true ∧ d.py.depth = 0 ∧ d.py.hasDict = false := by
  rcases h with ⟨i, rfl⟩ | ⟨w, rfl, h⟩ | rfl | ⟨b, rfl⟩
  · exact ⟨by rw [D.py, PyData.canLay0], by rw [D.py, PyData.depth], by rw [D.py, PyData.hasDict]⟩
  · refine ⟨?_, depth_str _, by rw [D.py, PyData.hasDict]⟩
    rw [D.py, PyData.canLay0]
    show (⟨w.toArray⟩ : Str).cps.all (· < 0x110000) = true
    simpa using h
  · exact ⟨by rw [D.py, PyData.canLay0], by rw [D.py, PyData.depth], by rw [D.py, PyData.hasDict]⟩
  · exact ⟨by rw [D.py, PyData.canLay0], by rw [D.py, PyData.depth], by rw [D.py, PyData.hasDict]⟩
theorem eqL_all : ∀ {ds : List D}, (∀ d ∈ ds, eqL d) → PyData.canLayAll0 (pyAll ds) = true ∧ PyData.depthAll (pyAll ds) = 0 ∧ PyData.hasDictAll (pyAll ds) = false
  | [], _ => ⟨rfl, rfl, rfl⟩
  | d :: ds, h => by
    obtain ⟨h1, h2, h3⟩ := eqL_spec (h d (List.mem_cons_self ..))
    obtain ⟨g1, g2, g3⟩ := eqL_all fun d hd => h d (List.mem_cons_of_mem _ hd)
    exact ⟨by rw [pyAll, PyData.canLayAll0, h1, g1]; rfl, by rw [pyAll, PyData.depthAll, h2, g2]; rfl, by rw [pyAll, PyData.hasDictAll, h3, g3]; rfl⟩
theorem fit_lst {ds : List D} (h : ∀ d ∈ ds, eqL d) : (D.lst ds).fit = true := by
  obtain ⟨h1, h2, h3⟩ := eqL_all h
  have e1' : (D.lst ds).py.canLay0 = true := by rw [D.py, PyData.canLay0]; exact h1
  have e2' : (D.lst ds).py.depth ≤ 64 := by rw [D.py, PyData.depth, h2]; decide
  have e3' : (D.lst ds).py.hasDict = false := by rw [D.py, PyData.hasDict]; exact h3
  show (((D.lst ds).py.canLay0 && decide ((D.lst ds).py.depth ≤ 64)) && !(D.lst ds).py.hasDict) = true
  rw [e1', e3', decide_eq_true e2']; rfl
theorem fit_nil : (D.lst []).fit = true := fit_lst fun _ h => nomatch h
/-- xs == [], over leaves -/
theorem eq_nil {ds : List D} (h : ∀ d ∈ ds, eqL d) : fEq (.ol ds) (.ol []) = some (.fz (.bl ds.isEmpty)) := by
  show (if (D.lst ds).fit && (D.lst []).fit then some ((D.lst ds).same (.lst [])) else none).map (fun k => S.fz (.bl k)) = _
  rw [fit_lst h, fit_nil]
  show some (S.fz (.bl (PyData.eqv (D.lst ds).py (D.lst []).py))) = _
  rw [D.py, D.py, PyData.eqv]
  cases ds <;> rfl
@[simp] theorem s_fIsA {T : BT} {d : D} : fIsA T (.fz d) = some (.fz (.bl (isA (.fz d) T))) := rfl
@[simp] theorem s_fIsA1 {T : BT} {d : List D} : fIsA T (.ol d) = some (.fz (.bl (isA (.ol d) T))) := rfl
@[simp] theorem s_fIsA2 {T : BT} {d : List D} : fIsA T (.br d) = some (.fz (.bl (isA (.br d) T))) := rfl
@[simp] theorem s_fIsA3 {T : BT} {d : List D} : fIsA T (.lk d) = some (.fz (.bl (isA (.lk d) T))) := rfl
@[simp] theorem isA_str {w : List Nat} : isA (.fz (.str w)) .str = true := rfl
@[simp] theorem isA_stuple {w : List Nat} : isA (.fz (.str w)) .tuple = false := rfl
@[simp] theorem isA_sint {w : List Nat} : isA (.fz (.str w)) .int = false := rfl
@[simp] theorem isA_tup {ds : List D} : isA (.fz (.tup ds)) .tuple = true := rfl
@[simp] theorem isA_tstr {ds : List D} : isA (.fz (.tup ds)) .str = false := rfl
@[simp] theorem isA_int {i : Int} : isA (.fz (.int i)) .int = true := rfl
@[simp] theorem isA_ibool {i : Int} : isA (.fz (.int i)) .bool = false := rfl
/-- the number of a letter -/
def num (c : Nat) : Nat := if 97 ≤ c then c - 97 else c - 65
theorem sgn_mem {m c : Nat} (hm : m ≤ 6) : c ∈ sgn m ↔ isL c = true ∧ num c < m := by
  have key : ∀ m, m ≤ 6 → ∀ c, c < 128 → (c ∈ sgn m ↔ isL c = true ∧ num c < m) := by decide
  by_cases h : c < 128
  · exact key m hm c h
  · constructor
    · intro z
      have := isL_iff.mp (sgn_w m c z)
      omega
    · intro z
      have := isL_iff.mp z.1
      omega
/-- a word of so many letters -/
def inW (m c : Nat) : Bool := decide (c ∈ sgn m)
/-- no letter just ahead of its back -/
def tidy : List Nat → Bool
  | x :: y :: w => decide (x ≠ bk y) && tidy (y :: w)
  | _ => true
theorem tidy_ok {w : List Nat} (h : W w) : tidy w = true ↔ Ok w := by
  induction w with
  | nil => exact ⟨fun _ => ok_nil, fun _ => rfl⟩
  | cons x w ih =>
    cases w with
    | nil => exact ⟨fun _ => trivial, fun _ => rfl⟩
    | cons y w =>
      have ih := ih h.tail
      show (decide (x ≠ bk y) && tidy (y :: w)) = true ↔ y ≠ bk x ∧ Ok (y :: w)
      rw [Bool.and_eq_true, decide_eq_true_iff, ih]
      have hx := h.head
      have hy := h.tail.head
      constructor
      · exact fun z => ⟨fun e => z.1 (by rw [e, bk_bk hx]), z.2⟩
      · exact fun z => ⟨fun e => z.1 (by rw [e, bk_bk hy]), z.2⟩
theorem ok_snoc : ∀ (s : List Nat) (x y : Nat), Ok (s ++ [x]) → (y ≠ bk x) → Ok (s ++ [x, y])
  | [], x, y, _, h => ⟨h, trivial⟩
  | [a], x, y, g, h => ⟨g.1, h, trivial⟩
  | a :: b :: s, x, y, g, h => ⟨g.1, ok_snoc (b :: s) x y g.2 h⟩
theorem ok_rev {w : List Nat} (h : W w) : Ok w → Ok w.reverse := by
  induction w with
  | nil => exact fun h => h
  | cons x w ih =>
    intro o
    cases w with
    | nil => exact trivial
    | cons y w =>
      have i := ih h.tail o.tail
      rw [List.reverse_cons] at i ⊢
      rw [List.reverse_cons, List.append_assoc]
      refine ok_snoc _ _ _ i fun e => o.1 ?_
      rw [e, bk_bk h.tail.head]
/-- reduced just where nothing falls out -/
theorem red_self {w : List Nat} (h : W w) : red w = w ↔ tidy w = true := by
  rw [tidy_ok h]
  constructor
  · intro e
    have o : Ok (run [] w) := run_ok ok_nil
    have q : W (run [] w) := run_w .nil h
    have := ok_rev q o
    show Ok w
    rw [← e]
    exact this
  · intro o
    have := run_rev (s := w.reverse) (t := []) (by rw [List.append_nil]; exact ok_rev h o)
    unfold red
    rw [List.reverse_reverse, List.append_nil] at this
    rw [this, List.reverse_reverse]
theorem red_red {w : List Nat} (h : W w) : red (red w) = red w := by
  have := red_l (u := w) (v := []) h .nil
  rw [List.append_nil, List.append_nil] at this
  exact this
end GB
namespace GB
open PySem PySem.Spec PyProof.Rows L2
section
variable {X : Cx} {C : Ct} {K : PySem.W.Frag} {U W : Addr → Prop} {H : Hp} {v : V} {a b e : Expr} {fa fb fe : Rho → Rs Opd} {pos p : Pos}
def rListS : List V → Hp → VK → Prop := fun xs H Q => ∃ w : List Nat, xs = [.str ⟨w.toArray⟩] ∧ w.length ≤ sizeLine ∧ ∀ p, H p = none → Q (.ref p) (upd H p (.lst (w.map fun c => V.str ⟨#[c]⟩)))
theorem vals_signs {w : List Nat} {acc : Array Value} (h : ItemsOf (SignAt ⟨w.toArray⟩) acc w.length) : Vals (w.map fun c => V.str ⟨#[c]⟩) acc.toList := by
  obtain ⟨hs, hi⟩ := h
  have key : ∀ (w : List Nat) (us : List Value), us.length = w.length → (∀ (i : Nat) (v : Value), us[i]? = some v → ∃ (c : Nat) (u : Tok), w[i]? = some c ∧ v = Value.str ⟨#[c]⟩ u) → Vals (w.map fun c => V.str ⟨#[c]⟩) us := by
    intro w
    induction w with
    | nil => intro us hl _; cases us with | nil => exact .nil | cons _ _ => simp at hl
    | cons c w ih =>
      intro us hl hi
      cases us with
      | nil => simp at hl
      | cons u us =>
        obtain ⟨c', t, e1', e2'⟩ := hi 0 u rfl
        cases e1'
        exact .cons ⟨t, e2'⟩ (ih us (by simpa using hl) fun i v hv => by
          obtain ⟨c', t, e1', e2'⟩ := hi (i + 1) v (by simpa using hv)
          exact ⟨c', t, by simpa using e1', e2'⟩)
  refine key w acc.toList (by simpa using hs) fun i v hv => ?_
  have hv' : acc[i]? = some v := by rw [← Array.getElem?_toList]; exact hv
  obtain ⟨c, u, e1', e2'⟩ := hi i v hv'
  exact ⟨c, u, by simpa using e1', e2'⟩
theorem call_listS (hc : X.calm = true) : CallR X (.type "list") rListS := by
  intro pins s σ H xs us Q I r h
  obtain ⟨w, rfl, hl, q⟩ := h
  obtain ⟨u, rfl, t, rfl⟩ := vals1 r
  refine call_list_str (I.ok.hd hc) ⟨w.toArray⟩ t (fun h' tk acc n hk hS hacc => ?_) (by simpa using hl)
  have hv := vals_signs (w := w) (by simpa using hacc)
  refine ⟨.ref s.heap.objs.size, upd H s.heap.objs.size (.lst (w.map fun c => V.str ⟨#[c]⟩)), ?_, rfl, q _ (I.hok.fresh (Nat.le_refl _))⟩
  exact I.laid (t' := tk) hk (Nat.le_refl _) ⟨by rw [List.length_map]; exact hl, acc.toList, n, hv, by rw [hS]⟩
def keyT : Key → D
  | .inl i => .int i
  | .inr s => .str s.cps.toList
theorem rp_key (k : Key) : Rp K W H (kV k) (keyT k) := by
  cases k with
  | inl i => exact .int i
  | inr s =>
    have e : s = ⟨s.cps.toList.toArray⟩ := toStr s
    rw [e]
    have := Rp.str (K := K) (W := W) (H := H) s.cps.toList
    simpa [kV, keyT] using this
theorem rps_keys : ∀ ks : List Key, Rps K W H (ks.map kV) (ks.map keyT)
  | [] => .nil
  | k :: ks => .cons (rp_key k) (rps_keys ks)
def asKs : S → Option (List Key)
  | .fz (.dic ks _) => some ks
  | .od k => some (k.map Prod.fst) | .bd k => some (k.map Prod.fst)
  | _ => none
theorem asKs_of {s : S} (x : SR K U W H v s) {ks : List Key} (h : asKs s = some ks) : ∃ p kvs, v = .ref p ∧ H p = some (.dK kvs) ∧ kvs.map Prod.fst = ks := by
  cases x with
  | fz x => cases x with
    | dic e n q t => cases h; exact ⟨_, _, rfl, e, q⟩
    | _ => cases h
  | od e x => cases h; exact ⟨_, _, rfl, e, (kr_rps x).1⟩
  | bd e x => cases h; exact ⟨_, _, rfl, e, (kr_rps x).1⟩
  | _ => cases h
def fListU : S → Option S := fun s => match s with
  | .fz (.str w) => if big w.length then some (.ol (w.map fun c => .str [c])) else none
  | s => match asKs s with
    | some ks => some (.ol (ks.map keyT))
    | none => fList s
def rListU (K : PySem.W.Frag) : List V → Hp → VK → Prop := fun xs H Q => rListS xs H Q ∨ (∃ (a : Addr) (kvs : List (Key × V)), xs = [.ref a] ∧ Rd H a (.dK kvs) ∧ ∀ p, H p = none → Q (.ref p) (upd H p (.lst (kvs.map fun kv => kV kv.1)))) ∨
  ∃ p ys, xs = [.ref p] ∧ (SqL K H p ys ∨ SqT K H p ys) ∧ ∀ l, H l = none → Q (.ref l) (upd H l (.lst ys))
theorem call_listU (hc : X.calm = true) : CallR X (.type "list") (rListU X.K) := cr_or (call_listS hc) (cr_or (call_listD hc) call_list_of)
theorem rps_signs : ∀ w : List Nat, Rps K W H (w.map fun c => V.str ⟨#[c]⟩) (w.map fun c => D.str [c])
  | [] => .nil
  | c :: w => .cons (.str [c]) (rps_signs w)
theorem pn_listU : PN C (rListU C.K) (p1 fListU) := by
  intro U W H vs ss s Q lv hs hp q
  match ss, hs with
  | [], .nil => cases hp
  | _ :: _ :: _, .cons _ (.cons _ _) => cases hp
  | [t], .cons (a := x) xa .nil =>
    have hp : fListU t = some s := hp
    have old : fList t = some s → rListU C.K [x] H Q := fun h => .inr (.inr (pn_list U W H [x] [t] s Q lv (.cons xa .nil) h q))
    have keys : ∀ ks, asKs t = some ks → s = .ol (ks.map keyT) → rListU C.K [x] H Q := fun ks h1 h2 => by
      subst h2
      obtain ⟨a, kvs, rfl, e, e2'⟩ := asKs_of xa h1
      refine .inr (.inl ⟨a, kvs, rfl, .inl e, fun l hl => ?_⟩)
      have e3' : (kvs.map fun kv => kV kv.1) = ks.map kV := by rw [← e2', List.map_map]; rfl
      rw [e3']
      exact q _ _ (Got.newL (C := C) lv hl (rps_keys ks))
    by_cases z : ∃ w, t = .fz (.str w)
    · obtain ⟨w, rfl⟩ := z
      have hp : (if big w.length then some (S.ol (w.map fun c => D.str [c])) else none) = some s := hp
      by_cases hb : big w.length = true
      · rw [if_pos hb] at hp; cases hp
        rw [sr_str xa]
        exact .inl ⟨w, rfl, big_le hb, fun l hl => q _ _ (Got.newL (C := C) lv hl (rps_signs w))⟩
      · rw [if_neg hb] at hp; cases hp
    · have hp : (match asKs t with | some ks => some (S.ol (ks.map keyT)) | none => fList t) = some s := by
        cases t with
        | fz d => cases d with
          | str w => exact absurd ⟨_, rfl⟩ z
          | _ => exact hp
        | _ => exact hp
      cases e : asKs t with
      | none => rw [e] at hp; exact old hp
      | some ks => rw [e] at hp; cases hp; exact keys ks e rfl
theorem x_listU (hc : X.calm = true) (hm : X.mg "list" = none) (ha : GE X C a fa) (hK : C.K = X.K := by rfl) (hg : Gl X "list" := by rfl) (hs : starEach [a] X.env = (false, eval a X.env) :: starEach [] X.env := by rfl) : GE X C (.Call (.Name "list" p) [a] [] pos) (e1 (p1 fListU) fa) :=
  ge_call pn_listU (by rw [hK]; exact pe_callTy (call_listU hc) hg hm PyProof.Rows.boot_list (ga_cons ha ga_nil hs) (he := hs))
def rTupS : List V → Hp → VK → Prop := fun xs H Q => ∃ w : List Nat, xs = [.str ⟨w.toArray⟩] ∧ w.length ≤ sizeLine ∧ ∀ p o, TupO o → H p = none → Q (.ref p) (upd H p (.frz o (.tup (w.map fun c => V.str ⟨#[c]⟩))))
theorem call_tupS (hc : X.calm = true) : CallR X (.type "tuple") rTupS := by
  intro pins s σ H xs us Q I r h
  obtain ⟨w, rfl, hl, q⟩ := h
  obtain ⟨u, rfl, t, rfl⟩ := vals1 r
  refine call_tuple_str (I.ok.hd hc) ⟨w.toArray⟩ t (fun h' tk acc hk hacc => ?_) (by simpa using hl)
  have hv := vals_signs (w := w) (by simpa using hacc)
  have I1 : L2.Inv X pins σ H { s with heap := h', toks := tk } := I.kept hk
  refine ⟨.ref h'.objs.size, upd H h'.objs.size (.frz { cls := .type "tuple", data := .seq acc } (.tup (w.map fun c => V.str ⟨#[c]⟩))), ?_, rfl, q _ _ ⟨rfl, rfl⟩ (I1.hok.fresh (Nat.le_refl _))⟩
  exact I1.laid (t' := tk) (fun b u e => Heap.get?_push_of_some _ e) (Nat.le_refl _) ⟨Heap.get?_push_size _ rfl, by rw [List.length_map]; exact hl, acc.toList, hv, ⟨_, Heap.get?_push_size _ rfl, rfl, _, by simp; rfl⟩⟩
def fTupU : S → Option S := fun s => match s with
  | .fz (.str w) => if big w.length then some (.fz (.tup (w.map fun c => .str [c]))) else none
  | s => fTuple s
def rTupU (K : PySem.W.Frag) : List V → Hp → VK → Prop := fun xs H Q => rTupS xs H Q ∨ ∃ p ys, xs = [.ref p] ∧ ((SqL K H p ys ∧ ∀ l o, TupO o → H l = none → Q (.ref l) (upd H l (.frz o (.tup ys)))) ∨ (SqT K H p ys ∧ Q (.ref p) H))
theorem pn_tupU : PN C (rTupU C.K) (p1 fTupU) := by
  intro U W H vs ss s Q lv hs hp q
  match ss, hs with
  | [], .nil => cases hp
  | _ :: _ :: _, .cons _ (.cons _ _) => cases hp
  | [t], .cons (a := x) xa .nil =>
    have hp : fTupU t = some s := hp
    by_cases z : ∃ w, t = .fz (.str w)
    · obtain ⟨w, rfl⟩ := z
      have hp : (if big w.length then some (S.fz (.tup (w.map fun c => D.str [c]))) else none) = some s := hp
      by_cases hb : big w.length = true
      · rw [if_pos hb] at hp; cases hp
        rw [sr_str xa]
        exact .inl ⟨w, rfl, big_le hb, fun l o ho hl => q _ _ (Got.newT (C := C) lv hl ho (rps_signs w))⟩
      · rw [if_neg hb] at hp; cases hp
    · have hp : fTuple t = some s := by
        cases t with
        | fz d => cases d with
          | str w => exact absurd ⟨_, rfl⟩ z
          | _ => exact hp
        | _ => exact hp
      exact .inr (pn_tuple U W H [x] [t] s Q lv (.cons xa .nil) hp q)
theorem x_tupU (hc : X.calm = true) (hm : X.mg "tuple" = none) (ha : GE X C a fa) (hK : C.K = X.K := by rfl) (hg : Gl X "tuple" := by rfl) (hs : starEach [a] X.env = (false, eval a X.env) :: starEach [] X.env := by rfl) : GE X C (.Call (.Name "tuple" p) [a] [] pos) (e1 (p1 fTupU) fa) :=
  ge_call pn_tupU (by rw [hK]; exact pe_callTy (cr_or (call_tupS hc) call_tuple_ofX) hg hm PyProof.Rows.boot_tuple (ga_cons ha ga_nil hs) (he := hs))
def fIs (a b : S) : Option S := match a, b with
  | .fz (.bl x), .fz (.bl y) => some (.fz (.bl (decide (x = y))))
  | a, b => fIsN a b
def fIsNot (a b : S) : Option S := match a, b with
  | .fz (.bl x), .fz (.bl y) => some (.fz (.bl (!decide (x = y))))
  | a, b => fIsNotN a b
def rIsNotU : R2 := fun x y H Q => (y = .non ∧ Q (.bl (!decide (x = .non))) H) ∨ ∃ a b, x = .bl a ∧ y = .bl b ∧ Q (.bl (!decide (a = b))) H
theorem pn_isNot : PN C (fun vs H Q => ∃ x y, vs = [x, y] ∧ rIsNotU x y H Q) (p2 fIsNot) := by
  refine pn2 (rr := rIsNotU) fun U W H x y a b s Q lv xa xb h q => ?_
  by_cases z : ∃ k l, a = .fz (.bl k) ∧ b = .fz (.bl l)
  · obtain ⟨k, l, rfl, rfl⟩ := z
    cases h
    exact .inr ⟨k, l, sr_bl xa, sr_bl xb, q _ _ (.same (.bl _))⟩
  · have h : fIsNotN a b = some s := by
      rw [← h]
      unfold fIsNot
      split
      · exact absurd ⟨_, _, rfl, rfl⟩ z
      · rfl
    obtain ⟨x', y', e, h1⟩ := pn_isNotN U W H [x, y] [a, b] s Q lv (.cons xa (.cons xb .nil)) h q
    cases e
    exact .inl h1
theorem op_isNotU : OpR X (compareOp .IsNot) rIsNotU := op_notN.or op_isnot_bl
theorem t_isNot (ha : GE X C a fa) (hb : GE X C b fb) : GT X C (.Compare a [.IsNot] [b] pos) (eBl (e2 (p2 fIsNot) fa fb)) := gt_cmp op_isNotU pn_isNot ha hb (nobehind _ (by decide) (by decide))
end
@[simp] theorem listU_o {ds : List D} : fListU (.ol ds) = fList (.ol ds) := rfl
@[simp] theorem listU_b {ds : List D} : fListU (.br ds) = fList (.br ds) := rfl
@[simp] theorem listU_k {ds : List D} : fListU (.lk ds) = fList (.lk ds) := rfl
@[simp] theorem listU_l {ds : List D} : fListU (.fz (.lst ds)) = fList (.fz (.lst ds)) := rfl
@[simp] theorem listU_t {ds : List D} : fListU (.fz (.tup ds)) = fList (.fz (.tup ds)) := rfl
@[simp] theorem listU_c {ds : List D} : fListU (.fz (.scr ds)) = fList (.fz (.scr ds)) := rfl
@[simp] theorem tupU_o {ds : List D} : fTupU (.ol ds) = fTuple (.ol ds) := rfl
@[simp] theorem tupU_b {ds : List D} : fTupU (.br ds) = fTuple (.br ds) := rfl
@[simp] theorem tupU_k {ds : List D} : fTupU (.lk ds) = fTuple (.lk ds) := rfl
@[simp] theorem tupU_l {ds : List D} : fTupU (.fz (.lst ds)) = fTuple (.fz (.lst ds)) := rfl
@[simp] theorem tupU_t {ds : List D} : fTupU (.fz (.tup ds)) = fTuple (.fz (.tup ds)) := rfl
@[simp] theorem is_bb {a b : Bool} : fIs (.fz (.bl a)) (.fz (.bl b)) = some (.fz (.bl (decide (a = b)))) := rfl
@[simp] theorem isNot_bb {a b : Bool} : fIsNot (.fz (.bl a)) (.fz (.bl b)) = some (.fz (.bl (!decide (a = b)))) := rfl
@[simp] theorem is_n {d : D} : fIs (.fz d) (.fz .non) = some (.fz (.bl d.isNon)) := by cases d <;> rfl
@[simp] theorem isNot_n {d : D} : fIsNot (.fz d) (.fz .non) = some (.fz (.bl (!d.isNon))) := by cases d <;> rfl
end GB
namespace GB
open PySem PySem.Spec PyProof.Rows L2
section
variable {fa fb : Rho → Rs Opd} {r : Rho}
@[simp] theorem s_eAnd : eAnd fa fb r = (fa r).bind fun o r1 => match blOf o r1 with | some true => fb r1 | some false => .ok (.val (.fz (.bl false))) r1 | none => .st := rfl
@[simp] theorem s_eOr : eOr fa fb r = (fa r).bind fun o r1 => match blOf o r1 with | some true => .ok (.val (.fz (.bl true))) r1 | some false => fb r1 | none => .st := rfl
@[simp] theorem s_eNotV : eNot fa r = (fa r).bind fun o r1 => match blOf o r1 with | some b => .ok (.val (.fz (.bl (!b)))) r1 | none => .st := rfl
@[simp] theorem blOf_val {b : Bool} : blOf (.val (.fz (.bl b))) r = some b := rfl
@[simp] theorem blOf_loc {i : Nat} : blOf (.loc i) r = match (r[i]?).join with | some (.fz (.bl b)) => some b | _ => none := rfl
end
@[simp] theorem big_0 : big 0 = true := rfl
@[simp] theorem big_1 : big 1 = true := rfl
@[simp] theorem big_2 : big 2 = true := rfl
@[simp] theorem big_3 : big 3 = true := rfl
@[simp] theorem big_4 : big 4 = true := rfl
@[simp] theorem big_5 : big 5 = true := rfl
@[simp] theorem big_6 : big 6 = true := rfl
@[simp] theorem big_7 : big 7 = true := rfl
@[simp] theorem big_8 : big 8 = true := rfl
@[simp] theorem big_9 : big 9 = true := rfl
@[simp] theorem big_10 : big 10 = true := rfl
@[simp] theorem big_11 : big 11 = true := rfl
@[simp] theorem big_12 : big 12 = true := rfl
@[simp] theorem big_13 : big 13 = true := rfl
@[simp] theorem big_14 : big 14 = true := rfl
section
variable {n : Nat} {f : List D → Rho → Option Rho} {fg : D → Rho → Option Rho} {d : D} {ds : List D} {r : Rho}
@[simp] theorem s_gTp : gTp n f (.tup ds) r = if ds.length = n then f ds r else none := rfl
@[simp] theorem s_gsCons : gsCons fg f (d :: ds) r = match fg d r with | some r1 => f ds r1 | none => none := rfl
@[simp] theorem s_gsNil : gsNil [] r = some r := rfl
end
@[simp] theorem s_eDic0 {r : Rho} : eDic0 r = .ok (.val (.od [])) r := rfl
@[simp] theorem merge_one {k : Key} {v : D} : mergeD [(k, v)] = [(k, v)] := rfl
@[simp] theorem s_frzD {kvs : List (Key × D)} {r : Rho} : frz1 (.val (.od kvs)) r = some (.dic (kvs.map Prod.fst) (kvs.map Prod.snd), r) := rfl
end GB
namespace GB
open PySem PySem.Spec PyProof.Rows L2
@[simp] theorem s_eChain {p p' : Pr} {fa fb fc : Rho → Rs Opd} {r : Rho} : eChain p p' fa fb fc r = (fa r).bind fun o1 r1 => (fb r1).bind fun o2 r2 => (eP p [o1, o2] r2).bind fun o3 r3 => match o3 with
  | .val (.fz (.bl true)) => (fc r3).bind fun o4 r4 => eP p' [o2, o4] r4
  | .val (.fz (.bl false)) => .ok (.val (.fz (.bl false))) r3
  | _ => .st := rfl
/-- a thing that may be compared -/
def eqT (d : D) : Prop := d.py.canLay0 = true ∧ d.py.depth ≤ 9 ∧ d.py.hasDict = false
theorem eqL.T {d : D} (h : eqL d) : eqT d := by
  obtain ⟨h1, h2, h3⟩ := eqL_spec h
  exact ⟨h1, by omega, h3⟩
theorem eqT_all : ∀ {ds : List D}, (∀ d ∈ ds, eqT d) → PyData.canLayAll0 (pyAll ds) = true ∧ PyData.depthAll (pyAll ds) ≤ 9 ∧ PyData.hasDictAll (pyAll ds) = false
  | [], _ => ⟨rfl, Nat.zero_le _, rfl⟩
  | d :: ds, h => by
    obtain ⟨h1, h2, h3⟩ := h d (List.mem_cons_self ..)
    obtain ⟨g1, g2, g3⟩ := eqT_all fun d hd => h d (List.mem_cons_of_mem _ hd)
    exact ⟨by rw [pyAll, PyData.canLayAll0, h1, g1]; rfl, by rw [pyAll, PyData.depthAll]; exact Nat.max_le.mpr ⟨h2, g2⟩, by rw [pyAll, PyData.hasDictAll, h3, g3]; rfl⟩
theorem fitT_lst {ds : List D} (h : ∀ d ∈ ds, eqT d) : (D.lst ds).fit = true := by
  obtain ⟨h1, h2, h3⟩ := eqT_all h
  have e1' : (D.lst ds).py.canLay0 = true := by rw [D.py, PyData.canLay0]; exact h1
  have e2' : (D.lst ds).py.depth ≤ 64 := by rw [D.py, PyData.depth]; omega
  have e3' : (D.lst ds).py.hasDict = false := by rw [D.py, PyData.hasDict]; exact h3
  show (((D.lst ds).py.canLay0 && decide ((D.lst ds).py.depth ≤ 64)) && !(D.lst ds).py.hasDict) = true
  rw [e1', e3', decide_eq_true e2']; rfl
theorem tidy_ix : ∀ {u : List Nat}, W u → (tidy u = true ↔ ∀ k x y, u[k]? = some x → u[k + 1]? = some y → y ≠ bk x)
  | [], _ => by simp [tidy]
  | [x], _ => by
    constructor
    · intro _ k a b h1 h2
      have : k + 1 < 1 := lt_of_at h2
      omega
    · intro _; rfl
  | x :: y :: w, h => by
    have ih := tidy_ix (u := y :: w) h.tail
    show (decide (x ≠ bk y) && tidy (y :: w)) = true ↔ _
    rw [Bool.and_eq_true, decide_eq_true_iff, ih]
    have hx := h.head
    have hy := h.tail.head
    constructor
    · rintro ⟨h1, h2⟩ k a b ha hb
      cases k with
      | zero =>
        cases ha
        cases hb
        exact fun e => h1 (by rw [e, bk_bk hx])
      | succ k => exact h2 k a b (by simpa using ha) (by simpa using hb)
    · intro hh
      refine ⟨fun e => hh 0 x y rfl rfl (by rw [e, bk_bk hy]), fun k a b ha hb => hh (k + 1) a b (by simpa using ha) (by simpa using hb)⟩
end GB
namespace GB
open PySem PySem.Spec PyProof.Rows L2
theorem red_mid {a v b : List Nat} (ha : W a) (hv : W v) (hb : W b) : red (a ++ red v ++ b) = red (a ++ v ++ b) := by
  rw [← red_l (ha.app (red_w hv)) hb, red_r ha hv, red_l (ha.app hv) hb]
theorem red_back' {w : List Nat} (h : W w) : red (bkw w ++ w) = [] := by
  have := red_back h.bkw
  rw [bkw_bkw h] at this
  exact this
/-- what undoes the same is the same -/
theorem red_uniq {a x y : List Nat} (ha : W a) (hx : W x) (hy : W y) (e1' : red (a ++ x) = []) (e2' : red (a ++ y) = []) : red x = red y := by
  have key : ∀ {z : List Nat}, W z → red (a ++ z) = [] → red z = red (bkw a) := fun {z} hz e => by
    have h1 : red (bkw a ++ red (a ++ z)) = red (bkw a ++ (a ++ z)) := red_r ha.bkw (ha.app hz)
    rw [e, List.append_nil, ← List.append_assoc, ← red_l (ha.bkw.app ha) hz, red_back' ha, List.nil_append] at h1
    exact h1.symm
  rw [key hx e1', key hy e2']
theorem red_bkw {v : List Nat} (h : W v) : red (bkw (red v)) = red (bkw v) := by
  refine red_uniq h (red_w h).bkw h.bkw ?_ (red_back h)
  rw [← red_l h (red_w h).bkw]
  exact red_back (red_w h)
/-- what a letter becomes -/
def bec (cs : List (List Nat)) (c : Nat) : List Nat := if 97 ≤ c then cs.getD (num c) [] else bkw (cs.getD (num c) [])
def sub (cs : List (List Nat)) (w : List Nat) : List Nat := w.flatMap (bec cs)
/-- words of letters -/
def Ws (cs : List (List Nat)) : Prop := ∀ w ∈ cs, W w
theorem Ws.at {cs : List (List Nat)} (h : Ws cs) (i : Nat) : W (cs.getD i []) := by
  rw [List.getD_eq_getElem?_getD]
  cases e : cs[i]? with
  | none => exact .nil
  | some w => exact h w (List.mem_of_getElem? e)
theorem bec_w {cs : List (List Nat)} (h : Ws cs) (c : Nat) : W (bec cs c) := by
  unfold bec
  split
  · exact h.at _
  · exact (h.at _).bkw
theorem sub_w {cs : List (List Nat)} (h : Ws cs) (w : List Nat) : W (sub cs w) := fun c hc => by
  obtain ⟨d, _, hd⟩ := List.mem_flatMap.mp hc
  exact bec_w h d c hd
theorem num_bk {c : Nat} (h : isL c = true) : num (bk c) = num c := by
  have h := isL_iff.mp h
  unfold num bk
  split <;> split <;> split <;> omega
theorem bec_bk {cs : List (List Nat)} (h : Ws cs) {c : Nat} (hc : isL c = true) : bec cs (bk c) = bkw (bec cs c) := by
  have nb := num_bk hc
  have h' := isL_iff.mp hc
  unfold bec
  rw [nb]
  by_cases z : 97 ≤ c
  · have : ¬ 97 ≤ bk c := by unfold bk; split <;> omega
    rw [if_pos z, if_neg this]
  · have : 97 ≤ bk c := by unfold bk; split <;> omega
    rw [if_neg z, if_pos this, bkw_bkw (h.at _)]
theorem sub_app (cs : List (List Nat)) (u v : List Nat) : sub cs (u ++ v) = sub cs u ++ sub cs v := List.flatMap_append
theorem sub_cons (cs : List (List Nat)) (c : Nat) (v : List Nat) : sub cs (c :: v) = bec cs c ++ sub cs v := List.flatMap_cons
theorem sub_nil (cs : List (List Nat)) : sub cs [] = [] := rfl
theorem sub_bkw {cs : List (List Nat)} (h : Ws cs) : ∀ {w : List Nat}, W w → sub cs (bkw w) = bkw (sub cs w)
  | [], _ => rfl
  | c :: w, hw => by
    have e : bkw (c :: w) = bkw w ++ [bk c] := by unfold bkw; simp
    rw [e, sub_app, sub_bkw h hw.tail, sub_cons cs c w, bkw_app, sub_cons, sub_nil, List.append_nil, bec_bk h hw.head]
/-- letters fall out ahead of the change, or behind it -/
theorem sub_red {cs : List (List Nat)} (h : Ws cs) {u : List Nat} (hu : W u) : red (sub cs (red u)) = red (sub cs u) := by
  have key : ∀ (w t : List Nat), Ok t → W t → W w → red (sub cs (t.reverse ++ w)) = red (sub cs (run t w).reverse) := by
    intro w
    induction w with
    | nil => intro t _ _ _; rw [List.append_nil]; rfl
    | cons c w ih =>
      intro t ht wt hw
      rw [show run t (c :: w) = run (step t c) w from rfl, ← ih (step t c) (step_ok ht) (step_w wt hw.head) hw.tail]
      cases t with
      | nil => rfl
      | cons x t =>
        unfold step
        dsimp only
        by_cases e : x = bk c
        · rw [if_pos e, e]
          have e2' : (bk c :: t).reverse ++ c :: w = t.reverse ++ ([bk c, c] ++ w) := by simp
          rw [e2', sub_app, sub_app cs [bk c, c], sub_app]
          have e3' : sub cs [bk c, c] = bkw (bec cs c) ++ bec cs c := by
            rw [sub_cons, sub_cons, sub_nil, List.append_nil, bec_bk h hw.head]
          rw [e3', ← List.append_assoc, ← red_mid (sub_w h _) ((bec_w h c).bkw.app (bec_w h c)) (sub_w h _), red_back' (bec_w h c), List.append_nil]
        · rw [if_neg e]
          simp
  have := key u [] ok_nil .nil hu
  rw [List.reverse_nil, List.nil_append] at this
  exact this.symm
/-- put in reduced, or not -/
theorem sub_congr {cs ds : List (List Nat)} (hc : Ws cs) (hd : Ws ds) (e : ∀ i, red (cs.getD i []) = red (ds.getD i [])) : ∀ w : List Nat, red (sub cs w) = red (sub ds w)
  | [] => rfl
  | c :: w => by
    have eb : red (bec cs c) = red (bec ds c) := by
      unfold bec
      split
      · exact e _
      · rw [← red_bkw (hc.at _), e, red_bkw (hd.at _)]
    rw [sub_cons, sub_cons, ← red_l (bec_w hc c) (sub_w hc w), ← red_r (red_w (bec_w hc c)) (sub_w hc w), sub_congr hc hd e w, red_r (red_w (bec_w hc c)) (sub_w hd w), eb, red_l (bec_w hd c) (sub_w hd w)]
/-- one map, then the other -/
def thenL (one other : List (List Nat)) : List (List Nat) := one.map fun w => red (sub other w)
theorem thenL_w {one other : List (List Nat)} (h : Ws other) : Ws (thenL one other) := fun w hw => by
  obtain ⟨u, _, rfl⟩ := List.mem_map.mp hw
  exact red_w (sub_w h u)
theorem getD_map (f : List Nat → List Nat) (hf : f [] = []) (l : List (List Nat)) (i : Nat) : (l.map f).getD i [] = f (l.getD i []) := by
  rw [List.getD_eq_getElem?_getD, List.getD_eq_getElem?_getD, List.getElem?_map]
  cases l[i]? <;> simp [hf]
theorem sub_sub {one other : List (List Nat)} (h1 : Ws one) (h2 : Ws other) : ∀ {w : List Nat}, W w → sub (one.map (sub other)) w = sub other (sub one w)
  | [], _ => rfl
  | c :: w, hw => by
    rw [sub_cons, sub_cons, sub_app, sub_sub h1 h2 hw.tail]
    congr 1
    unfold bec
    rw [getD_map _ rfl]
    split
    · rfl
    · exact (sub_bkw h2 (h1.at _)).symm
theorem then_word {one other : List (List Nat)} (h1 : Ws one) (h2 : Ws other) {w : List Nat} (hw : W w) : red (sub (thenL one other) w) = red (sub other (red (sub one w))) := by
  rw [sub_red h2 (sub_w h1 w), ← sub_sub h1 h2 hw]
  refine sub_congr (thenL_w h2) (fun u hu => ?_) (fun i => ?_) w
  · obtain ⟨v, _, rfl⟩ := List.mem_map.mp hu
    exact sub_w h2 v
  · unfold thenL
    rw [getD_map _ rfl, getD_map _ rfl, red_red (sub_w h2 _)]
/-- the letters themselves -/
def plainL (m : Nat) : List (List Nat) := ([97, 98, 99, 100, 101, 102].take m).map fun c => [c]
theorem plainL_w (m : Nat) : Ws (plainL m) := fun w hw => by
  obtain ⟨c, hc, rfl⟩ := List.mem_map.mp hw
  have hc := List.mem_of_mem_take hc
  exact .cons (isL_iff.mpr (by simp at hc; omega)) .nil
theorem plainL_at {m i : Nat} (hm : m ≤ 6) (hi : i < m) : (plainL m).getD i [] = [97 + i] := by
  have key : ∀ m, m ≤ 6 → ∀ i, i < m → (plainL m).getD i [] = [97 + i] := by decide
  exact key m hm i hi
/-- a word of so many letters -/
def Wm (m : Nat) (w : List Nat) : Prop := W w ∧ ∀ c ∈ w, num c < m
theorem sub_plain {m : Nat} (hm : m ≤ 6) : ∀ {w : List Nat}, Wm m w → sub (plainL m) w = w
  | [], _ => rfl
  | c :: w, ⟨h1, h2⟩ => by
    rw [sub_cons, sub_plain hm ⟨h1.tail, fun d hd => h2 d (List.mem_cons_of_mem _ hd)⟩]
    have hc := isL_iff.mp h1.head
    have e : bec (plainL m) c = [c] := by
      unfold bec
      rw [plainL_at hm (h2 c (List.mem_cons_self ..))]
      unfold num
      split
      · congr 1
        omega
      · show [bk (97 + (c - 65))] = [c]
        unfold bk
        rw [if_pos (by omega)]
        congr 1
        omega
    rw [e]; rfl
theorem red_sub_mem : ∀ (w : List Nat) (s : List Nat) (c : Nat), c ∈ run s w → c ∈ s ∨ c ∈ w
  | [], s, c, h => .inl h
  | x :: w, s, c, h => by
    rcases red_sub_mem w (step s x) c h with h | h
    · have : c ∈ s ∨ c = x := by
        cases s with
        | nil => exact .inr (by simpa [step] using h)
        | cons y s =>
          unfold step at h
          dsimp only at h
          split at h
          · exact .inl (List.mem_cons_of_mem _ h)
          · rcases List.mem_cons.mp h with h | h
            · exact .inr h
            · exact .inl h
      rcases this with h | h
      · exact .inl h
      · exact .inr (h ▸ List.mem_cons_self ..)
    · exact .inr (List.mem_cons_of_mem _ h)
theorem red_Wm {m : Nat} {w : List Nat} (h : Wm m w) : Wm m (red w) := ⟨red_w h.1, fun c hc => by
  rcases red_sub_mem w [] c (List.mem_reverse.mp hc) with z | z
  · cases z
  · exact h.2 c z⟩
theorem sub_len {cs : List (List Nat)} {B : Nat} (h : ∀ w ∈ cs, w.length ≤ B) : ∀ w : List Nat, (sub cs w).length ≤ w.length * B
  | [] => Nat.zero_le _
  | c :: w => by
    have e : (bec cs c).length ≤ B := by
      have : (cs.getD (num c) []).length ≤ B := by
        rw [List.getD_eq_getElem?_getD]
        cases e : cs[num c]? with
        | none => exact Nat.zero_le _
        | some w => exact h w (List.mem_of_getElem? e)
      unfold bec
      split
      · exact this
      · rw [bkw_len]; exact this
    rw [sub_cons, List.length_append, List.length_cons, Nat.add_mul]
    have := sub_len h w
    omega
theorem sgn_Wm {m c : Nat} (hm : m ≤ 6) (h : c ∈ sgn m) : isL c = true ∧ num c < m := (sgn_mem hm).mp h
end GB
namespace GB
open PySem PySem.Spec PyProof.Rows L2
section
variable {X : Cx} {C : Ct} {es : List Expr} {pos : Pos}
theorem pg_or {tg : Expr} {t1 t2 : TG} (h1 : PG X tg t1) (h2 : PG X tg t2) : PG X tg fun v σ H Q => t1 v σ H Q ∨ t2 v σ H Q :=
  ⟨fun pins s σ H v u Q I r h => h.elim (h1.run pins s σ H v u Q I r) (h2.run pins s σ H v u Q I r)⟩
/-- (a, b, ..) = a tuple, or a list -/
def gTpU (n : Nat) (f : List D → Rho → Option Rho) : D → Rho → Option Rho := fun d r => match d with
  | .tup ds => if ds.length = n then f ds r else none
  | .lst ds => if ds.length = n then f ds r else none
  | _ => none
theorem gg_tupU {k : Nat} {f : List D → Rho → Option Rho} {n : Nat} {t : List Nat} (hc : X.calm = true) (h : GGs X C es t f) (hK : C.K = X.K := by rfl)
    (hn : (assignEach es X.env).length = n := by rfl) (hst : (assignEach es X.env).findIdx? (·.1) = none := by rfl) : GG X C (.Tuple es k pos) t (gTpU n f) := by
  refine weakG (pg_or (pg_tup hc h hn hst) (pg_unl hc h hn hst)) fun v σ H Q h => ?_
  obtain ⟨U, r, d, s, x, h⟩ := h
  have x := x.tree
  cases x with
  | @tup a xs ds q xs' =>
    unfold gTpU at h
    dsimp only at h
    by_cases hl : ds.length = n
    · rw [if_pos hl] at h
      exact .inl ⟨a, xs, rfl, hK ▸ q.sq, xs'.len.trans hl, U, r, ds, s, xs', h⟩
    · rw [if_neg hl] at h
      exact h.elim
  | @lst a xs ds q n' xs' =>
    unfold gTpU at h
    dsimp only at h
    by_cases hl : ds.length = n
    · rw [if_pos hl] at h
      exact .inr ⟨a, xs, rfl, .inl (.inl q), xs'.len.trans hl, U, r, ds, s, xs', h⟩
    · rw [if_neg hl] at h
      exact h.elim
  | _ => exact h.elim
end
section
variable {n : Nat} {f : List D → Rho → Option Rho} {ds : List D} {r : Rho} {fg : D → Rho → Option Rho} {fe : Rho → Rs Opd}
@[simp] theorem s_gTpU : gTpU n f (.tup ds) r = if ds.length = n then f ds r else none := rfl
@[simp] theorem s_gTpUl : gTpU n f (.lst ds) r = if ds.length = n then f ds r else none := rfl
@[simp] theorem s_fAsg : fAsg fg fe r = ofR (fe r) fun o r1 => match frz1 o r1 with
  | some (d, r2) => (match fg d r2 with | some r3 => .nx r3 | none => .st)
  | none => .st := rfl
end
theorem join_ws {ws : List (List Nat)} (h : (ws.map List.length).sum ≤ 16777216) : fJoin (.fz (.str [])) (.ol (ws.map D.str)) = some (.fz (.str ws.flatten)) := by
  rw [s_fJoin, strsOf_ws]
  dsimp only
  rw [joinN_nil, if_pos (big_of (by simpa using h))]
theorem sum_flat (ws : List (List Nat)) : (ws.map List.length).sum = ws.flatten.length := by rw [List.length_flatten]
theorem small_iff {c : Nat} (h : isL c = true) : c ∈ [97, 98, 99, 100, 101, 102] ↔ 97 ≤ c := by
  have h := isL_iff.mp h
  simp
  omega
end GB
namespace GB
open PySem PySem.Spec PyProof.Rows L2
@[simp] theorem tupO {ds : List D} : fTuple (.ol ds) = some (.fz (.tup ds)) := rfl
@[simp] theorem listO {ds : List D} : fList (.ol ds) = some (.ol ds) := rfl
end GB
namespace GB
open PySem PySem.Spec PyProof.Rows L2
end GB
namespace GB
open PySem PySem.Spec PyProof.Rows L2
/-- what is asked of the class whose __init__ is called -/
structure BaseC (K : PySem.W.Frag) (mg : Str → Option Value) (B : Str) : Prop where
  ex : ∃ R : Addr, mg B = some (.ref R) ∧ PySem.W.readsIn K R (.type "type") = true ∧ PySem.W.specialIn K (.ref R) "__getattribute__" = some (some (.builtin "type.__getattribute__")) ∧
    PySem.W.findCls K (.ref R) (.type "type") "__init__" = some (.val (.builtin "ValueError.__init__"))
section
variable {X : Cx} {e : Expr} {es : List Expr} {ta : TA} {p1 p2 pos : Pos} {B : Str}
theorem pe_ownInit {pl : Sem Bool} (b : BaseC X.K X.mg B) (ha : PA X (e :: es) ta) (hg : Gl X B := by rfl) (hdb : (B == ("__debug__" : Str)) = false := by decide)
    (hc : eval (.Call (.Attribute (.Name B p1) "__init__" p2) (e :: es) [] pos) X.env = (do
      let ov ← eval (.Name B p1) X.env
      standAt p2.atName
      let (f, first) ← holding [ov] (getMethod ov "__init__" pl)
      callWith pos f first (backTo pos (starEach (e :: es) X.env)) (backToKw pos (keywordEach [] X.env))) := by rfl)
    (he : starEach (e :: es) X.env = (false, eval e X.env) :: starEach es X.env := by rfl) (hpl : (backTo pos (starEach es X.env)).any (·.1) = false := by rfl) :
    PE X (.Call (.Attribute (.Name B p1) "__init__" p2) (e :: es) [] pos) (tVeI X.K ta) := by
  obtain ⟨R, hm, hr, hs, hf⟩ := b.ex
  refine ⟨fun pins s σ H Q I h => ?_⟩
  refine PySem.W.methodCall_KW (ld_glob I hg hm ?_ hdb) hc
  refine PySem.W.method_cls I.kIn hs (PySem.W.cls_value I.kIn hr hf (by decide +kernel) ?_)
  show wpAny _ _ (callWith pos (Value.builtin "ValueError.__init__") [] (backTo pos (starEach (e :: es) X.env)) []) _ _ _
  refine PyProof.Rows.callWith_method1 (thn (ha.run pos pins _ σ H _ (I.tok _) h) fun us s1 ⟨vs, H1, I1, r1, a, C, ws, ev, hl, T, ea, q⟩ => ?_) he hpl
  subst ev
  cases r1 with
  | @cons _ u0 _ ur ra rw' =>
    obtain rfl : u0 = Value.ref a := ra
    have hlen : ur.length ≤ sizeLine := by
      rw [← Paired.length rw', sizeLine_eq]
      omega
    exact oinit_ok T I1 ea hlen fun s' J => ⟨.non, H1, J, rfl, q⟩
end
structure XDone (H H2 : Hp) (a C d : Addr) (fs : List (Str × V)) : Prop where
  keep : ∀ b o, b ≠ a → b ≠ d → H b = some o → H2 b = some o
  obj : H2 a = some (exo a C (some d))
  dic : H2 d = some (exd d fs)
def tAsgs (K : PySem.W.Frag) : List (Str × Nat) → TS
  | [] => tNext
  | (f, i) :: l => tSeq (tOst K f (tVar 0) (tVar i)) (tAsgs K l)
/-- the values that are stored -/
inductive Vals' (σ : St) : List (Str × Nat) → List (Str × V) → Prop
  | nil : Vals' σ [] []
  | cons {f : Str} {i : Nat} {v : V} {l : List (Str × Nat)} {m : List (Str × V)} : σ[i]? = some (some v) → Vals' σ l m → Vals' σ ((f, i) :: l) ((f, v) :: m)
theorem asgs_more {K : PySem.W.Frag} {a C d : Addr} {σ : St} {D : Ends} (T : OexC K C) (h0 : σ[0]? = some (some (V.ref a))) (hda : d ≠ a) :
    ∀ (l : List (Str × Nat)) (m fs : List (Str × V)) (H : Hp), Vals' σ l m → (∀ p ∈ l, PySem.W.findIn K (.ref C) p.1 = some none) → fs.length + l.length ≤ 900 → H a = some (exo a C (some d)) → H d = some (exd d fs) →
      (∀ H2, XDone H H2 a C d (m.reverse ++ fs) → D.nx σ H2) → tAsgs K l D σ H
  | _, _, fs, H, .nil, _, _, ea, ed, k => k H ⟨fun _ _ _ _ h => h, ea, ed⟩
  | (f, i) :: l, (_, v) :: m, fs, H, .cons hi t, hn, hl, ea, ed, k => by
    refine ⟨v, hi, .ref a, h0, a, C, rfl, T, hn (f, i) (List.mem_cons_self ..), .inr ⟨d, fs, ea, ed, by simp at hl; omega, ?_⟩⟩
    refine asgs_more T h0 hda l m ((f, v) :: fs) _ t (fun p hp => hn p (List.mem_cons_of_mem _ hp)) (by simp at hl ⊢; omega) (by rw [upd_ne (Ne.symm hda)]; exact ea) upd_same fun H2 x => k H2 ⟨fun b o n1 n2 h => x.keep b o n1 n2 (by rw [upd_ne n2]; exact h), x.obj, ?_⟩
    have := x.dic
    rw [this, List.reverse_cons, List.append_assoc]; rfl
theorem asgs_all {K : PySem.W.Frag} {a C : Addr} {σ : St} {D : Ends} (T : OexC K C) (h0 : σ[0]? = some (some (V.ref a))) :
    ∀ (l : List (Str × Nat)) (m : List (Str × V)) (H : Hp), l ≠ [] → Vals' σ l m → (∀ p ∈ l, PySem.W.findIn K (.ref C) p.1 = some none) → l.length ≤ 900 → H a = some (exo a C none) →
      (∀ d H2, H d = none → d ≠ a → XDone H H2 a C d m.reverse → D.nx σ H2) → tAsgs K l D σ H
  | (f, i) :: l, (_, v) :: m, H, _, .cons hi t, hn, hl, ea, k => by
    refine ⟨v, hi, .ref a, h0, a, C, rfl, T, hn (f, i) (List.mem_cons_self ..), .inl ⟨ea, fun dx hd hda => ?_⟩⟩
    have kp : ∀ b o, b ≠ a → b ≠ dx → H b = some o → upd (upd H dx (exd dx [(f, v)])) a (exo a C (some dx)) b = some o := fun b o n1 n2 h => by rw [upd_ne n1, upd_ne n2]; exact h
    refine asgs_more T h0 hda l m [(f, v)] _ t (fun p hp => hn p (List.mem_cons_of_mem _ hp)) (by simp at hl ⊢; omega) upd_same (by rw [upd_ne hda]; exact upd_same) fun H2 x => k dx H2 hd hda ⟨fun b o n1 n2 h => x.keep b o n1 n2 (kp b o n1 n2 h), x.obj, ?_⟩
    have := x.dic
    rw [this, List.reverse_cons]
def initR (ds : List D) : Rho := none :: ds.map fun d => some (.fz d)
def spInit (K : PySem.W.Frag) (fields : List Str) (fm : Rho → Rs Opd) : Sp := fun vs H Q _ => ∃ (a C : Addr) (ws : List V) (ds : List D) (W : Addr → Prop),
  vs = .ref a :: ws ∧ ws.length = fields.length ∧ OexC K C ∧ (∀ f ∈ fields, PySem.W.findIn K (.ref C) f = some none) ∧ H a = some (exo a C none) ∧ (∀ b, W b → Lv H b) ∧ Rps K W H ws ds ∧ (∃ o r, fm (initR ds) = .ok o r) ∧
  ∀ d H2, H d = none → d ≠ a → XDone H H2 a C d (fields.zip ws).reverse → Q .non H2
theorem zip_fst_mem {α β : Type} : ∀ (xs : List α) (ys : List β) (p : α × β), p ∈ xs.zip ys → p.1 ∈ xs
  | [], _, _, h => by simp at h
  | _ :: _, [], _, h => by simp at h
  | x :: xs, y :: ys, p, h => by
    rw [List.zip_cons_cons] at h
    rcases List.mem_cons.mp h with rfl | h
    · exact List.mem_cons_self ..
    · exact List.mem_cons_of_mem _ (zip_fst_mem xs ys p h)
theorem vals_zip {σ : St} : ∀ (fields : List Str) (ws : List V) (k : Nat), fields.length = ws.length → (∀ (i : Nat) (v : V), ws[i]? = some v → σ[k + i]? = some (some v)) → Vals' σ (fields.zip ((List.range' k fields.length))) (fields.zip ws)
  | [], [], _, _, _ => .nil
  | f :: fields, w :: ws, k, hl, h => by
    rw [List.length_cons, List.range'_succ, List.zip_cons_cons, List.zip_cons_cons]
    refine .cons (by simpa using h 0 w rfl) (vals_zip fields ws (k + 1) (by simpa using hl) fun i v e => ?_)
    have := h (i + 1) v (by simpa using e)
    rw [← this]; congr 1; omega
  | [], _ :: _, _, h, _ => by simp at h
  | _ :: _, [], _, h, _ => by simp at h
/-- THE RULE for an own exception's __init__: the message by its function, then the fields -/
theorem init_ok {P : Program} {w : World} {K : PySem.W.Frag} {mg : Str → Option Value} {base : Heap} {qual : Str} {st : Stmt} {fI : Addr} {fd : FuncData} {N fields : List Str} {fm : Rho → Rs Opd} (F : L2.Fun K "__init__" qual st fI fd) (Sc : FnScope N N (defScope st)) (hN : N.length = fields.length + 1) (hf : fields ≠ []) (hfl : fields.length ≤ 900)
    (hb : ∀ (cdv : Value) (A : Around) (l : List Env) (t : Shared) (H : Hp) (E : XK), PSs (bodyCx P w K mg base N qual st fI cdv A l t H E) (defBody st) (tSeq (tDrop (tVeI K (tCons (tVar 0) (tCons (tE (bodyCt K mg E) fm) tNil)))) (tAsgs K (fields.zip (List.range' 1 fields.length))))) :
    FnOk P w K mg base (L2.CX P w) 1 fI fd N (spInit K fields fm) := by
  refine F.okX (k := 0) Sc (fun vs H Q E h => ?_) (fun cdv A l t H vs Q E hr h => ⟨_, hb cdv A l t H E, ?_⟩)
  · obtain ⟨a, C, ws, ds, W, rfl, hl, _⟩ := h
    rw [List.length_cons, hl, hN]
  · obtain ⟨a, C, ws, ds, W, rfl, hl, T, hn, ea, lv, rps, ⟨o, ro, hm⟩, k⟩ := h
    have es : L2.start N (V.ref a :: ws) = some (V.ref a) :: ws.map some := by
      unfold L2.start
      rw [hN, List.length_cons, hl, Nat.sub_self]
      simp
    rw [es]
    have noOwn : ∀ b, ¬ Own (some (V.ref a) :: ws.map some) (initR ds) b := by
      rintro b ⟨i, s, h1, h2, _⟩
      match i, h1 with
      | 0, h1 => cases h1
      | i + 1, h1 =>
        simp only [initR, List.getElem?_cons_succ, List.getElem?_map, Option.map_eq_some_iff] at h1
        obtain ⟨d, _, e⟩ := h1
        cases e; cases h2
    have wn : Wn W (some (V.ref a) :: ws.map some) (initR ds) = W := by
      funext b
      exact propext ⟨fun z => z.elim (fun z => (noOwn b z).elim) id, .inr⟩
    have sit : Sit (bodyCt K mg E) W H (some (V.ref a) :: ws.map some) (initR ds) := by
      refine ⟨by simp [initR, rps.len], fun i s h => ?_, fun i j s u v h1 q1 => ?_, fun b h => (noOwn b h).elim, lv⟩
      · match i, h with
        | 0, h => cases h
        | i + 1, h =>
          simp only [initR, List.getElem?_cons_succ, List.getElem?_map, Option.map_eq_some_iff] at h
          obtain ⟨d, hd, e⟩ := h
          cases e
          rw [wn]
          have key : ∀ (i : Nat) (ws : List V) (ds : List D), Rps K W H ws ds → ds[i]? = some d → ∃ v, ws[i]? = some v ∧ Rp K W H v d := by
            intro i
            induction i with
            | zero => intro ws ds r hd; cases r with | nil => cases hd | cons x t => cases hd; exact ⟨_, rfl, x⟩
            | succ i ih => intro ws ds r hd; cases r with | nil => cases hd | cons x t => exact ih _ _ t (by simpa using hd)
          obtain ⟨v, hv, x⟩ := key i ws ds rps hd
          exact ⟨v, by simp [hv], .fz x⟩
      · match i, h1 with
        | 0, h1 => cases h1
        | i + 1, h1 =>
          simp only [initR, List.getElem?_cons_succ, List.getElem?_map, Option.map_eq_some_iff] at h1
          obtain ⟨d, _, e⟩ := h1
          cases e; cases q1
    refine ⟨V.ref a, rfl, W, initR ds, sit, ?_⟩
    rw [hm]
    intro v H1 U1 s1 a1 p1 o1 n1
    refine ⟨a, C, [v], rfl, by simp, T, a1.keep a _ ea (noOwn a), ?_⟩
    refine asgs_all T rfl _ (fields.zip ws) H1 (fun z => ?_) (vals_zip fields ws 1 hl.symm fun i v e => by rw [Nat.add_comm]; simp [e]) (fun p hp => hn _ (zip_fst_mem _ _ _ hp)) (by rw [List.length_zip, List.length_range']; omega) (a1.keep a _ ea (noOwn a)) fun d H2 hd hda x => ?_
    · have z := congrArg List.length z
      rw [List.length_zip, List.length_range', Nat.min_self] at z
      exact hf (List.length_eq_zero_iff.mp z)
    · exact k d H2 (a1.back hd) hda ⟨fun b o n1 n2 h => x.keep b o n1 n2 (a1.keep b o h (noOwn b)), x.obj, x.dic⟩
end GB
namespace GB
open PySem PySem.Spec PyProof.Rows L2
def mkX (fields : List Str) (fm : Rho → Rs Opd) (ds : List D) : Option (List (Str × D)) :=
  if ds.length = fields.length then (match fm (initR ds) with | .ok _ _ => some (fields.zip ds).reverse | _ => none) else none
def fRaise (x : Str) (mk : List D → Option (List (Str × D))) (fa : Rho → Rs (List Opd)) : Rho → Fl := fun r => match fa r with
  | .ok os r1 => (match frzAll os r1 with
    | some (ds, r2) => if os.length ≤ 1000 then (match mk ds with | some fs => .ex x fs r2 | none => .st) else .st
    | none => .st)
  | .ex c fs r1 => .ex c fs r1
  | .st => .st
/-- what is needed of an own class of exceptions -/
structure XCls (P : Program) (w : World) (K : PySem.W.Frag) (mg : Str → Option Value) (base : Heap) (x : Str) (fields : List Str) (fm : Rho → Rs Opd) : Prop where
  ex : ∃ (C fI : Addr) (fd : FuncData), mg x = some (.ref C) ∧ OexC K C ∧ PySem.W.findIn K (.ref C) "__init__" = some (some (.ref fI)) ∧ PySem.W.typeIn K (.ref fI) = some (.type "function") ∧
    (∀ f ∈ fields, PySem.W.findIn K (.ref C) f = some none) ∧ FnOk P w K mg base (L2.CX P w) 1 fI fd ("self" :: fields) (spInit K fields fm) ∧ Binds K fd ("self" :: fields) []
theorem paired_app {α β : Type} {F : α → β → Prop} : ∀ {xs : List α} {ys : List β} {xs' : List α} {ys' : List β}, Paired F xs ys → Paired F xs' ys' → Paired F (xs ++ xs') (ys ++ ys')
  | _, _, _, _, .nil, k => k
  | _, _, _, _, .cons h t, k => .cons h (paired_app t k)
theorem paired_rev {α β : Type} {F : α → β → Prop} : ∀ {xs : List α} {ys : List β}, Paired F xs ys → Paired F xs.reverse ys.reverse
  | _, _, .nil => .nil
  | _, _, .cons h t => by rw [List.reverse_cons, List.reverse_cons]; exact paired_app (paired_rev t) (.cons h .nil)
theorem kr_zip {K : PySem.W.Frag} {W : Addr → Prop} {H : Hp} : ∀ (fields : List Str) {vs : List V} {ds : List D}, Rps K W H vs ds → KR K W H (fields.zip vs) (fields.zip ds)
  | [], _, _, _ => .nil
  | _ :: _, _, _, .nil => .nil
  | f :: fields, _, _, .cons x t => .cons ⟨rfl, x⟩ (kr_zip fields t)
section
variable {X : Cx} {C : Ct} {e : Expr} {es : List Expr} {fa : Rho → Rs (List Opd)} {x : Str} {fields : List Str} {fm : Rho → Rs Opd} {k : Nat} {p pos pos2 : Pos}
theorem gs_raise (c : XCls X.prog X.w X.K X.mg X.base x fields fm) (hc : X.calm = true) (hr : Room k X.A) (hk : 2 ≤ k) (tk : Takes X C.W) (ha : GA X C (e :: es) fa) (hK : C.K = X.K := by rfl) (hM : C.mg = X.mg := by rfl) (hg : Gl X x := by rfl) (hdb : (x == ("__debug__" : Str)) = false := by decide)
    (he : starEach (e :: es) X.env = (false, eval e X.env) :: starEach es X.env := by rfl) (hpl : (backTo pos (starEach es X.env)).any (·.1) = false := by rfl) :
    GS X C (.Raise (some (.Call (.Name x p) (e :: es) [] pos)) none pos2) (fRaise x (mkX fields fm) fa) := by
  obtain ⟨CA, fI, fd, hm, T, iC, tI, hn, F1, hb⟩ := c.ex
  refine weakS (ps_raise hc tk (pmk_oex (CX := L2.CX X.prog X.w) T iC tI F1 (hr.mono hk) hb (dvs := []) .nil passL hg hm ha hdb he hpl)) fun D σ H h => ?_
  obtain ⟨U, r, s, h⟩ := h
  refine ⟨U, r, s, ?_⟩
  unfold fRaise at h
  cases e : fa r with
  | st => rw [e] at h; exact h
  | ex c fs r1 => rw [e] at h; exact h
  | ok os r1 =>
    rw [e] at h
    intro vs H1 U1 s1 a1 p1 k1 n1
    cases e2 : frzAll os r1 with
    | none => simp only [e2] at h; exact (show False from h).elim
    | some q =>
      obtain ⟨ds, r2⟩ := q
      simp only [e2] at h
      by_cases hl : os.length ≤ 1000
      · rw [if_pos hl] at h
        cases e3 : mkX fields fm ds with
        | none => simp only [e3] at h; exact (show False from h).elim
        | some fs =>
          simp only [e3] at h
          have h : XWant C U H σ r x fs r2 := h
          obtain ⟨U2, s2, a2, u2, k2⟩ := ops_drop s s1 a1 k1 n1
          obtain ⟨s3, a3, p3, x3⟩ := frzAll_ok s2 k2 e2
          have fin : ds.length = fields.length ∧ (∃ o r, fm (initR ds) = .ok o r) ∧ fs = (fields.zip ds).reverse := by
            unfold mkX at e3
            by_cases q : ds.length = fields.length
            · rw [if_pos q] at e3
              cases e4 : fm (initR ds) with
              | ok o r => simp only [e4] at e3; cases e3; exact ⟨q, ⟨_, _, rfl⟩, rfl⟩
              | ex c fs r => simp only [e4] at e3; cases e3
              | st => simp only [e4] at e3; cases e3
            · rw [if_neg q] at e3; cases e3
          obtain ⟨q1, q2, rfl⟩ := fin
          refine ⟨by rw [← Paired.length k1]; exact hl, fun a ha => ?_⟩
          rw [List.append_nil]
          have kp : ∀ b o, H1 b = some o → upd H1 a (exo a CA none) b = some o := upd_keep ha
          have x3' : Rps X.K (Wn U2 σ r2) H1 vs ds := by rw [← hK]; exact x3
          refine ⟨a, CA, vs, ds, Wn U2 σ r2, rfl, by rw [x3.len, q1], T, hn, upd_same, fun b hb => (s3.wlv b hb).grow kp, x3'.mono (monoKeep s3.wlv kp), q2, fun d H2 hd hda xd => ?_⟩
          have hd1 : H1 d = none := by rw [upd_ne hda] at hd; exact hd
          refine ⟨rfl, d, _, xd.obj, xd.dic, hd1, ?_⟩
          have kp2 : ∀ b o, H1 b = some o → upd (del H2 a) d (.xd (fields.zip vs).reverse) b = some o := fun b o hb => by
            have n1 : b ≠ a := ne_of_none hb ha
            have n2 : b ≠ d := ne_of_none hb hd1
            rw [upd_ne n2, del_ne n1]
            exact xd.keep b o n1 n2 (kp b o hb)
          obtain ⟨s4, a4⟩ := s3.ext kp2 (fun _ h => h) (fun _ h => .inl h) fun b hb => (s3.uok b hb).grow kp2
          refine h _ _ σ _ U2 s4 ((a2.trans a3).trans a4) ⟨CA, d, _, rfl, by rw [hM]; exact hm, rfl, upd_same, ?_⟩
          exact paired_rev (kr_zip fields (x3.mono (monoKeep s3.wlv kp2)))
      · rw [if_neg hl] at h; exact (show False from h).elim
def intTxt (i : Int) : List Nat := (Str.ofString (toString i)).cps.toList
def fStr : S → Option S
  | .fz (.int i) => if i.natAbs.log2 < 1920 then some (.fz (.str (intTxt i))) else none
  | .fz (.str l) => some (.fz (.str l))
  | _ => none
def rStr : List V → Hp → VK → Prop := fun xs H Q => (∃ i, xs = [.int i] ∧ i.natAbs.log2 < 1920 ∧ Q (.str (toString i)) H) ∨ (∃ a, xs = [.str a] ∧ Q (.str a) H)
theorem call_strU : CallR X (.type "str") rStr := cr_or call_str_int SkE.call_str_str
theorem pn_str : PN C rStr (p1 fStr) := by
  intro U W H vs ss s Q lv hs hp q
  match ss, hs, hp with
  | [a], .cons xa .nil, hp =>
    cases a with
    | fz a =>
      cases a with
      | int i =>
        have hp : (if i.natAbs.log2 < 1920 then some (S.fz (.str (intTxt i))) else none) = some s := hp
        by_cases z : i.natAbs.log2 < 1920
        · rw [if_pos z] at hp; cases hp
          rw [sr_int xa]
          refine .inl ⟨i, rfl, z, ?_⟩
          have e : (Str.ofString (toString i)) = ⟨(intTxt i).toArray⟩ := toStr _
          rw [e]
          exact q _ _ (.same (.str _))
        · rw [if_neg z] at hp; cases hp
      | str l => cases hp; rw [sr_str xa]; exact .inr ⟨_, rfl, q _ _ (.same (.str _))⟩
      | _ => cases hp
    | _ => cases hp
variable {a : Expr} {fe : Rho → Rs Opd}
theorem x_str1 (hm : X.mg "str" = none) (ha : GE X C a fe) (hg : Gl X "str" := by rfl) (hs : starEach [a] X.env = (false, eval a X.env) :: starEach [] X.env := by rfl) : GE X C (.Call (.Name "str" p) [a] [] pos) (e1 (p1 fStr) fe) :=
  ge_call pn_str (pe_callTy call_strU hg hm PyProof.Rows.boot_str (ga_cons ha ga_nil hs) (he := hs))
end
end GB
namespace GB
open PySem PySem.Spec PyProof.Rows L2
open Classical in
/-- the one end that a suite has at all addresses -/
noncomputable def oneF (f : Addr → Addr → Fl) : Fl := if h : ∃ R, ∀ a d, f a d = R then h.choose else .st
theorem oneF_eq {f : Addr → Addr → Fl} {R : Fl} (h : ∀ a d, f a d = R) : oneF f = R := by
  have e : ∃ R, ∀ a d, f a d = R := ⟨R, h⟩
  unfold oneF
  rw [dif_pos e, ← h 0 0]
  exact (e.choose_spec 0 0).symm
@[simp] theorem oneF_const (R : Fl) : oneF (fun _ _ => R) = R := oneF_eq fun _ _ => rfl
section
variable {C : Ct} {U U' : Addr → Prop} {H H' : Hp} {σ σ' : St} {r r' : Rho} {i : Nat}
theorem RS.cast (C' : Ct) (hK : C.K = C'.K) {D : Ends} {z : Fl} (h : RS C U H σ r D z) (hx : ∀ c fs r1, z ≠ .ex c fs r1) : RS C' U H σ r D z := by
  cases z with
  | nx r2 => exact fun σ2 H2 U2 s2 a2 => h σ2 H2 U2 (s2.cast hK.symm) a2
  | bk r2 => exact fun σ2 H2 U2 s2 a2 => h σ2 H2 U2 (s2.cast hK.symm) a2
  | ct r2 => exact fun σ2 H2 U2 s2 a2 => h σ2 H2 U2 (s2.cast hK.symm) a2
  | rt s r2 => exact fun v σ2 H2 U2 s2 a2 o n => h v σ2 H2 U2 (s2.cast hK.symm) a2 (by unfold OpOk at o ⊢; rw [hK]; exact o) n
  | ex c fs r2 => exact (hx _ _ _ rfl).elim
  | st => exact h
end
end GB
namespace GB
open PySem PySem.Spec PyProof.Rows L2
/-- tables by classes -/
def tb (l : List (Str × Bool)) : Str → Option Bool := fun c => l.lookup c
section
variable {X : Cx} {C : Ct} {a CA dx : Addr} {oe : Obj} {pn : List (Addr × Obj)} {c N y f : Str} {Ns : List Str} {i : Nat} {tbl : Str → Option Bool} {p q1 q2 pos : Pos} {cs : List Expr}
/-- what the slot of the caught one must hold -/
def exAt (r : Rho) (i : Nat) (a dx : Addr) (c : Str) : Option (List (Str × D)) := match r[i]? with
  | some (some (.exc a' dx' c' fs)) => if a' = a ∧ dx' = dx ∧ c' = c then some fs else none
  | _ => none
@[simp] theorem s_exAt {r : Rho} {fs : List (Str × D)} : exAt r i a dx c = (match r[i]? with
  | some (some (.exc a' dx' c' fs)) => if a' = a ∧ dx' = dx ∧ c' = c then some fs else none
  | _ => none) := rfl
end
end GB
namespace GB
open PySem PySem.Spec PyProof.Rows L2
/-- an own class that is raised, by its text -/
structure XAt (K : PySem.W.Frag) (mg : Str → Option Value) (x : Str) (fields : List Str) (qual : Str) (st : Stmt) : Prop where
  ex : ∃ (C fI : Addr) (fd : FuncData), mg x = some (.ref C) ∧ OexC K C ∧ PySem.W.findIn K (.ref C) "__init__" = some (some (.ref fI)) ∧ PySem.W.typeIn K (.ref fI) = some (.type "function") ∧
    (∀ f ∈ fields, PySem.W.findIn K (.ref C) f = some none) ∧ L2.Fun K "__init__" qual st fI fd ∧ Binds K fd ("self" :: fields) []
theorem xcls_of {P : Program} {w : World} {K : PySem.W.Frag} {mg : Str → Option Value} {base : Heap} {x qual : Str} {st : Stmt} {fields : List Str} {fm : Rho → Rs Opd} (a : XAt K mg x fields qual st) (Sc : FnScope ("self" :: fields) ("self" :: fields) (defScope st)) (hf : fields ≠ []) (hfl : fields.length ≤ 900)
    (hb : ∀ (fI : Addr) (cdv : Value) (A : Around) (l : List Env) (t : Shared) (H : Hp) (E : XK), PSs (bodyCx P w K mg base ("self" :: fields) qual st fI cdv A l t H E) (defBody st) (tSeq (tDrop (tVeI K (tCons (tVar 0) (tCons (tE (bodyCt K mg E) fm) tNil)))) (tAsgs K (fields.zip (List.range' 1 fields.length))))) :
    XCls P w K mg base x fields fm := by
  obtain ⟨C, fI, fd, hm, o, i1, t1, nf, F, b⟩ := a.ex
  exact ⟨C, fI, fd, hm, o, i1, t1, nf, init_ok F Sc rfl hf hfl (hb fI), b⟩
def clsS (i : Nat) : Stmt → Stmt
  | .ClassDef _ _ _ body _ _ _ _ _ _ _ => body.getD i (.Pass ⟨0, 0, 0, 0⟩)
  | s => s
end GB
namespace GB
open PySem PySem.Spec PyProof.Rows L2
mutual
theorem eqv_refl : ∀ d : D, d.py.hasDict = false → PyData.eqv d.py d.py = true
  | .non, _ => rfl
  | .bl b, _ => by cases b <;> rfl
  | .int i, _ => by rw [D.py, PyData.eqv]; simp
  | .str l, _ => by rw [D.py, PyData.eqv]; simp
  | .tup ds, h => by
    rw [D.py, PyData.hasDict] at h
    rw [D.py, PyData.eqv]; exact eqv_reflA ds h
  | .lst ds, h => by
    rw [D.py, PyData.hasDict] at h
    rw [D.py, PyData.eqv]; exact eqv_reflA ds h
  | .scr ds, h => by
    rw [D.py, PyData.hasDict] at h
    rw [D.py, PyData.eqv]; exact eqv_reflA ds h
  | .dic _ _, h => by rw [D.py, PyData.hasDict] at h; exact Bool.noConfusion h
theorem eqv_reflA : ∀ ds : List D, PyData.hasDictAll (pyAll ds) = false → PyData.eqvAll (pyAll ds) (pyAll ds) = true
  | [], _ => rfl
  | d :: ds, h => by
    rw [pyAll, PyData.hasDictAll, Bool.or_eq_false_iff] at h
    rw [pyAll, PyData.eqvAll, eqv_refl d h.1, eqv_reflA ds h.2]; rfl
end
theorem eq_self {ds : List D} (h : ∀ d ∈ ds, eqT d) : fEq (.ol ds) (.ol ds) = some (.fz (.bl true)) := by
  show (if (D.lst ds).fit && (D.lst ds).fit then some ((D.lst ds).same (.lst ds)) else none).map (fun k => S.fz (.bl k)) = _
  have e : (D.lst ds).py.hasDict = false := by rw [D.py, PyData.hasDict]; exact (eqT_all h).2.2
  rw [fitT_lst h]
  show some (S.fz (.bl (PyData.eqv (D.lst ds).py (D.lst ds).py))) = _
  rw [eqv_refl _ e]
end GB
namespace GB
open PySem PySem.Spec PyProof.Rows L2
def dT (l : List (List Nat)) : List (Key × D) := l.map fun t => ((.inr ⟨t.toArray⟩ : Key), D.bl true)
theorem W1 {c : Nat} (h : isL c = true) : W [c] := W.cons h .nil
theorem turns_iff {r t : List Nat} : t ∈ turnsL r ↔ ∃ k, k < max 1 r.length ∧ rot r k = t := by
  unfold turnsL
  rw [List.mem_map]
  simp
end GB
namespace GB
open PySem PySem.Spec PyProof.Rows L2
theorem meets_enum1 {v : Value} {o : Obj} {H : Heap → Prop} (B : Begins v o H) :
    Meets (Builtin.«enumerate.__new__» ⟨[.type "enumerate", v], []⟩) (fun _ R s => H s.heap ∧
      R (.ok (.ret (.ref (s.heap.push o).objs.size))) { s with heap := (s.heap.push o).push { cls := .type "enumerate", data := .fields #[.none, .bool false, .ref s.heap.objs.size, rawInt 0, .none, .none] } }) :=
  .of_wp fun prog w A R s h => by
    obtain ⟨hp, g, d, tk, os⟩ := s; obtain ⟨h1, h⟩ := h
    have hsub := sub_enumerate
    have q1 : ∀ {A' : Around} {E : Value → Shared → Prop} {Q : Value → Shared → Prop}, Q (.ref hp.objs.size) ⟨hp.push o, g, d, tk, os⟩ → wpAny (model prog w) A' (pyIter v) Q E ⟨hp, g, d, tk, os⟩ :=
      fun q => B.iter prog w _ _ ⟨hp, g, d, tk, os⟩ _ h1 q
    wp_walk using q1
    refine wpAny_stack_any fun st => wpAny_pure ?_
    split
    · rename_i c _ _ _ _ _
      cases (c == Value.type "enumerate")
      · wp_walk using q1
        exact ⟨_, rfl, h⟩
      · wp_walk using q1
        exact ⟨_, rfl, h⟩
    · wp_walk using q1
      exact ⟨_, rfl, h⟩
theorem enum1_begins {prog : Program} {w : World} {A : Around} {E : Value → Shared → Prop} {s : Shared} {v : Value} {o : Obj} {H : Heap → Prop} {Q : Value → Shared → Prop} (B : Begins v o H) (h1 : H s.heap)
    (h : ∀ h', IsEnum h' (s.heap.objs.size + 1) s.heap.objs.size 0 .none → h'.get? s.heap.objs.size = some o → h'.objs.size = s.heap.objs.size + 2 →
      (∀ b o, s.heap.get? b = some o → h'.get? b = some o) → Q (.ref (s.heap.objs.size + 1)) { s with heap := h' }) :
    wpAny (model prog w) A (call (.type "enumerate") [v]) Q E s := by
  refine callType_new F.called_enumerate (by decide) (F.typeCall_enumerate_1 _) (F.newCall_enumerate_1 _) (fun obj => F.args_object_init_2 obj _) F.entry_enumerate_new
    (meets_enum1 B) ⟨h1, ?_⟩
  have hz : (s.heap.push o).objs.size = s.heap.objs.size + 1 := Heap.size_push ..
  show _ ∧ _
  rw [hz]
  have he : IsEnum ((s.heap.push o).push { cls := .type "enumerate", data := .fields #[.none, .bool false, .ref s.heap.objs.size, rawInt 0, .none, .none] }) (s.heap.objs.size + 1) s.heap.objs.size 0 .none := by
    have := Heap.get?_push_size (s.heap.push o) (o := { cls := .type "enumerate", data := .fields #[.none, .bool false, .ref s.heap.objs.size, rawInt 0, .none, .none] }) rfl
    rw [hz] at this; exact this
  refine ⟨⟨_, he, rfl⟩, h _ he (Heap.get?_push_of_some _ (Heap.get?_push_size _ B.free)) (by rw [Heap.size_push, hz]) fun b o x => Heap.get?_push_of_some _ (Heap.get?_push_of_some _ x)⟩
/-- the tuple at a, each item in a new pair -/
def IteT (K : PySem.W.Frag) (a : Addr) : It :=
  ⟨fun i H => ∃ (xs : List V) (x : V), SqT K H a xs ∧ xs[i]? = some x, fun i H v H' => ∃ T x, v = .ref T ∧ H T = none ∧ H' = upd H T (.tup [.int (i : Nat), x]) ∧ ∀ xs, SqT K H a xs → xs[i]? = some x, fun i H => ∃ xs : List V, SqT K H a xs ∧ xs.length = i⟩
theorem turn_enumT {P : Program} {w : World} {K : PySem.W.Frag} {elts : List Expr} {kk : Nat} {tpos : Pos} (a e it : Addr) :
    Turn P w K (.Tuple elts kk tpos) (IteT K a) [e, it] e (fun i h => (∃ old, IsEnum h e it ((i : Nat) : Int) old) ∧ h.IsTupleIter it a i ∧ e ≠ it ∧ a ≠ e ∧ a ≠ it) where
  mem := by simp
  obj := fun i h st b hb => by
    obtain ⟨⟨old, he⟩, ⟨o, ho, hc, hd⟩, _⟩ := st
    have e' : b = e ∨ b = it := by simpa using hb
    rcases e' with z | z
    · rw [z]; exact ⟨_, he, fun v q => nomatch q⟩
    · rw [z]; exact ⟨o, ho, fun v q => by rw [hd] at q; cases q⟩
  keep := fun i h h' st k => let ⟨⟨old, he⟩, hi, hne⟩ := st; ⟨⟨old, k e (by simp) _ he⟩, hi.at fun o q => k it (by simp) o q, hne⟩
  item := by
    intro X hP hw hK hc i pins s σ H E I hf st hg
    subst hP hw hK
    obtain ⟨⟨old, he⟩, hit, hne, hae, hai⟩ := st
    obtain ⟨xs, x, hq, hx⟩ := hg
    obtain ⟨its, rv, p, hz⟩ := I.tuple hq
    obtain ⟨u, hu, ru⟩ := rv.get hx
    have hel : e < s.heap.objs.size := Heap.lt_size he
    have hil : it < s.heap.objs.size := by obtain ⟨_, q, _⟩ := hit; exact Heap.lt_size q
    have hlt : i < its.toArray.size := by
      have := List.getElem?_eq_some_iff.mp hu
      obtain ⟨q, _⟩ := this
      simpa using q
    refine wpAny_pyNext_enum_itemD (Draws.tuple (A := X.A.in1) (I.ok.hd hc) it a hai its.toArray) he ⟨hit, p⟩ hlt hne (fun q => ?_) fun y h' tk hP ho hst' hT hsz hk => ?_
    · rcases List.mem_cons.mp q with z | z
      · exact hne z
      · exact hae (List.mem_singleton.mp z).symm
    have hP : its.toArray[i]? = some y := hP
    have ey : y = u := by
      have : its.toArray[i]? = its[i]? := by simp
      rw [this, hu] at hP
      exact (Option.some.inj hP).symm
    subst ey
    obtain ⟨hit', _⟩ := hst'
    refine ⟨_, rfl, wpAny_letOwnedTupleGo_enum (s := { s with heap := h', toks := tk + 1 }) ho fun h'' he' sb => ?_⟩
    have hT2 : h''.get? s.heap.objs.size = some { cls := .type "tuple", data := .seq #[.int i tk, y] } := (sb.2 _ (Nat.ne_of_gt hel)).trans hT
    have new : ObjOk X.prog X.w (upd H s.heap.objs.size (.tup [.int (i : Nat), x])) h'' s.heap.objs.size (.tup [.int (i : Nat), x]) :=
      ⟨by show 2 ≤ sizeLine; decide, [.int i tk, y], .cons ⟨_, rfl⟩ (.cons ru .nil), ⟨_, hT2, rfl, _, rfl⟩⟩
    have I1 : Inv X pins σ (upd H s.heap.objs.size (.tup [.int (i : Nat), x])) { s with heap := h'', toks := tk + 1 } :=
      I.turnedNew (ch := [e, it]) (fun b ob hb q => (sb.2 b (fun z => hb (by simp [z]))).trans (hk b ob (fun z => hb (by simp [z])) (fun z => hb (by simp [z])) q)) hf (Nat.le_refl _) new
    refine ⟨.ref s.heap.objs.size, _, I1, rfl, ⟨_, x, rfl, I.hok.fresh (Nat.le_refl _), rfl, fun ys hy => by rw [I.tuple_inj hy hq]; exact hx⟩, ⟨⟨y, ?_⟩, hit'.at fun o q => (sb.2 it (Ne.symm hne)).trans q, hne, hae, hai⟩, fun b hb => ?_⟩
    · have e1 : ((i + 1 : Nat) : Int) = (i : Int) + 1 := by omega
      rw [e1]; exact he'
    · have hb' : b < s.heap.objs.size := by
        have e' : b = e ∨ b = it := by simpa using hb
        rcases e' with z | z
        · rw [z]; exact hel
        · rw [z]; exact hil
      rw [upd_ne (Nat.ne_of_lt hb')]
      exact (hf b hb).1
  done := by
    intro X hP hw hK hc i pins s σ H E I hf st hg
    subst hP hw hK
    obtain ⟨⟨old, he⟩, hit, hne, hae, hai⟩ := st
    obtain ⟨xs, hq, hx⟩ := hg
    obtain ⟨its, rv, p, hz⟩ := I.tuple hq
    obtain ⟨f0, f1, f2, f3, f4, f5⟩ := hf it (by simp)
    have hl := rv.length
    have hn : i = its.toArray.size := by simp; omega
    subst hn
    exact wpAny_pyNext_enum_endD (Draws.tuple (A := X.A.in1) (I.ok.hd hc) it a hai its.toArray) he ⟨hit, p⟩ fun h' eb => ⟨rfl, I.turned (t' := s.toks) (fun b o hb q => eb b o hb q) f0 f1 f3 f4 f5⟩
  self := fun A i s Q E st h => let ⟨⟨_, he⟩, _⟩ := st; wpAny_pyIter_enum he h
/-- the signs of a text, each in a new pair -/
def IteS (x : Str) : It :=
  ⟨fun i _ => i < x.cps.size, fun i H v H' => ∃ T c, v = .ref T ∧ H T = none ∧ H' = upd H T (.tup [.int (i : Nat), .str ⟨#[c]⟩]) ∧ x.cps[i]? = some c, fun i _ => i = x.cps.size⟩
theorem turn_enumS {P : Program} {w : World} {K : PySem.W.Frag} {elts : List Expr} {kk : Nat} {tpos : Pos} (x : Str) (t : Tok) (e it : Addr) :
    Turn P w K (.Tuple elts kk tpos) (IteS x) [e, it] e (fun i h => (∃ old, IsEnum h e it ((i : Nat) : Int) old) ∧ h.IsStrIter it (strIterType x) x t i ∧ e ≠ it) where
  mem := by simp
  obj := fun i h st b hb => by
    obtain ⟨⟨old, he⟩, ⟨o, ho, hc, hd⟩, _⟩ := st
    have e' : b = e ∨ b = it := by simpa using hb
    rcases e' with z | z
    · rw [z]; exact ⟨_, he, fun v q => nomatch q⟩
    · rw [z]; exact ⟨o, ho, fun v q => by rw [hd] at q; cases q⟩
  keep := fun i h h' st k => let ⟨⟨old, he⟩, hi, hne⟩ := st; ⟨⟨old, k e (by simp) _ he⟩, by obtain ⟨o, e1, r1⟩ := hi; exact ⟨o, k it (by simp) _ e1, r1⟩, hne⟩
  item := by
    intro X hP hw hK hc i pins s σ H E I hf st hg
    subst hP hw hK
    obtain ⟨⟨old, he⟩, hit, hne⟩ := st
    have hel : e < s.heap.objs.size := Heap.lt_size he
    have hil : it < s.heap.objs.size := by obtain ⟨_, q, _⟩ := hit; exact Heap.lt_size q
    refine wpAny_pyNext_enum_itemD (Draws.text (A := X.A.in1) (I.ok.hd hc) it x t) he hit hg hne (fun q => hne (List.mem_singleton.mp q)) fun y h' tk hP ho hit' hT hsz hk => ?_
    obtain ⟨c, u, hcx, rfl⟩ := hP
    refine ⟨_, rfl, wpAny_letOwnedTupleGo_enum (s := { s with heap := h', toks := tk + 1 }) ho fun h'' he' sb => ?_⟩
    have hT2 : h''.get? s.heap.objs.size = some { cls := .type "tuple", data := .seq #[.int i tk, .str ⟨#[c]⟩ u] } := (sb.2 _ (Nat.ne_of_gt hel)).trans hT
    have new : ObjOk X.prog X.w (upd H s.heap.objs.size (.tup [.int (i : Nat), .str ⟨#[c]⟩])) h'' s.heap.objs.size (.tup [.int (i : Nat), .str ⟨#[c]⟩]) :=
      ⟨by show 2 ≤ sizeLine; decide, [.int i tk, .str ⟨#[c]⟩ u], .cons ⟨_, rfl⟩ (.cons ⟨_, rfl⟩ .nil), ⟨_, hT2, rfl, _, rfl⟩⟩
    have I1 : Inv X pins σ (upd H s.heap.objs.size (.tup [.int (i : Nat), .str ⟨#[c]⟩])) { s with heap := h'', toks := tk + 1 } :=
      I.turnedNew (ch := [e, it]) (fun b ob hb q => (sb.2 b (fun z => hb (by simp [z]))).trans (hk b ob (fun z => hb (by simp [z])) (fun z => hb (by simp [z])) q)) hf (Nat.le_refl _) new
    refine ⟨.ref s.heap.objs.size, _, I1, rfl, ⟨_, c, rfl, I.hok.fresh (Nat.le_refl _), rfl, hcx⟩, ⟨⟨.str ⟨#[c]⟩ u, ?_⟩, ?_, hne⟩, fun b hb => ?_⟩
    · have e1 : ((i + 1 : Nat) : Int) = (i : Int) + 1 := by omega
      rw [e1]; exact he'
    · obtain ⟨o1, e1', r1⟩ := hit'
      exact ⟨o1, (sb.2 it (Ne.symm hne)).trans e1', r1⟩
    · have hb' : b < s.heap.objs.size := by
        have e' : b = e ∨ b = it := by simpa using hb
        rcases e' with z | z
        · rw [z]; exact hel
        · rw [z]; exact hil
      rw [upd_ne (Nat.ne_of_lt hb')]
      exact (hf b hb).1
  done := by
    intro X hP hw hK hc i pins s σ H E I hf st hg
    subst hP hw hK
    obtain ⟨⟨old, he⟩, hit, hne⟩ := st
    obtain ⟨f0, f1, f2, f3, f4, f5⟩ := hf it (by simp)
    have hg : i = x.cps.size := hg
    subst hg
    exact wpAny_pyNext_enum_endD (Draws.text (A := X.A.in1) (I.ok.hd hc) it x t) he hit fun h' eb => ⟨rfl, I.turned (t' := s.toks) (fun b o hb q => eb b o hb q) f0 f1 f3 f4 f5⟩
  self := fun A i s Q E st h => let ⟨⟨_, he⟩, _⟩ := st; wpAny_pyIter_enum he h
section
variable {X : Cx} {C : Ct} {e : Expr} {fa : Rho → Rs (List Opd)} {pos p tpos : Pos} {elts : List Expr} {kk : Nat}
def iEnumU (K : PySem.W.Frag) (vs : List V) (H : Hp) (R : It → Hp → Prop) : Prop :=
  (∃ x, vs = [.str x] ∧ R (IteS x) H) ∨ (∃ a xs, vs = [.ref a] ∧ SqT K H a xs ∧ R (IteT K a) H) ∨ ∃ a xs, vs = [.ref a] ∧ SqL K H a xs ∧ R (Ite K a) H
theorem pi_enumU {ta : TA} (hg : Gl X "enumerate") (hm : X.mg "enumerate" = none) (ha : PA X [e] ta) (hs : starEach [e] X.env = [(false, eval e X.env)] := by rfl) :
    PI X (.Tuple elts kk tpos) (.Call (.Name "enumerate" p) [e] [] pos) (fun σ H R => ta σ H fun vs H1 => iEnumU X.K vs H1 R) := by
  refine ⟨fun pins s σ H R I h => ?_⟩
  refine Call_ (ld_blt I hg hm boot_enumerate (PyProof.Rows.callWith_type1 (thn (ha.run pos pins s σ H _ I h) fun us s1 ⟨vs, H1, I1, r1, q1⟩ => ?_) hs rfl))
  have fr : ∀ b, b ∈ [s1.heap.objs.size + 1, s1.heap.objs.size] → FpOk X pins H1 b := fun b hb => by
    have e' : b = s1.heap.objs.size + 1 ∨ b = s1.heap.objs.size := by simpa using hb
    have hle : s1.heap.objs.size ≤ b := by
      rcases e' with z | z
      · rw [z]; exact Nat.le_add_right _ _
      · rw [z]; exact Nat.le_refl _
    exact I1.fpOk hle (I1.hok.fresh hle)
  rcases q1 with ⟨x, ex, q⟩ | ⟨a, xs, ex, hq, q⟩ | ⟨a, xs, ex, hq, q⟩
  · subst ex
    cases r1 with
    | cons r rr =>
      cases rr
      obtain ⟨t, rfl⟩ := r
      refine enum1_begins (begins_text x t) trivial fun h' he hit hsz hk => wpAny_pyIter_enum he ?_
      have I2 : Inv X pins σ H1 { s1 with heap := h' } := I1.kept (t' := s1.toks) hk
      exact ⟨s1.heap.objs.size + 1, [s1.heap.objs.size + 1, s1.heap.objs.size], _, _, H1, rfl, I2, turn_enumS x t (s1.heap.objs.size + 1) s1.heap.objs.size, ⟨⟨.none, he⟩, ⟨_, hit, rfl, rfl⟩, Nat.succ_ne_self _⟩, fr, q⟩
  · subst ex
    cases r1 with
    | cons r rr =>
      cases rr
      cases r
      obtain ⟨its, rv, p', hz⟩ := I1.tuple hq
      obtain ⟨o1, ho1, _⟩ := id p'
      have la : a < s1.heap.objs.size := Heap.lt_size ho1
      refine enum1_begins (begins_tuple a its.toArray) p' fun h' he hit hsz hk => wpAny_pyIter_enum he ?_
      have I2 : Inv X pins σ H1 { s1 with heap := h' } := I1.kept (t' := s1.toks) hk
      exact ⟨s1.heap.objs.size + 1, [s1.heap.objs.size + 1, s1.heap.objs.size], _, _, H1, rfl, I2, turn_enumT a (s1.heap.objs.size + 1) s1.heap.objs.size, ⟨⟨.none, he⟩, ⟨_, hit, rfl, rfl⟩, Nat.succ_ne_self _, Nat.ne_of_lt (Nat.lt_succ_of_lt la), Nat.ne_of_lt la⟩, fr, q⟩
  · subst ex
    cases r1 with
    | cons r rr =>
      cases rr
      cases r
      obtain ⟨its, rv, p', hz⟩ := I1.list hq
      refine call_enumerate_list p'.isList fun h' he hit hsz hk => wpAny_pyIter_enum he ?_
      have I2 : Inv X pins σ H1 { s1 with heap := h' } := I1.kept (t' := s1.toks) hk
      exact ⟨s1.heap.objs.size + 1, [s1.heap.objs.size + 1, s1.heap.objs.size], _, _, H1, rfl, I2, turn_enum a (s1.heap.objs.size + 1) s1.heap.objs.size, ⟨⟨.none, he⟩, hit, Nat.succ_ne_self _⟩, fr, q⟩
def mkEnumU : List S → Option (List D)
  | [.fz (.str w)] => some ((w.map fun c => D.str [c]).zipIdx.map fun z => .tup [.int (z.2 : Nat), z.1])
  | [.fz (.tup ds)] => some (ds.zipIdx.map fun z => .tup [.int (z.2 : Nat), z.1])
  | l => mkEnum l
theorem walkET {K : PySem.W.Frag} {a : Addr} {n : Nat} : Walk (IteT K a) n (fun H => ∃ xs, SqT K H a xs ∧ xs.length = n) (fun i H v H' => ∃ T x, v = .ref T ∧ H T = none ∧ H' = upd H T (.tup [.int (i : Nat), x]) ∧ ∀ xs, SqT K H a xs → xs[i]? = some x) :=
  ⟨fun i _ hi ⟨xs, q, e⟩ => ⟨xs, xs[i], q, by simp [e, hi]⟩, fun _ ⟨xs, q, e⟩ => ⟨xs, q, e⟩, fun _ _ _ _ _ _ y => y⟩
theorem git_enumL {t : S} {p : Addr} {es : List D} {vs : List V} (e1 : asLs t = some es) (hv : ∀ U W H, SRs C.K U W H vs [t] → SR C.K U W H (.ref p) t) :
    GItem C (Ite C.K p) (es.zipIdx.map fun z => .tup [.int (z.2 : Nat), z.1]) vs [t] true := by
  refine ⟨_, _, by rw [List.length_map, List.length_zipIdx]; exact walkE (K := C.K) (a := p) (n := es.length), fun U W H z => ?_, fun i H x H' d U W hd z lv y => ?_⟩
  · obtain ⟨p', xs, e, h2, h3⟩ := asLs_of (hv _ _ _ z) e1
    cases e
    exact ⟨xs, h2, h3.len⟩
  · obtain ⟨p', xs, e, h2, h3⟩ := asLs_of (hv _ _ _ z) e1
    cases e
    obtain ⟨T, w, rfl, hT, rfl, y⟩ := y
    rw [List.getElem?_map, List.getElem?_zipIdx] at hd
    cases e3 : es[i]? with
    | none => rw [e3] at hd; cases hd
    | some d' =>
      rw [e3] at hd; cases hd
      obtain ⟨v, g1, g2⟩ := rps_at h3 e3
      have := y xs h2
      rw [g1] at this
      cases this
      refine ⟨upd_keep hT, .inr ⟨rfl, _, _, _, rfl, rfl, .inl (.inl upd_same), (.cons ?_ (.cons (g2.mono (monoKeep lv (upd_keep hT))) .nil))⟩⟩
      simp only [Nat.zero_add]
      exact .int _
theorem git_enumT {p : Addr} {es : List D} : GItem C (IteT C.K p) (es.zipIdx.map fun z => .tup [.int (z.2 : Nat), z.1]) [.ref p] [.fz (.tup es)] true := by
  refine ⟨_, _, by rw [List.length_map, List.length_zipIdx]; exact walkET (K := C.K) (a := p) (n := es.length), fun U W H z => ?_, fun i H x H' d U W hd z lv y => ?_⟩
  · cases srs1 z with | fz z => cases z with | tup e z => exact ⟨_, e.sq, z.len⟩
  · cases srs1 z with
    | fz z =>
      cases z with
      | tup e z =>
        obtain ⟨T, w, rfl, hT, rfl, y⟩ := y
        rw [List.getElem?_map, List.getElem?_zipIdx] at hd
        cases e3 : es[i]? with
        | none => rw [e3] at hd; cases hd
        | some d' =>
          rw [e3] at hd; cases hd
          obtain ⟨v, g1, g2⟩ := rps_at z e3
          have := y _ e.sq
          rw [g1] at this
          cases this
          refine ⟨upd_keep hT, .inr ⟨rfl, _, _, _, rfl, rfl, .inl (.inl upd_same), (.cons ?_ (.cons (g2.mono (monoKeep lv (upd_keep hT))) .nil))⟩⟩
          simp only [Nat.zero_add]
          exact .int _
theorem git_enumS {w : List Nat} {vs : List V} {ss : List S} : GItem C (IteS ⟨w.toArray⟩) ((w.map fun c => D.str [c]).zipIdx.map fun z => .tup [.int (z.2 : Nat), z.1]) vs ss true := by
  refine ⟨fun _ => True, fun i H v H' => ∃ T c, v = .ref T ∧ H T = none ∧ H' = upd H T (.tup [.int (i : Nat), .str ⟨#[c]⟩]) ∧ w[i]? = some c, ⟨fun i H hi _ => ?_, fun H _ => ?_, fun i H x H' hi _ y => ?_⟩, fun U W H z => True.intro, fun i H x H' d U W hd z lv y => ?_⟩
  · rw [List.length_map, List.length_zipIdx, List.length_map] at hi
    show _ < _
    simpa using hi
  · rw [List.length_map, List.length_zipIdx, List.length_map]
    show _ = _
    simp
  · obtain ⟨T, c, h1, h2, h3, h4⟩ := y
    exact ⟨T, c, h1, h2, h3, by simpa using h4⟩
  · obtain ⟨T, c, rfl, hT, rfl, h1⟩ := y
    rw [List.getElem?_map, List.getElem?_zipIdx, List.getElem?_map, h1] at hd
    cases hd
    refine ⟨upd_keep hT, .inr ⟨rfl, _, _, _, rfl, rfl, .inl (.inl upd_same), (.cons ?_ (.cons (.str [c]) .nil))⟩⟩
    simp only [Nat.zero_add]
    exact .int _
theorem gi_enumU (hg : Gl X "enumerate") (hm : X.mg "enumerate" = none) (ha : GA X C [e] fa) (hs : starEach [e] X.env = [(false, eval e X.env)] := by rfl) (hK : C.K = X.K := by rfl) : GI X C (.Tuple elts kk tpos) (.Call (.Name "enumerate" p) [e] [] pos) fa mkEnumU true := by
  refine ⟨_, ?_, pi_enumU hg hm ha hs⟩
  intro vs H ss ds U W R hs hn hm q
  unfold mkEnumU at hm
  split at hm
  · cases hm
    cases hs with
    | cons x y =>
      cases y
      cases x with
      | fz x =>
        cases x
        exact .inl ⟨_, rfl, q _ git_enumS⟩
  · cases hm
    cases hs with
    | cons x y =>
      cases y
      cases x with
      | fz x =>
        cases x with
        | tup e z => exact .inr (.inl ⟨_, _, rfl, hK ▸ e.sq, q _ (hK ▸ git_enumT)⟩)
  · rename_i l0 h1 h2
    cases ss with
    | nil => exact (show False from (by have hm : (none : Option (List D)) = some ds := hm; cases hm)).elim
    | cons t ts =>
      cases ts with
      | cons t2 ts => exact (show False from (by have hm : (none : Option (List D)) = some ds := hm; cases hm)).elim
      | nil =>
        have hm : (asLs t).map (fun ds => ds.zipIdx.map fun z => D.tup [.int (z.2 : Nat), z.1]) = some ds := hm
        cases e1 : asLs t with
        | none => rw [e1] at hm; cases hm
        | some es =>
          rw [e1] at hm; cases hm
          cases hs with
          | cons x y =>
            cases y
            obtain ⟨p, xs, rfl, h2, h3⟩ := asLs_of x e1
            exact .inr (.inr ⟨p, xs, rfl, hK ▸ h2, q _ (hK ▸ git_enumL e1 fun _ _ _ z => srs1 z)⟩)
end
end GB
namespace GB
open PySem PySem.Spec PyProof.Rows L2
end GB
namespace GB
open PySem PySem.Spec PyProof.Rows L2
end GB
namespace GB
open PySem PySem.Spec PyProof.Rows L2
/-- nothing falls out where a ends and b begins -/
def Jn (a b : List Nat) : Prop := ∀ x y, a.getLast? = some x → b.head? = some y → y ≠ bk x
theorem tidy_app : ∀ {a b : List Nat}, W a → W b → (tidy (a ++ b) = true ↔ tidy a = true ∧ tidy b = true ∧ Jn a b)
  | [], b, _, _ => ⟨fun h => ⟨rfl, h, fun x y h => nomatch h⟩, fun h => h.2.1⟩
  | [x], [], _, _ => ⟨fun h => ⟨rfl, rfl, fun x y _ h => nomatch h⟩, fun h => rfl⟩
  | [x], y :: b, ha, hb => by
    show (decide (x ≠ bk y) && tidy (y :: b)) = true ↔ _
    rw [Bool.and_eq_true, decide_eq_true_iff]
    have hx := ha.head
    have hy := hb.head
    constructor
    · rintro ⟨h1, h2⟩
      refine ⟨rfl, h2, fun u v hu hv e => ?_⟩
      cases hu; cases hv
      exact h1 (by rw [e]; exact (bk_bk hx).symm)
    · rintro ⟨_, h2, h3⟩
      exact ⟨fun e => h3 x y rfl rfl (by rw [e, bk_bk hy]), h2⟩
  | x :: x' :: a, b, ha, hb => by
    have ih := tidy_app (a := x' :: a) (b := b) ha.tail hb
    show (decide (x ≠ bk x') && tidy (x' :: a ++ b)) = true ↔ (decide (x ≠ bk x') && tidy (x' :: a)) = true ∧ _ ∧ _
    rw [Bool.and_eq_true, ih, Bool.and_eq_true]
    have e : Jn (x :: x' :: a) b ↔ Jn (x' :: a) b := by
      unfold Jn
      rw [List.getLast?_cons_cons]
    rw [e]
    exact ⟨fun ⟨h1, h2, h3, h4⟩ => ⟨⟨h1, h2⟩, h3, h4⟩, fun ⟨⟨h1, h2⟩, h3, h4⟩ => ⟨h1, h2, h3, h4⟩⟩
theorem bkw_cons (x : Nat) (w : List Nat) : bkw (x :: w) = bkw w ++ [bk x] := by unfold bkw; simp
theorem bkw_nil : bkw [] = [] := rfl
theorem coreK_spec {s : List Nat} : ∀ (n k : Nat), n + k = s.length → (∀ i, i < k → endsUndo s i = true) → (∀ i, i < coreK s n k → endsUndo s i = true) ∧ endsUndo s (coreK s n k) = false
  | 0, k, hk, h => by
    refine ⟨h, ?_⟩
    show endsUndo s k = false
    rw [← Bool.not_eq_true]
    intro z
    have := endsUndo_lt z
    omega
  | n + 1, k, hk, h => by
    unfold coreK
    by_cases c : endsUndo s k = true
    · rw [if_pos c]
      exact coreK_spec n (k + 1) (by omega) fun i hi => by
        rcases Nat.lt_or_ge i k with z | z
        · exact h i z
        · have : i = k := by omega
          rw [this]; exact c
    · rw [if_neg c]
      exact ⟨h, by simpa using c⟩
theorem core_spec (s : List Nat) : (∀ i, i < coreN s → endsUndo s i = true) ∧ endsUndo s (coreN s) = false := coreK_spec s.length 0 (by omega) fun i h => absurd h (Nat.not_lt_zero i)
theorem core_uniq {s : List Nat} {N : Nat} (h1 : ∀ i, i < N → endsUndo s i = true) (h2 : endsUndo s N = false) : coreN s = N := by
  obtain ⟨g1, g2⟩ := core_spec s
  rcases Nat.lt_trichotomy (coreN s) N with z | z | z
  · rw [h1 _ z] at g2; cases g2
  · exact z
  · rw [g1 _ z] at h2; cases h2
theorem bkw_at {u : List Nat} {k : Nat} (h : k < u.length) : (bkw u)[k]? = (u[u.length - 1 - k]?).map bk := by
  unfold bkw
  rw [List.getElem?_reverse (by rw [List.length_map]; exact h), List.length_map, List.getElem?_map]
theorem ends_at {s : List Nat} {k : Nat} (h : endsUndo s k = true) : ∃ x y, s[k]? = some x ∧ s[s.length - 1 - k]? = some y ∧ x = bk y := by
  unfold endsUndo at h
  rw [Bool.and_eq_true] at h
  have h := h.2
  split at h
  · exact ⟨_, _, by assumption, by assumption, of_decide_eq_true h⟩
  · cases h
theorem core_split {s : List Nat} (hw : W s) : s.take (coreN s) ++ midK s (coreN s) ++ bkw (s.take (coreN s)) = s ∧ 2 * coreN s ≤ s.length := by
  obtain ⟨g1, g2⟩ := core_spec s
  have hN : 2 * coreN s ≤ s.length := by
    rcases Nat.eq_zero_or_pos (coreN s) with z | z
    · omega
    · have := endsUndo_lt (g1 (coreN s - 1) (by omega)); omega
  refine ⟨?_, hN⟩
  generalize coreN s = N at *
  have lt : (s.take N).length = N := by rw [List.length_take]; omega
  refine List.ext_getElem? fun i => ?_
  rw [List.getElem?_append, List.length_append, lt, midK_len]
  by_cases c1 : i < N + (s.length - 2 * N)
  · rw [if_pos c1, List.getElem?_append, lt]
    by_cases c2 : i < N
    · rw [if_pos c2, List.getElem?_take, if_pos c2]
    · rw [if_neg c2, midK_at (by omega)]
      congr 1; omega
  · rw [if_neg c1]
    by_cases c3 : i < s.length
    · rw [bkw_at (by rw [lt]; omega), lt, List.getElem?_take, if_pos (by omega)]
      obtain ⟨x, y, hx, hy, e⟩ := ends_at (g1 (s.length - 1 - i) (by omega))
      have e1' : N - 1 - (i - (N + (s.length - 2 * N))) = s.length - 1 - i := by omega
      have e2' : s.length - 1 - (s.length - 1 - i) = i := by omega
      rw [e1', hx]
      rw [e2'] at hy
      rw [hy, e]
      show some (bk (bk y)) = some y
      rw [bk_bk (hw y (List.mem_of_getElem? hy))]
    · rw [List.getElem?_eq_none (by rw [bkw_len, lt]; omega), List.getElem?_eq_none (by omega)]
theorem core_jn {s : List Nat} (hw : W s) (ht : tidy s = true) (hne : s ≠ []) : midK s (coreN s) ≠ [] ∧ Jn (midK s (coreN s)) (midK s (coreN s)) := by
  obtain ⟨g1, g2⟩ := core_spec s
  have sp : 0 < s.length := List.length_pos_iff.mpr hne
  have hN : 2 * coreN s < s.length := by
    rcases Nat.eq_zero_or_pos (coreN s) with z | z
    · omega
    · have q := g1 (coreN s - 1) (by omega)
      have l := endsUndo_lt q
      obtain ⟨x, y, hx, hy, e⟩ := ends_at q
      rcases Nat.lt_or_ge (2 * coreN s) s.length with z2 | z2
      · exact z2
      · exfalso
        have e1' : s.length - 1 - (coreN s - 1) = coreN s - 1 + 1 := by omega
        rw [e1'] at hy
        have := (tidy_ix hw).mp ht _ x y hx hy
        exact this (by rw [e, bk_bk (hw y (List.mem_of_getElem? hy))])
  generalize coreN s = N at *
  have ml := midK_len s N
  refine ⟨fun z => by rw [z] at ml; simp at ml; omega, fun x y hx hy e => ?_⟩
  rw [List.getLast?_eq_getElem?, ml, midK_at (by omega)] at hx
  rw [List.head?_eq_getElem?, midK_at (by omega)] at hy
  have e1' : N + (s.length - 2 * N - 1) = s.length - 1 - N := by omega
  rw [e1'] at hx
  rw [Nat.add_zero] at hy
  by_cases c : 2 * N + 1 < s.length
  · have : endsUndo s N = true := by
      unfold endsUndo
      rw [hx, hy, decide_eq_true c]
      exact decide_eq_true e
    rw [this] at g2; cases g2
  · have e2' : s.length - 1 - N = N := by omega
    rw [e2', hy] at hx
    cases hx
    exact bk_ne (hw x (List.mem_of_getElem? hy)) e.symm
theorem core_of {p d : List Nat} (hp : W p) (hd : W d) (hne : d ≠ []) (j : Jn d d) : coreN (p ++ d ++ bkw p) = p.length ∧ midK (p ++ d ++ bkw p) p.length = d := by
  have dp : 0 < d.length := List.length_pos_iff.mpr hne
  have ls : (p ++ d ++ bkw p).length = p.length + d.length + p.length := by simp only [List.length_append, bkw_len]
  have at1 : ∀ i, i < p.length → (p ++ d ++ bkw p)[i]? = p[i]? := fun i hi => by
    rw [List.append_assoc, List.getElem?_append_left hi]
  have at2 : ∀ i, i < d.length → (p ++ d ++ bkw p)[p.length + i]? = d[i]? := fun i hi => by
    rw [List.append_assoc, List.getElem?_append_right (by omega), List.getElem?_append_left (by omega)]
    congr 1; omega
  have at3 : ∀ i, i < p.length → (p ++ d ++ bkw p)[p.length + d.length + p.length - 1 - i]? = (p[i]?).map bk := fun i hi => by
    rw [List.getElem?_append_right (by rw [List.length_append]; omega), List.length_append, bkw_at (by omega)]
    congr 2; omega
  refine ⟨core_uniq (fun i hi => ?_) ?_, ?_⟩
  · have hx : p[i]? = some p[i] := List.getElem?_eq_getElem hi
    unfold endsUndo
    rw [ls, at1 i hi, at3 i hi, hx, decide_eq_true (by omega)]
    exact decide_eq_true (bk_bk (hp _ (List.getElem_mem hi))).symm
  · unfold endsUndo
    rw [ls]
    by_cases c : 2 * p.length + 1 < p.length + d.length + p.length
    · have hx : d[0]? = some d[0] := List.getElem?_eq_getElem dp
      have hy : d[d.length - 1]? = some (d[d.length - 1]'(by omega)) := List.getElem?_eq_getElem (by omega)
      have a := at2 0 dp
      rw [Nat.add_zero] at a
      have b := at2 (d.length - 1) (by omega)
      rw [show p.length + (d.length - 1) = p.length + d.length + p.length - 1 - p.length from by omega] at b
      rw [a, b, hx, hy, decide_eq_true c]
      refine decide_eq_false ?_
      refine j _ _ (by rw [List.getLast?_eq_getElem?]; exact hy) (by rw [List.head?_eq_getElem?]; exact hx)
    · rw [decide_eq_false c]; rfl
  · refine List.ext_getElem? fun i => ?_
    by_cases c : i < d.length
    · rw [midK_at (by rw [ls]; omega)]
      exact at2 i c
    · rw [List.getElem?_eq_none (by rw [midK_len, ls]; omega), List.getElem?_eq_none (by omega)]
end GB
namespace GB
open PySem PySem.Spec PyProof.Rows L2
end GB
namespace GB
open PySem PySem.Spec PyProof.Rows L2
section
variable {X : Cx} {C : Ct}
def isLs (s : S) : Bool := (asLs s).isSome
variable {e o : Expr} {fe fo : Rho → Rs Opd} {apos cpos : Pos}
end
@[simp] theorem isLs_o {ds : List D} : isLs (.ol ds) = true := rfl
@[simp] theorem isLs_b {ds : List D} : isLs (.br ds) = true := rfl
@[simp] theorem isLs_k {ds : List D} : isLs (.lk ds) = true := rfl
@[simp] theorem isLs_f {ds : List D} : isLs (.fz (.lst ds)) = true := rfl
end GB
namespace GB
open PySem PySem.Spec PyProof.Rows L2
def Rt (a b : List Nat) : Prop := ∃ u v, a = u ++ v ∧ b = v ++ u
theorem Rt.refl (a : List Nat) : Rt a a := ⟨[], a, rfl, by rw [List.append_nil]⟩
theorem Rt.symm {a b : List Nat} (h : Rt a b) : Rt b a := let ⟨u, v, h1, h2⟩ := h; ⟨v, u, h2, h1⟩
theorem Rt.trans {a b c : List Nat} (h : Rt a b) (k : Rt b c) : Rt a c := by
  obtain ⟨u, v, rfl, rfl⟩ := h
  obtain ⟨x, y, h1, rfl⟩ := k
  rcases List.append_eq_append_iff.mp h1 with ⟨w, h2, h3⟩ | ⟨w, h2, h3⟩
  · subst h2 h3
    exact ⟨w, y ++ v, by simp only [List.append_assoc], by simp only [List.append_assoc]⟩
  · subst h2 h3
    exact ⟨u ++ x, w, by simp only [List.append_assoc], by simp only [List.append_assoc]⟩
theorem Rt.len {a b : List Nat} (h : Rt a b) : a.length = b.length := by
  obtain ⟨u, v, rfl, rfl⟩ := h
  rw [List.length_append, List.length_append, Nat.add_comm]
theorem rt_rot (a : List Nat) (k : Nat) : Rt a (rot a k) := ⟨a.take k, a.drop k, (List.take_append_drop k a).symm, rfl⟩
theorem rt_mem {a b : List Nat} : b ∈ turnsL a ↔ Rt a b := by
  rw [turns_iff]
  constructor
  · rintro ⟨k, _, rfl⟩
    exact rt_rot a k
  · rintro ⟨u, v, rfl, rfl⟩
    by_cases h : v = []
    · subst h
      refine ⟨0, by omega, ?_⟩
      rw [rot_0, List.append_nil, List.nil_append]
    · have : 0 < v.length := List.length_pos_iff.mpr h
      refine ⟨u.length, by rw [List.length_append]; omega, ?_⟩
      unfold rot
      rw [List.drop_left' rfl, List.take_left' rfl]
theorem leastTurn_le {a y : List Nat} (h : y ∈ turnsL a) : leastTurn a ≤ y := by
  unfold leastTurn
  cases e : turnsL a with
  | nil => rw [e] at h; cases h
  | cons x xs =>
    rw [e] at h
    exact (leastT_spec xs x).2 y h
theorem least_rt (a : List Nat) : Rt a (leastTurn a) := rt_mem.mp (leastTurn_mem a)
theorem least_iff {a b : List Nat} : leastTurn a = leastTurn b ↔ Rt a b := by
  constructor
  · intro e
    have h := least_rt a
    rw [e] at h
    exact h.trans (least_rt b).symm
  · intro h
    have h1 : leastTurn b ≤ leastTurn a := leastTurn_le (rt_mem.mpr (h.symm.trans (least_rt a)))
    have h2 : leastTurn a ≤ leastTurn b := leastTurn_le (rt_mem.mpr (h.trans (least_rt b)))
    exact List.le_antisymm h2 h1
def midO (s : List Nat) : List Nat := midK s (coreN s)
theorem mid_self {d : List Nat} (hd : W d) (hne : d ≠ []) (j : Jn d d) : midO d = d := by
  obtain ⟨h1, h2⟩ := core_of (p := []) W.nil hd hne j
  rw [List.nil_append, bkw_nil, List.append_nil] at h1 h2
  unfold midO
  rw [h1]
  exact h2
theorem mid_of {p d : List Nat} (hp : W p) (hd : W d) (hne : d ≠ []) (j : Jn d d) : midO (p ++ d ++ bkw p) = d := by
  obtain ⟨h1, h2⟩ := core_of hp hd hne j
  unfold midO
  rw [h1]
  exact h2
theorem jn_left {a b c : List Nat} (h : Jn (a ++ b) c) (hb : b ≠ []) : Jn b c := fun x y hx hy => by
  refine h x y ?_ hy
  rw [List.getLast?_append, hx]; rfl
theorem mid_step {s : List Nat} {x : Nat} (hs : W s) (ts : tidy s = true) (hx : isL x = true) : Rt (midO s) (midO (red ([x] ++ s ++ [bk x]))) := by
  have hbx : isL (bk x) = true := bk_isL hx
  have pair : red [x, bk x] = [] := red_back (W1 hx)
  have pair' : ∀ {u v : List Nat}, W u → W v → red (u ++ [x, bk x] ++ v) = red (u ++ v) := fun {u v} hu hv => by
    rw [← red_mid hu (W.cons hx (W1 hbx)) hv, pair, List.append_nil]
  by_cases ne : s = []
  · subst ne
    have : red ([x] ++ [] ++ [bk x]) = [] := pair
    rw [this]
    exact Rt.refl _
  · obtain ⟨sp, hN⟩ := core_split hs
    obtain ⟨nd, jd⟩ := core_jn hs ts ne
    have hp : W (s.take (coreN s)) := hs.take _
    have hd : W (midK s (coreN s)) := midK_w hs _
    have em : midO s = midK s (coreN s) := rfl
    rw [em]
    generalize s.take (coreN s) = p at *
    generalize midK s (coreN s) = d at *
    have ts' := ts
    rw [← sp] at ts'
    rw [tidy_app (hp.app hd) hp.bkw, tidy_app hp hd] at ts'
    obtain ⟨⟨tp, td, j1⟩, tb, j2⟩ := ts'
    cases p with
    | nil =>
      rw [List.nil_append, bkw_nil, List.append_nil] at sp
      subst sp
      by_cases b1 : d.head? = some (bk x)
      · cases d with
        | nil => cases b1
        | cons y d' =>
          have ey : some y = some (bk x) := b1
          cases ey
          have hd' := hd.tail
          have e : red ([x] ++ (bk x :: d') ++ [bk x]) = red (d' ++ [bk x]) := by
            have := pair' (u := []) (v := d' ++ [bk x]) W.nil (hd'.app (W1 hbx))
            simpa using this
          have td2 : tidy ([bk x] ++ d') = true := td
          rw [tidy_app (W1 hbx) hd'] at td2
          have jr : Jn d' [bk x] := fun u v hu hv e2 => by
            cases hv
            cases d' with
            | nil => cases hu
            | cons z d' =>
              refine jd u (bk x) ?_ rfl e2
              rw [List.getLast?_cons_cons]; exact hu
          have tr : tidy (d' ++ [bk x]) = true := (tidy_app hd' (W1 hbx)).mpr ⟨td2.2.1, rfl, jr⟩
          have wr : W (d' ++ [bk x]) := hd'.app (W1 hbx)
          have jj : Jn (d' ++ [bk x]) (d' ++ [bk x]) := fun u v hu hv e2 => by
            rw [List.getLast?_append] at hu
            have hu : some (bk x) = some u := hu
            cases hu
            cases d' with
            | nil =>
              have hv : some (bk x) = some v := hv
              cases hv
              exact bk_ne hbx e2.symm
            | cons z d' =>
              have hv : some z = some v := hv
              cases hv
              exact td2.2.2 (bk x) _ rfl rfl e2
          rw [e, (red_self wr).mpr tr, mid_self wr (by simp) jj]
          exact ⟨[bk x], d', rfl, rfl⟩
      · by_cases b2 : d.getLast? = some x
        · have dl : d = d.dropLast ++ [x] := by
            have := List.dropLast_concat_getLast nd
            rw [List.getLast?_eq_some_getLast nd] at b2
            have b2 := Option.some.inj b2
            rw [b2] at this
            exact this.symm
          generalize d.dropLast = d' at dl
          subst dl
          have hd' : W d' := hd.l
          have e : red ([x] ++ (d' ++ [x]) ++ [bk x]) = red ([x] ++ d') := by
            have := pair' (u := [x] ++ d') (v := []) ((W1 hx).app hd') W.nil
            simpa using this
          have td2 := (tidy_app hd' (W1 hx)).mp td
          have jr : Jn [x] d' := fun u v hu hv e2 => by
            cases hu
            refine jd x v (by rw [List.getLast?_append]; rfl) ?_ e2
            cases d' with
            | nil => cases hv
            | cons z d' => exact hv
          have wr : W ([x] ++ d') := (W1 hx).app hd'
          have tr : tidy ([x] ++ d') = true := (tidy_app (W1 hx) hd').mpr ⟨rfl, td2.1, jr⟩
          have jj : Jn ([x] ++ d') ([x] ++ d') := fun u v hu hv e2 => by
            have hv : some x = some v := hv
            cases hv
            rw [List.getLast?_append] at hu
            cases q : d'.getLast? with
            | none =>
              rw [q] at hu
              have hu : some x = some u := hu
              cases hu
              exact bk_ne hx e2.symm
            | some z =>
              rw [q] at hu
              have hu : some z = some u := hu
              cases hu
              exact td2.2.2 _ x q rfl e2
          rw [e, (red_self wr).mpr tr, mid_self wr (by simp) jj]
          exact ⟨d', [x], rfl, rfl⟩
        · have wr : W ([x] ++ d ++ bkw [x]) := ((W1 hx).app hd).app (W1 hx).bkw
          have e : bkw [x] = [bk x] := rfl
          have tr : tidy ([x] ++ d ++ [bk x]) = true := by
            rw [tidy_app ((W1 hx).app hd) (W1 hbx), tidy_app (W1 hx) hd]
            refine ⟨⟨rfl, td, fun u v hu hv e2 => ?_⟩, rfl, fun u v hu hv e2 => ?_⟩
            · cases hu
              exact b1 (by rw [hv, e2]; rfl)
            · cases hv
              rw [List.getLast?_append] at hu
              cases q : d.getLast? with
              | none => rw [List.getLast?_eq_none_iff] at q; exact nd q
              | some z =>
                rw [q] at hu
                have hu : some z = some u := hu
                cases hu
                have := bk_inj hx (hd _ (List.mem_of_getLast? q)) e2
                subst this
                exact b2 q
          rw [e] at wr
          rw [(red_self wr).mpr tr, ← e, mid_of (W1 hx) hd nd jd]
          exact Rt.refl _
    | cons y p =>
      have hy : isL y = true := hp.head
      have hp' := hp.tail
      by_cases a1 : y = bk x
      · subst a1
        have w2 : W (p ++ d ++ bkw p) := (hp'.app hd).app hp'.bkw
        have e : red ([x] ++ s ++ [bk x]) = red (p ++ d ++ bkw p) := by
          rw [← sp, bkw_cons, bk_bk hx]
          have a := pair' (u := []) (v := p ++ d ++ bkw p ++ [x, bk x]) W.nil (w2.app (W.cons hx (W1 hbx)))
          have b := pair' (u := p ++ d ++ bkw p) (v := []) w2 W.nil
          rw [List.append_nil, List.append_nil] at b
          rw [List.nil_append, List.nil_append, b] at a
          rw [← a]
          congr 1
          simp
        have tp2 : tidy ([bk x] ++ p) = true := tp
        rw [tidy_app (W1 hbx) hp'] at tp2
        have j1' : Jn p d := by
          cases p with
          | nil => exact fun u v hu => (nomatch hu)
          | cons z p => exact jn_left (a := [bk x]) (b := z :: p) j1 (by simp)
        have tb2 : tidy (bkw p ++ [bk (bk x)]) = true := by rw [← bkw_cons]; exact tb
        rw [tidy_app hp'.bkw (W1 (bk_isL hbx))] at tb2
        have j2' : Jn (p ++ d) (bkw p) := by
          intro u v hu hv
          refine j2 u v ?_ ?_
          · rw [List.getLast?_append] at hu
            show (([bk x] ++ p) ++ d).getLast? = some u
            rw [List.getLast?_append]
            cases q : d.getLast? with
            | none => rw [List.getLast?_eq_none_iff] at q; exact absurd q nd
            | some z => rw [q] at hu; exact hu
          · rw [bkw_cons]
            cases q : bkw p with
            | nil => rw [q] at hv; cases hv
            | cons z r => rw [q] at hv; exact hv
        have t2 : tidy (p ++ d ++ bkw p) = true := by
          rw [tidy_app (hp'.app hd) hp'.bkw, tidy_app hp' hd]
          exact ⟨⟨tp2.2.1, td, j1'⟩, tb2.1, j2'⟩
        rw [e, (red_self w2).mpr t2, mid_of hp' hd nd jd]
        exact Rt.refl _
      · have w2 : W ([x] ++ s ++ [bk x]) := ((W1 hx).app hs).app (W1 hbx)
        have hs0 : s.head? = some y := by rw [← sp]; rfl
        have hl : s.getLast? = some (bk y) := by
          rw [← sp, bkw_cons, List.getLast?_append, List.getLast?_append]; rfl
        have t2 : tidy ([x] ++ s ++ [bk x]) = true := by
          rw [tidy_app ((W1 hx).app hs) (W1 hbx), tidy_app (W1 hx) hs]
          refine ⟨⟨rfl, ts, fun u v hu hv e2 => ?_⟩, rfl, fun u v hu hv e2 => ?_⟩
          · cases hu
            rw [hs0] at hv
            cases hv
            exact a1 e2
          · cases hv
            rw [List.getLast?_append, hl] at hu
            have hu : some (bk y) = some u := hu
            cases hu
            rw [bk_bk hy] at e2
            exact a1 e2.symm
        have e : [x] ++ s ++ [bk x] = (x :: y :: p) ++ d ++ bkw (x :: y :: p) := by
          rw [bkw_cons x, ← sp]
          simp only [List.append_assoc, List.cons_append, List.nil_append]
        rw [(red_self w2).mpr t2, e, mid_of (W.cons hx hp) hd nd jd]
        exact Rt.refl _
theorem mid_conj {s : List Nat} (hs : W s) : ∀ {b : List Nat}, W b → Rt (midO (red s)) (midO (red (b ++ s ++ bkw b)))
  | [], _ => by rw [List.nil_append, bkw_nil, List.append_nil]; exact Rt.refl _
  | x :: b, hb => by
    have hx := hb.head
    have hb' := hb.tail
    have w1 : W (b ++ s ++ bkw b) := (hb'.app hs).app hb'.bkw
    have e : red (x :: b ++ s ++ bkw (x :: b)) = red ([x] ++ red (b ++ s ++ bkw b) ++ [bk x]) := by
      rw [red_mid (W1 hx) w1 (W1 (bk_isL hx)), bkw_cons]
      congr 1
      simp only [List.append_assoc, List.cons_append, List.nil_append]
    rw [e]
    exact (mid_conj hs hb').trans (mid_step (red_w w1) ((red_self (red_w w1)).mp (red_red w1)) hx)
theorem mid_tidy {s : List Nat} (hs : W s) (ts : tidy s = true) : tidy (midO s) = true := by
  obtain ⟨sp, hN⟩ := core_split hs
  have hp : W (s.take (coreN s)) := hs.take _
  have hd : W (midK s (coreN s)) := midK_w hs _
  have em : midO s = midK s (coreN s) := rfl
  rw [em]
  generalize s.take (coreN s) = p at *
  generalize midK s (coreN s) = d at *
  rw [← sp] at ts
  rw [tidy_app (hp.app hd) hp.bkw, tidy_app hp hd] at ts
  exact ts.1.2.1
end GB
namespace GB
open PySem PySem.Spec PyProof.Rows L2
section
variable {X : Cx} {C : Ct} {a b e : Expr} {fa fb fe : Rho → Rs Opd} {rest : List Expr} {pos p : Pos}
def eOrU (fa fb : Rho → Rs Opd) : Rho → Rs Opd := fun r => (fa r).bind fun o r1 => match res r1 o with
  | some s => (match tru s with | some true => .ok o r1 | some false => fb r1 | none => .st)
  | none => .st
@[simp] theorem s_eOrU {r : Rho} : eOrU fa fb r = (fa r).bind fun o r1 => match res r1 o with
  | some s => (match tru s with | some true => .ok o r1 | some false => fb r1 | none => .st)
  | none => .st := rfl
end
end GB
namespace GB
open PySem PySem.Spec PyProof.Rows L2
end GB
namespace GB
open PySem PySem.Spec PyProof.Rows L2
/-- a function that is not unfolded by itself -/
noncomputable def lockF {α : Type} (f : α) : α := Classical.choose (⟨f, rfl⟩ : ∃ g, g = f)
theorem lockF_eq {α : Type} (f : α) : lockF f = f := Classical.choose_spec (⟨f, rfl⟩ : ∃ g, g = f)
theorem runF_rt {n : Nat} {f : Rho → Fl} {ss o : List S} {r0 r : Rho} {s : S} (e0 : startR n ss = r0) (h : f r0 = .rt s r) (ho : outsL ss r = o) : runF n f ss = .ok s o := by
  rw [s_runF, e0, h, ← ho]
end GB
namespace GB
open PySem PySem.Spec PyProof.Rows L2 RZ
end GB
namespace GB
open PySem PySem.Spec PyProof.Rows L2
theorem getD_put (kvs : List (Key × D)) (k j : Key) (v : D) : getD (putD kvs k v) j = if j = k then some v else getD kvs j := by
  unfold putD
  by_cases h : (kvs.any fun kv => decide (kv.1 = k)) = true
  · rw [if_pos h]
    induction kvs with
    | nil => cases h
    | cons p r ih =>
      rw [List.map_cons]
      unfold getD
      rw [List.find?_cons, List.find?_cons]
      by_cases e : p.1 = k
      · rw [if_pos e]
        by_cases ej : j = k
        · subst ej; simp [e]
        · have n1 : ¬ p.1 = j := fun z => ej (z.symm.trans e)
          simp only [decide_eq_false n1, if_neg ej]
          by_cases h2 : (r.any fun kv => decide (kv.1 = k)) = true
          · have := ih h2; unfold getD at this; rw [if_neg ej] at this; exact this
          · have e3 : (r.map fun kv => if kv.1 = k then (kv.1, v) else kv) = r := by
              have hn : ∀ x ∈ r, (if x.1 = k then (x.1, v) else x) = x := fun x hx => if_neg fun z => h2 (List.any_eq_true.mpr ⟨x, hx, decide_eq_true z⟩)
              conv => rhs; rw [← List.map_id r]
              exact List.map_congr_left hn
            rw [e3]
      · rw [if_neg e]
        have h2 : (r.any fun kv => decide (kv.1 = k)) = true := by
          rw [List.any_cons, decide_eq_false e, Bool.false_or] at h; exact h
        have ih := ih h2
        unfold getD at ih
        by_cases ej : p.1 = j
        · have n2 : ¬ j = k := fun z => e (ej.trans z)
          simp only [decide_eq_true ej, if_neg n2]
        · simp only [decide_eq_false ej]; exact ih
  · rw [if_neg h]
    induction kvs with
    | nil =>
      unfold getD
      by_cases e : j = k
      · subst e; simp
      · have : ¬ k = j := fun z => e z.symm
        simp [e, this]
    | cons p r ih =>
      have h' : ¬ (p.1 = k) ∧ ¬ (r.any fun kv => decide (kv.1 = k)) = true := by
        rw [List.any_cons, Bool.or_eq_true, not_or] at h
        exact ⟨fun z => h.1 (decide_eq_true z), h.2⟩
      have ih := ih h'.2
      unfold getD at ih ⊢
      rw [List.cons_append, List.find?_cons, List.find?_cons]
      by_cases ej : p.1 = j
      · have n2 : ¬ j = k := fun z => h'.1 (ej.trans z)
        simp only [decide_eq_true ej, if_neg n2]
      · simp only [decide_eq_false ej]; exact ih
theorem putD_len (kvs : List (Key × D)) (k : Key) (v : D) : (putD kvs k v).length ≤ kvs.length + 1 := by
  unfold putD
  split
  · rw [List.length_map]; omega
  · rw [List.length_append, List.length_singleton]; omega
@[simp] theorem s_ixD {kvs : List (Key × D)} {k : Int} : qIx [.od kvs, .fz (.int k)] = (getD kvs (.inl k)).map .fz := rfl
@[simp] theorem s_putD {kvs : List (Key × D)} {v : D} {k : Int} : mPut (.od kvs) [v, .int k] = if decide (kvs.length < 16777216) then some (.od (putD kvs (.inl k) v), .non) else none := rfl
/-- k not in a dict of whole numbers -/
theorem notIn_di (i : Int) (kvs : List (Key × D)) : qNotIn [.fz (.int i), .od kvs] = some (.fz (.bl (!(getD kvs (.inl i)).isSome))) := by
  unfold qNotIn
  rw [s_orP]
  rfl
end GB
namespace GB
open PySem PySem.Spec PyProof.Rows L2
/-- from x along s, and then to e -/
def Lk (f : Nat → Nat) : Nat → List Nat → Nat → Prop
  | x, [], e => f x = e
  | x, y :: s, e => f x = y ∧ Lk f y s e
theorem lk_app {f : Nat → Nat} : ∀ {s : List Nat} {x y e : Nat} {t : List Nat}, Lk f x (s ++ y :: t) e ↔ Lk f x s y ∧ Lk f y t e
  | [], x, y, e, t => Iff.rfl
  | z :: s, x, y, e, t => by
    show f x = z ∧ Lk f z (s ++ y :: t) e ↔ (f x = z ∧ Lk f z s y) ∧ _
    rw [lk_app, and_assoc]
theorem lk_one {f : Nat → Nat} : ∀ {s t : List Nat} {x e : Nat}, Lk f x s e → Lk f x t e → e ∉ s → e ∉ t → s = t
  | [], [], _, _, _, _, _, _ => rfl
  | [], y :: t, x, e, h, k, _, ht => absurd (show e ∈ y :: t by rw [← show f x = e from h, k.1]; exact List.mem_cons_self ..) ht
  | y :: s, [], x, e, h, k, hs, _ => absurd (show e ∈ y :: s by rw [← show f x = e from k, h.1]; exact List.mem_cons_self ..) hs
  | y :: s, z :: t, x, e, h, k, hs, ht => by
    obtain ⟨h1, h2⟩ := h
    obtain ⟨k1, k2⟩ := k
    obtain rfl : y = z := h1.symm.trans k1
    rw [lk_one h2 k2 (fun q => hs (List.mem_cons_of_mem _ q)) (fun q => ht (List.mem_cons_of_mem _ q))]
/-- another map, alike but at the begin -/
theorem lk_from {f g : Nat → Nat} {a b : Nat} : ∀ {s : List Nat} {e : Nat}, Lk f a s e → g b = f a → (∀ c ∈ s, g c = f c) → Lk g b s e
  | [], e, h, hb, _ => hb.trans h
  | y :: s, e, h, hb, hs => ⟨hb.trans h.1, lk_from h.2 (hs y (List.mem_cons_self ..)) fun c hc => hs c (List.mem_cons_of_mem _ hc)⟩
/-- a round -/
def Orb (f : Nat → Nat) (u : List Nat) : Prop := ∃ x s, u = x :: s ∧ Lk f x s x
theorem Orb.rt {f : Nat → Nat} {u v : List Nat} (h : Orb f u) (r : Rt u v) : Orb f v := by
  obtain ⟨x, s, rfl, h⟩ := h
  obtain ⟨a, b, e, rfl⟩ := r
  cases a with
  | nil => rw [List.append_nil]; exact ⟨x, s, e.symm, h⟩
  | cons y a =>
    cases b with
    | nil =>
      rw [List.append_nil] at e
      exact ⟨x, s, e.symm, h⟩
    | cons z b =>
      cases e
      obtain ⟨h1, h2⟩ := lk_app.mp h
      exact ⟨z, b ++ x :: a, rfl, lk_app.mpr ⟨h2, h1⟩⟩
/-- the rounds of a map of X, each letter in one -/
def CD (f : Nat → Nat) (X : List Nat) (A : List (List Nat)) : Prop := (∀ u ∈ A, Orb f u) ∧ A.flatten.Perm X
theorem flat_perm {A B : List (List Nat)} (h : A.Perm B) : A.flatten.Perm B.flatten := by
  induction h with
  | nil => exact List.Perm.refl _
  | cons x _ ih => rw [List.flatten_cons, List.flatten_cons]; exact ih.append_left x
  | swap x y l =>
    rw [List.flatten_cons, List.flatten_cons, List.flatten_cons, List.flatten_cons, ← List.append_assoc, ← List.append_assoc]
    exact List.perm_append_comm.append_right _
  | trans _ _ h1 h2 => exact h1.trans h2
theorem Rt.perm {a b : List Nat} (h : Rt a b) : a.Perm b := by
  obtain ⟨u, v, rfl, rfl⟩ := h
  exact List.perm_append_comm
theorem CD.perm {f : Nat → Nat} {X : List Nat} {A B : List (List Nat)} (c : CD f X A) (h : A.Perm B) : CD f X B :=
  ⟨fun u hu => c.1 u (h.mem_iff.mpr hu), (flat_perm h.symm).trans c.2⟩
/-- a letter's round, begun with it -/
theorem CD.pick {f : Nat → Nat} {X : List Nat} {A : List (List Nat)} (c : CD f X A) {x : Nat} (hx : x ∈ X) : ∃ u s A1, A.Perm (u :: A1) ∧ Rt u (x :: s) ∧ Lk f x s x ∧ CD f X ((x :: s) :: A1) := by
  obtain ⟨u, hu, hxu⟩ := List.mem_flatten.mp (c.2.mem_iff.mpr hx)
  obtain ⟨A1, hp⟩ : ∃ A1, A.Perm (u :: A1) := ⟨A.erase u, List.perm_cons_erase hu⟩
  obtain ⟨p, q, rfl⟩ := List.append_of_mem hxu
  have r : Rt (p ++ x :: q) (x :: (q ++ p)) := ⟨p, x :: q, rfl, rfl⟩
  have o := (c.1 _ hu).rt r
  obtain ⟨y, t, e, l⟩ := o
  cases e
  refine ⟨_, q ++ p, A1, hp, r, l, fun v hv => ?_, ?_⟩
  · rcases List.mem_cons.mp hv with rfl | hv
    · exact ⟨x, q ++ p, rfl, l⟩
    · exact c.1 v (hp.mem_iff.mpr (List.mem_cons_of_mem _ hv))
  · have := (flat_perm hp).symm.trans c.2
    rw [List.flatten_cons] at this ⊢
    exact (r.perm.symm.append_right _).trans this
theorem perm_cancel {a b c : List Nat} (h : (a ++ b).Perm (a ++ c)) : b.Perm c := (List.perm_append_left_iff a).mp h
/-- the rounds are told by the map, up to turning and their order -/
theorem CD.one {f : Nat → Nat} : ∀ {A B : List (List Nat)} {X : List Nat}, X.Nodup → CD f X A → CD f X B → (A.map leastTurn).Perm (B.map leastTurn)
  | [], B, X, _, ca, cb => by
    have e : X = [] := List.Perm.nil_eq ca.2 |>.symm
    subst e
    have z : B.flatten = [] := cb.2.eq_nil
    cases B with
    | nil => exact List.Perm.refl _
    | cons v B =>
      obtain ⟨x, s, rfl, _⟩ := cb.1 v (List.mem_cons_self ..)
      simp at z
  | u :: A, B, X, nd, ca, cb => by
    obtain ⟨x, s, rfl, l⟩ := ca.1 u (List.mem_cons_self ..)
    have hx : x ∈ X := ca.2.mem_iff.mp (by simp)
    obtain ⟨v, t, B1, hp, r, l2, cb2⟩ := cb.pick hx
    have na : (x :: s ++ A.flatten).Nodup := ca.2.nodup_iff.mpr nd
    have nb : (x :: t ++ B1.flatten).Nodup := by
      have := cb2.2.nodup_iff.mpr nd
      rwa [List.flatten_cons] at this
    have n1 : x ∉ s := (List.nodup_cons.mp (List.nodup_append.mp na).1).1
    have n2 : x ∉ t := (List.nodup_cons.mp (List.nodup_append.mp nb).1).1
    have est : s = t := lk_one l l2 n1 n2
    subst est
    have pa : (x :: s ++ A.flatten).Perm X := ca.2
    have pb : (x :: s ++ B1.flatten).Perm X := by have := cb2.2; rwa [List.flatten_cons] at this
    have pr : B1.flatten.Perm A.flatten := perm_cancel (pb.trans pa.symm)
    have ih := CD.one (f := f) (A := A) (B := B1) (X := A.flatten) (List.nodup_append.mp na).2.1 ⟨fun u hu => ca.1 u (List.mem_cons_of_mem _ hu), List.Perm.refl _⟩ ⟨fun u hu => cb2.1 u (List.mem_cons_of_mem _ hu), pr⟩
    have h1 : (B.map leastTurn).Perm ((v :: B1).map leastTurn) := hp.map _
    rw [List.map_cons, least_iff.mpr r] at h1
    rw [List.map_cons]
    exact (ih.cons _).trans h1.symm
/-- two letters' ways on exchanged: a round more, or a round fewer -/
theorem CD.swap {f g : Nat → Nat} {X : List Nat} (nd : X.Nodup) {A : List (List Nat)} (c : CD f X A) {x y : Nat} (hx : x ∈ X) (hy : y ∈ X) (ne : x ≠ y) (gx : g x = f y) (gy : g y = f x) (go : ∀ c ∈ X, c ≠ x → c ≠ y → g c = f c) :
    ∃ B, CD g X B ∧ (B.length = A.length + 1 ∨ B.length + 1 = A.length) := by
  obtain ⟨u, s, A1, hp, r, l, c1⟩ := c.pick hx
  have la : A.length = A1.length + 1 := by rw [hp.length_eq]; rfl
  have nx' : (x :: s ++ A1.flatten).Nodup := by have := c1.2.nodup_iff.mpr nd; rwa [List.flatten_cons] at this
  have pX : (x :: s ++ A1.flatten).Perm X := by have := c1.2; rwa [List.flatten_cons] at this
  by_cases h : y ∈ s
  · obtain ⟨s1, s2, rfl⟩ := List.append_of_mem h
    obtain ⟨l1, l2⟩ := lk_app.mp l
    have n0 := (List.nodup_append.mp nx').1
    have inX : ∀ c ∈ x :: (s1 ++ y :: s2), c ∈ X := fun c hc => pX.mem_iff.mp (List.mem_append_left _ hc)
    have nx1 : x ∉ s1 ++ y :: s2 := (List.nodup_cons.mp n0).1
    have n3 := (List.nodup_cons.mp n0).2
    have ny1 : y ∉ s1 := fun q => (List.nodup_append.mp n3).2.2 y q y (List.mem_cons_self ..) rfl
    have ny2 : y ∉ s2 := (List.nodup_cons.mp (List.nodup_append.mp n3).2.1).1
    have m1 : Lk g y s1 y := lk_from l1 gy fun c hc => go c (inX c (by simp [hc])) (fun e => nx1 (by simp [← e, hc])) (fun e => ny1 (e ▸ hc))
    have m2 : Lk g x s2 x := lk_from l2 gx fun c hc => go c (inX c (by simp [hc])) (fun e => nx1 (by simp [← e, hc])) (fun e => ny2 (e ▸ hc))
    refine ⟨(x :: s2) :: (y :: s1) :: A1, ⟨fun v hv => ?_, ?_⟩, .inl (by simp [la])⟩
    · rcases List.mem_cons.mp hv with rfl | hv
      · exact ⟨x, s2, rfl, m2⟩
      · rcases List.mem_cons.mp hv with rfl | hv
        · exact ⟨y, s1, rfl, m1⟩
        · obtain ⟨z, t, rfl, lz⟩ := c1.1 v (List.mem_cons_of_mem _ hv)
          have out : ∀ c ∈ z :: t, g c = f c := fun c hc => by
            have mf : c ∈ A1.flatten := List.mem_flatten.mpr ⟨_, hv, hc⟩
            have dj := (List.nodup_append.mp nx').2.2
            exact go c (pX.mem_iff.mp (List.mem_append_right _ mf)) (fun e => dj x (List.mem_cons_self ..) c mf e.symm) (fun e => dj y (by simp) c mf e.symm)
          exact ⟨z, t, rfl, lk_from lz (out z (List.mem_cons_self ..)) fun c hc => out c (List.mem_cons_of_mem _ hc)⟩
    · rw [List.flatten_cons, List.flatten_cons, ← List.append_assoc]
      refine (List.Perm.append_right _ ?_).trans pX
      show (x :: (s2 ++ y :: s1)).Perm (x :: (s1 ++ y :: s2))
      refine List.Perm.cons _ ?_
      refine (List.perm_append_comm (l₁ := s2) (l₂ := y :: s1)).trans ?_
      show (y :: (s1 ++ s2)).Perm _
      exact List.perm_middle.symm
  · have hyA : y ∈ A1.flatten := by
      have := pX.mem_iff.mpr hy
      rcases List.mem_append.mp this with z | z
      · rcases List.mem_cons.mp z with z | z
        · exact absurd z.symm ne
        · exact absurd z h
      · exact z
    have c2 : CD f A1.flatten A1 := ⟨fun v hv => c1.1 v (List.mem_cons_of_mem _ hv), List.Perm.refl _⟩
    obtain ⟨v, t, A2, hp2, r2, l2, c3⟩ := c2.pick hyA
    have p2 : (y :: t ++ A2.flatten).Perm A1.flatten := by have := c3.2; rwa [List.flatten_cons] at this
    have pX2 : (x :: s ++ (y :: t ++ A2.flatten)).Perm X := (p2.append_left _).trans pX
    have nd2 := pX2.nodup_iff.mpr nd
    have n1 := (List.nodup_append.mp nd2).1
    have n2 := (List.nodup_append.mp nd2).2.1
    have d12 := (List.nodup_append.mp nd2).2.2
    have n3 := (List.nodup_append.mp n2).1
    have d23 := (List.nodup_append.mp n2).2.2
    have ms : ∀ c ∈ s, g c = f c := fun c hc => go c (pX2.mem_iff.mp (by simp [hc])) (fun e => (List.nodup_cons.mp n1).1 (e ▸ hc)) (fun e => d12 c (by simp [hc]) y (by simp) e)
    have mt : ∀ c ∈ t, g c = f c := fun c hc => go c (pX2.mem_iff.mp (by simp [hc])) (fun e => d12 x (by simp) c (by simp [hc]) e.symm) (fun e => (List.nodup_cons.mp n3).1 (e ▸ hc))
    have m1 : Lk g x t y := lk_from l2 gx mt
    have m2 : Lk g y s x := lk_from l gy ms
    refine ⟨(x :: (t ++ y :: s)) :: A2, ⟨fun v hv => ?_, ?_⟩, .inr (by rw [la, hp2.length_eq]; simp)⟩
    · rcases List.mem_cons.mp hv with rfl | hv
      · exact ⟨x, t ++ y :: s, rfl, lk_app.mpr ⟨m1, m2⟩⟩
      · obtain ⟨z, q, rfl, lz⟩ := c3.1 v (List.mem_cons_of_mem _ hv)
        have out : ∀ c ∈ z :: q, g c = f c := fun c hc => by
          have mf : c ∈ A2.flatten := List.mem_flatten.mpr ⟨_, hv, hc⟩
          exact go c (pX2.mem_iff.mp (by simp only [List.mem_append]; exact .inr (.inr mf))) (fun e => d12 x (by simp) c (List.mem_append_right _ mf) e.symm) (fun e => d23 y (by simp) c mf e.symm)
        exact ⟨z, q, rfl, lk_from lz (out z (List.mem_cons_self ..)) fun c hc => out c (List.mem_cons_of_mem _ hc)⟩
    · rw [List.flatten_cons]
      refine List.Perm.trans ?_ pX2
      show (x :: (t ++ y :: s) ++ A2.flatten).Perm (x :: s ++ (y :: t ++ A2.flatten))
      rw [← List.append_assoc]
      refine List.Perm.append_right _ ?_
      show (x :: (t ++ y :: s)).Perm (x :: (s ++ y :: t))
      refine List.Perm.cons _ ?_
      refine (List.perm_append_comm (l₁ := t) (l₂ := y :: s)).trans ?_
      show (y :: (s ++ t)).Perm _
      exact List.perm_middle.symm
end GB
namespace GB
open PySem PySem.Spec PyProof.Rows L2
/-- what doesn't raise -/
def noX (f : Rho → Rs Opd) : Rho → Rs Opd := fun r => match f r with | .ok o r1 => .ok o r1 | _ => .st
@[simp] theorem noX_def {f : Rho → Rs Opd} {r : Rho} : noX f r = (match f r with | .ok o r1 => .ok o r1 | _ => .st) := rfl
structure FnGN (P : Program) (w : World) (K : PySem.W.Frag) (mg : Str → Option Value) (base : Heap) (k : Nat) (f : Addr) (fd : FuncData) (ps : List Str) (sp : Sp) : Prop where
  len : ∀ vs H Q E, sp vs H Q E → vs.length = ps.length
  go : ∀ (A : Around) (l : List Env) (t : Shared) (H : Hp) (args : Args) (us : List Value) (vs : List V) (Q : VK) (E : XK), Room k A → A.guards = some [] → Env0 P w K mg base A l t H →
    BindsTo t fd args (ps.zip us) → Vals vs us → sp vs H Q E → codeAny (model P w) A (.call (.ref f) args) (CR (L2N.CX P w) l P w H t Q E) t
section
variable {P : Program} {w : World} {K : PySem.W.Frag} {mg : Str → Option Value} {base : Heap}
theorem cx_plain {l : List Env} {H : Hp} {s : Shared} {E : XK} {u : Value} {s' : Shared} (h : L2N.CX P w l H s E u s') : L2.CX P w l H s E u s' := by
  obtain ⟨a, B, H', cls, d, e, fl, r⟩ := h
  exact ⟨a, B, H', cls, d, e, L2H.flyingZ_imp (fun o z => z.zc) fl, r⟩
theorem FnGN.plain {k : Nat} {f : Addr} {fd : FuncData} {ps : List Str} {sp : Sp} (F : FnGN P w K mg base k f fd ps sp) : FnG P w K mg base k f fd ps sp :=
  ⟨F.len, fun A l t H args us vs Q E hr gu e b r q => codeAny_mono (F.go A l t H args us vs Q E hr gu e b r q) fun res t' z => by
    cases res with
    | error ex => exact cx_plain z
    | ok fl => cases fl <;> exact z⟩
end
section
variable {X : Cx} {C : Ct} {k n : Nat} {f : Addr} {fd : FuncData} {ps : List Str} {x : Str} {p pos : Pos} {e : Expr} {es : List Expr} {F : Fs} {fa fs : Rho → Rs (List Opd)}
/-- a def of the module whose exceptions bear no context -/
def DefOkN (P : Program) (w : World) (K : PySem.W.Frag) (mg : Str → Option Value) (base : Heap) (k : Nat) (x : Str) (ps : List Str) (F : Fs) : Prop :=
  ∃ f fd, FnGN P w K mg base k f fd ps (spF (ct0 K mg) ps.length F) ∧ mg x = some (.ref f) ∧ PySem.W.keepIn K (.ref f) = true ∧ Binds K fd ps []
theorem DefOkN.plain {P : Program} {w : World} {K : PySem.W.Frag} {mg : Str → Option Value} {base : Heap} (h : DefOkN P w K mg base k x ps F) : DefOk P w K mg base k x ps F := by
  obtain ⟨f, fd, G, r⟩ := h
  exact ⟨f, fd, G.plain, r⟩
end
end GB
namespace GB
open PySem PySem.Spec PyProof.Rows L2 HotX
end GB
namespace GB
open PySem PySem.Spec PyProof.Rows L2
end GB
namespace GB
open PySem PySem.Spec PyProof.Rows L2
end GB
namespace GB
open PySem PySem.Spec PyProof.Rows L2
end GB
namespace GB
open PySem PySem.Spec PyProof.Rows L2
end GB
namespace GB
open PySem PySem.Spec PyProof.Rows L2
end GB
namespace GB
open PySem PySem.Spec PyProof.Rows L2
end GB
namespace GB
open PySem PySem.Spec PyProof.Rows L2
end GB
namespace GB
open PySem PySem.Spec PyProof.Rows L2
section
variable {X : Cx} {C : Ct}
/-- a tuple whose object is known -/
theorem SqX.at {pins : List (Addr × Obj)} {σ : St} {H : Hp} {s : Shared} {p : Addr} {xs : List V} (h : SqX X.K H p xs) (I : Inv X pins σ H s) : ∃ o, s.heap.get? p = some o ∧ o.cls = .type "tuple" ∧ o.dict = none := by
  rcases h with ⟨o, t, h⟩ | ⟨o, its, n, h1, h2, h3, _⟩
  · exact ⟨o, (I.hok p _ h).1, t.1, t.2⟩
  · exact ⟨o, I.kIn p o h1, h2, h3⟩
variable {o e : Expr} {es : List Expr} {to : TE} {t : TA} {name : Str} {apos cpos : Pos} {id : String} {r : V → List V → Hp → VK → Prop}
variable {fe fo : Rho → Rs Opd}
end
end GB
namespace GB
open PySem PySem.Spec PyProof.Rows L2
end GB
namespace GB
open PySem PySem.Spec PyProof.Rows L2
theorem lc_lol {fs : Rho → Rs (List Opd)} {mk : List S → Option (List D)} {fg : D → Rho → Option Rho} {ft : Rho → Rs Bool} {fe : Rho → Rs Opd} {vs : List Nat} {r r1 r3 : Rho} {i : Nat} {es ds acc : List D} (h : fs r = .ok [.loc i] r1) (hi : r1[i]? = some (some (.ol es))) (hk : mk [.lk es] = some ds) (hs : softs (r1.set i (some (.lk es))) vs = true) (hc : cmpL fg ft fe vs ds (wipeR (r1.set i (some (.lk es))) vs) [] = .ok acc r3) :
    eLc fs mk fg ft fe vs r = .ok (.val (.ol acc)) ((restR (r1.set i (some (.lk es))) r3 vs).set i (some (.ol es))) := by
  unfold eLc
  rw [h]
  have e : lockAll [.loc i] r1 = some ([.lk es], r1.set i (some (.lk es)), [(i, .ol es)]) := by simp [hi]
  show (match lockAll [.loc i] r1 with
    | some (ss, r2, u) => (match mk ss with
      | some ds => if softs r2 vs then (match cmpL fg ft fe vs ds (wipeR r2 vs) [] with | .ok acc r3 => Rs.ok (Opd.val (.ol acc)) (unlR u (restR r2 r3 vs)) | _ => .st) else .st
      | none => .st)
    | none => .st) = _
  rw [e]
  dsimp only
  rw [hk]
  dsimp only
  rw [if_pos hs, hc]
  rfl
theorem lc_ol {fs : Rho → Rs (List Opd)} {mk : List S → Option (List D)} {fg : D → Rho → Option Rho} {ft : Rho → Rs Bool} {fe : Rho → Rs Opd} {vs : List Nat} {r r1 r3 : Rho} {es ds acc : List D} (h : fs r = .ok [.val (.ol es)] r1) (hk : mk [.lk es] = some ds) (hs : softs r1 vs = true) (hc : cmpL fg ft fe vs ds (wipeR r1 vs) [] = .ok acc r3) :
    eLc fs mk fg ft fe vs r = .ok (.val (.ol acc)) (restR r1 r3 vs) := by
  unfold eLc
  rw [h]
  have e : lockAll [.val (.ol es)] r1 = some ([.lk es], r1, []) := rfl
  show (match lockAll [.val (.ol es)] r1 with
    | some (ss, r2, u) => (match mk ss with
      | some ds => if softs r2 vs then (match cmpL fg ft fe vs ds (wipeR r2 vs) [] with | .ok acc r3 => Rs.ok (Opd.val (.ol acc)) (unlR u (restR r2 r3 vs)) | _ => .st) else .st
      | none => .st)
    | none => .st) = _
  rw [e]
  dsimp only
  rw [hk]
  dsimp only
  rw [if_pos hs, hc]
  rfl
structure Row (s : Nat) (r : List Nat) : Prop where
  len : r.length = s
  lt : ∀ x ∈ r, x < s
  nd : r.Nodup
def Tbl (m s : Nat) (t : List (List Nat)) : Prop := t.length = m ∧ ∀ r ∈ t, Row s r
theorem Row.mem {s : Nat} {r : List Nat} (h : Row s r) {x : Nat} (hx : x < s) : x ∈ r := by
  by_cases c : x ∈ r
  · exact c
  · have nd : (x :: r).Nodup := List.nodup_cons.mpr ⟨c, h.nd⟩
    have sub : (x :: r) ⊆ List.range s := fun y hy => by
      rw [List.mem_range]
      rcases List.mem_cons.mp hy with rfl | hy
      · exact hx
      · exact h.lt y hy
    have := List.Nodup.length_le_of_subset nd sub
    rw [List.length_cons, h.len, List.length_range] at this
    omega
theorem Row.at {s : Nat} {r : List Nat} (h : Row s r) {x : Nat} (hx : x < s) : r[x]? = some (r.getD x 0) ∧ r.getD x 0 < s := by
  have hl : x < r.length := by rw [h.len]; exact hx
  have e : r[x]? = some r[x] := List.getElem?_eq_getElem hl
  have e2 : r.getD x 0 = r[x] := by rw [List.getD_eq_getElem?_getD, e]; rfl
  exact ⟨by rw [e2]; exact e, by rw [e2]; exact h.lt _ (List.getElem_mem hl)⟩
theorem Tbl.row {m s : Nat} {t : List (List Nat)} (h : Tbl m s t) {i : Nat} (hi : i < m) : t[i]? = some (t.getD i []) ∧ Row s (t.getD i []) := by
  have hl : i < t.length := by rw [h.1]; exact hi
  have e : t[i]? = some t[i] := List.getElem?_eq_getElem hl
  have e2 : t.getD i [] = t[i] := by rw [List.getD_eq_getElem?_getD, e]; rfl
  exact ⟨by rw [e2]; exact e, by rw [e2]; exact h.2 _ (List.getElem_mem hl)⟩
end GB
namespace GB
open PySem PySem.Spec PyProof.Rows L2
end GB
namespace GB
open PySem PySem.Spec PyProof.Rows L2
end GB
namespace GB
open PySem PySem.Spec PyProof.Rows L2
end GB
namespace GB
open PySem PySem.Spec PyProof.Rows L2
end GB
namespace GB
open PySem PySem.Spec PyProof.Rows L2
end GB
namespace GB
open PySem PySem.Spec PyProof.Rows L2
/-- an object that is no locked dict -/
def NoFd (o : HO) : Prop := ∀ q kvs, o ≠ .frz q (.dK kvs)
structure MonoX (W : Addr → Prop) (H : Hp) (W' : Addr → Prop) (H' : Hp) : Prop where
  lv : ∀ a, W a → Lv H a
  keep : ∀ a o, ¬ W a → NoFd o → H a = some o → H' a = some o
  free : ∀ a o, ¬ W a → NoFd o → H a = some o → ¬ W' a
section
variable {K : PySem.W.Frag} {U U' W W' : Addr → Prop} {H H' : Hp}
theorem MonoX.tup (m : MonoX W H W' H') {a : Addr} {xs : List V} (h : SqX K H a xs) : SqX K H' a xs := by
  rcases h with ⟨o, t, h⟩ | h
  · have n : ¬ W a := fun w => (m.lv a w).fzn h
    exact .inl ⟨o, t, m.keep a _ n (fun q kvs z => by injection z with _ z; cases z) h⟩
  · exact .inr h
theorem MonoX.scr (m : MonoX W H W' H') {a : Addr} {xs : List V} (h : Scr K H a xs) : Scr K H' a xs := by
  rcases h with ⟨o, h⟩ | h
  · have n : ¬ W a := fun w => (m.lv a w).fzn h
    exact .inl ⟨o, m.keep a _ n (fun q kvs z => by injection z with _ z; cases z) h⟩
  · exact .inr h
end
end GB
namespace GB
open PySem PySem.Spec PyProof.Rows L2
section
variable {X : Cx} {C : Ct} {a : Expr} {fa : Rho → Rs Opd} {p pos : Pos}
def isDo (o : Opd) (r : Rho) : Bool := match resAll r [o] with
  | some [s] => (asDr s).isSome
  | _ => false
def fGet1 (a b : S) : Option S := match asDr a, b with
  | some kvs, .fz k => (match keyD k with | some k => some (.fz ((getD kvs k).getD .non)) | none => none)
  | _, _ => none
def fGet2 (a b c : S) : Option S := match asDr a, b, c with
  | some kvs, .fz k, .fz z => (match keyD k with | some k => some (.fz ((getD kvs k).getD z)) | none => none)
  | _, _, _ => none
def eGet1 (fa fb : Rho → Rs Opd) : Rho → Rs Opd := fun r => (fa r).bind fun o r1 => if isDo o r1 then (fb r1).bind (fun o2 r2 => eP (p2 fGet1) [o, o2] r2) else .st
def eGet2 (fa fb fc : Rho → Rs Opd) : Rho → Rs Opd := fun r => (fa r).bind fun o r1 => if isDo o r1 then (fb r1).bind (fun o2 r2 => (fc r2).bind fun o3 r3 => eP (p3 fGet2) [o, o2, o3] r3) else .st
@[simp] theorem s_get1 {kvs : List (Key × D)} {k : D} : fGet1 (.od kvs) (.fz k) = (match keyD k with | some k => some (.fz ((getD kvs k).getD .non)) | none => none) := rfl
@[simp] theorem s_get1b {kvs : List (Key × D)} {k : D} : fGet1 (.bd kvs) (.fz k) = (match keyD k with | some k => some (.fz ((getD kvs k).getD .non)) | none => none) := rfl
@[simp] theorem s_get2 {kvs : List (Key × D)} {k z : D} : fGet2 (.od kvs) (.fz k) (.fz z) = (match keyD k with | some k => some (.fz ((getD kvs k).getD z)) | none => none) := rfl
@[simp] theorem s_eGet1 {fa fb : Rho → Rs Opd} {r : Rho} : eGet1 fa fb r = (fa r).bind fun o r1 => if isDo o r1 then (fb r1).bind (fun o2 r2 => eP (p2 fGet1) [o, o2] r2) else .st := rfl
@[simp] theorem s_eGet2 {fa fb fc : Rho → Rs Opd} {r : Rho} : eGet2 fa fb fc r = (fa r).bind fun o r1 => if isDo o r1 then (fb r1).bind (fun o2 r2 => (fc r2).bind fun o3 r3 => eP (p3 fGet2) [o, o2, o3] r3) else .st := rfl
@[simp] theorem s_isDoV {kvs : List (Key × D)} {r : Rho} : isDo (.val (.od kvs)) r = true := rfl
end
end GB
namespace GB
open PySem PySem.Spec PyProof.Rows L2
end GB
namespace GB
open PySem PySem.Spec PyProof.Rows L2
/-- new ones, each once -/
def Fr (o0 : HO) (H1 : Hp) (D : Addr) (U : Addr → Prop) (H : Hp) (xs : List V) : Prop := ∃ bs : List Addr, xs = bs.map V.ref ∧ bs.Nodup ∧ ∀ b ∈ bs, U b ∧ H1 b = none ∧ b ≠ D ∧ H b = some o0
theorem Fr.poke {o0 : HO} {H1 H : Hp} {D : Addr} {U : Addr → Prop} {xs : List V} {o : HO} (h : Fr o0 H1 D U H xs) : Fr o0 H1 D U (upd H D o) xs := by
  obtain ⟨bs, e1, e2, e3⟩ := h
  exact ⟨bs, e1, e2, fun b hb => let ⟨q0, q1, q2, ho⟩ := e3 b hb; ⟨q0, q1, q2, by rw [upd_ne q2]; exact ho⟩⟩
end GB
namespace GB
open PySem PySem.Spec PyProof.Rows L2
def isOw : S → Bool
  | .ol _ => true | .od _ => true | _ => false
theorem isOw.own {s : S} (h : isOw s = true) : s.own = true ∧ s.hard = false ∧ s.lkd = false ∧ s.soft = false := by
  cases s <;> simp [isOw, S.own, S.hard, S.lkd, S.soft] at h ⊢
theorem own_soft {s : S} (h : s.own = true) : s.soft = false := by cases s <;> first | rfl | cases h
theorem lkd_soft {s : S} (h : s.lkd = true) : s.soft = false := by cases s <;> first | rfl | cases h
theorem sft_cases {s : S} (h : s.soft = false) : s.own = true ∨ s.lkd = true := by cases s <;> first | (left; rfl) | (right; rfl) | cases h
/-- the list at a holds the things at bs, and nobody else does -/
structure Al (C : Ct) (H0 : Hp) (U : Addr → Prop) (H : Hp) (σ : St) (r : Rho) (ri : Nat) (a : Addr) (bs : List Addr) (Ls : List S) : Prop where
  is : σ[ri]? = some (some (V.ref a))
  lst : H a = some (.lst (bs.map V.ref))
  out : a ∉ bs
  nd : bs.Nodup
  ua : U a
  ub : ∀ b ∈ bs, U b
  n0 : ∀ b, b = a ∨ b ∈ bs → H0 b = none
  ns : ∀ b, b = a ∨ b ∈ bs → ∀ (i : Nat) (s : S), r[i]? = some (some s) → s.soft = false → σ[i]? ≠ some (some (V.ref b))
  len : bs.length = Ls.length
  each : ∀ (j : Nat) (b : Addr) (s : S), bs[j]? = some b → Ls[j]? = some s → SR C.K U (Wn U σ r) H (.ref b) s ∧ isOw s = true
section
variable {C : Ct} {U U' U0 : Addr → Prop} {H H' H0 : Hp} {σ σ' σ0 : St} {r r' r0 : Rho} {ri : Nat} {a : Addr} {bs : List Addr} {Ls : List S}
theorem Al.uu (x : Al C H0 U H σ r ri a bs Ls) {b : Addr} (h : b = a ∨ b ∈ bs) : U b := by
  rcases h with rfl | h
  · exact x.ua
  · exact x.ub b h
/-- what a loop's things are carried over by -/
abbrev MoB (a : Addr) (bs : List Addr) (U : Addr → Prop) (H : Hp) (σ : St) (r : Rho) (U' : Addr → Prop) (H' : Hp) (σ' : St) (r' : Rho) : Prop :=
  Mono (fun c => U c ∧ ¬ (c = a ∨ c ∈ bs)) (Wn U σ r) H (fun c => U' c ∧ ¬ (c = a ∨ c ∈ bs)) (Wn U' σ' r') H'
theorem MoB.of (m : Mono U (Wn U σ r) H U' (Wn U' σ' r') H') : MoB a bs U H σ r U' H' σ' r' :=
  ⟨m.lv, m.keep, m.free, fun c o h => m.keepU c o h.1, fun c h => ⟨m.sub c h.1, h.2⟩⟩
theorem Mono.trans {U'' W W' W'' : Addr → Prop} {H'' : Hp} (m : Mono U W H U' W' H') (n : Mono U' W' H' U'' W'' H'') : Mono U W H U'' W'' H'' :=
  ⟨m.lv, fun c o w h => n.keep c o (m.free c o w h) (m.keep c o w h), fun c o w h => n.free c o (m.free c o w h) (m.keep c o w h), fun c o u h => n.keepU c o (m.sub c u) (m.keepU c o u h), fun c u => n.sub c (m.sub c u)⟩
/-- the row's own name let go -/
theorem Al.frz (x : Al C H0 U H σ r ri a bs Ls) (s : Sit C U H σ r) (s0 : Sit C U0 H0 σ0 r0) (y0 : Aft U0 H0 σ0 r0 U H σ r) {ai j : Nat} {b : Addr} {t t2 : S} (hn : ai ≠ ri) (hai : r[ai]? = some none) (h1 : bs[j]? = some b) (h2 : Ls[j]? = some t)
    {U1 U2 : Addr → Prop} {H2 : Hp} {r2 : Rho} (s1 : Sit C U1 H (σ.set ai (some (V.ref b))) (r.set ai (some t))) (e1 : ∀ c, U1 c ↔ U c ∧ c ≠ b) (e2 : ∀ c, Wn U1 (σ.set ai (some (V.ref b))) (r.set ai (some t)) c ↔ Wn U σ r c) (e3 : ∀ c, Own (σ.set ai (some (V.ref b))) (r.set ai (some t)) c → Own σ r c ∨ c = b)
    (s2 : Sit C U2 H2 (σ.set ai (some (V.ref b))) r2) (y : Aft U1 H (σ.set ai (some (V.ref b))) (r.set ai (some t)) U2 H2 (σ.set ai (some (V.ref b))) r2) (g : r2[ai]? = some (some t2)) (g2 : isOw t2 = true) :
    ∃ U3, Sit C U3 H2 (σ.set ai (some (V.ref b))) (r2.set ai none) ∧ Aft U0 H0 σ0 r0 U3 H2 (σ.set ai (some (V.ref b))) (r2.set ai none) ∧ Al C H0 U3 H2 (σ.set ai (some (V.ref b))) (r2.set ai none) ri a bs (Ls.set j t2) ∧ MoB a bs U H σ r U3 H2 (σ.set ai (some (V.ref b))) (r2.set ai none) := by
  generalize hσ : σ.set ai (some (V.ref b)) = σ1 at *
  have mb := List.mem_of_getElem? h1
  have hlt : ai < r.length := lt_of_at hai
  have hb1 : σ1[ai]? = some (some (V.ref b)) := by rw [← hσ]; exact List.getElem?_set_self (by rw [s.len]; exact hlt)
  have hσ' : ∀ i, i ≠ ai → σ1[i]? = σ[i]? := fun i n => by rw [← hσ, List.getElem?_set_ne (fun z => n z.symm)]
  have nab : a ≠ b := fun z => x.out (z ▸ mb)
  obtain ⟨o1, o2, o3, o4⟩ := isOw.own g2
  have in3 : ∀ {i : Nat} {u : S}, (r2.set ai none)[i]? = some (some u) → i ≠ ai ∧ r2[i]? = some (some u) := fun h => by
    rcases at_set h with ⟨_, e⟩ | ⟨n, h⟩
    · cases e
    · exact ⟨n, h⟩
  have ob : Own σ1 r2 b := ⟨ai, t2, g, o1, hb1⟩
  have ow3 : ∀ c, Own σ1 (r2.set ai none) c → Own σ1 r2 c ∧ c ≠ b := fun c ⟨i, u, z1, z2, z3⟩ => by
    obtain ⟨n, z1⟩ := in3 z1
    refine ⟨⟨i, u, z1, z2, z3⟩, fun e => ?_⟩
    subst e
    exact n (s2.inj i ai u t2 _ z1 (own_soft z2) g o4 z3 hb1)
  have w3 : ∀ c, Wn (fun c => U2 c ∨ c = b) σ1 (r2.set ai none) c → Wn U2 σ1 r2 c := fun c z => by
    rcases z with z | z | z
    · exact .inl (ow3 c z).1
    · exact .inr z
    · subst z; exact .inl ob
  have lvb : Lv H2 b := by
    obtain ⟨v, e, z⟩ := s2.rep ai t2 g
    rw [hb1] at e; cases e
    obtain ⟨p, e, l⟩ := z.ownLv o1
    cases e; exact l
  have n0b := x.n0 b (.inr mb)
  have keepA : ∀ c o, c ≠ b → U c → H c = some o → H2 c = some o := fun c o n u h => y.keep c o h fun z => by
    rcases e3 c z with z | z
    · exact s.dis c z u
    · exact n z
  have toH : ∀ c o, H0 c = some o → ∃ o', H c = some o' := y0.there
  refine ⟨fun c => U2 c ∨ c = b, ⟨by rw [List.length_set]; exact s2.len, fun i u h => ?_, fun i k u v w h q h' q' z z' => ?_, fun c z => ?_, fun c z => ?_⟩, ⟨fun c h => ?_, fun c h => ?_, fun c h => ?_, fun c o h n => ?_, fun c o h => ?_, fun i u h k => ?_, fun i u h k => ?_⟩, ⟨?_, ?_, x.out, x.nd, ?_, fun c hc => ?_, x.n0, fun c hc i u z1 z2 z3 => ?_, by rw [List.length_set]; exact x.len, fun k c u z1 z2 => ?_⟩, ⟨s.wlv, fun c o w h => ?_, fun c o w h => ?_, fun c o u h => ?_, fun c u => ?_⟩⟩
  · obtain ⟨n, h⟩ := in3 h
    obtain ⟨v, e, z⟩ := s2.rep i u h
    exact ⟨v, e, z.less w3 fun p q1 q2 => .inl (z.lkLv q1 q2)⟩
  · exact s2.inj i k u v w (in3 h).2 q (in3 h').2 q' z z'
  · obtain ⟨z1, z2⟩ := ow3 c z
    exact fun q => q.elim (s2.dis c z1) z2
  · rcases z with z | z
    · exact s2.uok c z
    · subst z; exact lvb
  · -- sub
    by_cases e : c = b
    · exact .inr e
    · exact .inl (y.sub c ((e1 c).mpr ⟨y0.sub c h, e⟩))
  · -- new
    rcases h with h | h
    · rcases y.new c h with h | h | h
      · exact y0.new c ((e1 c).mp h).1
      · exact .inr (.inl (y0.back h))
      · rcases e3 c h with h | h
        · rcases y0.grow c h with h | h
          · exact .inr (.inr h)
          · exact .inr (.inl h)
        · subst h; exact .inr (.inl n0b)
    · subst h; exact .inr (.inl n0b)
  · -- grow
    obtain ⟨z1, z2⟩ := ow3 c h
    rcases y.grow c z1 with h | h
    · rcases e3 c h with h | h
      · exact y0.grow c h
      · exact (z2 h).elim
    · exact .inr (y0.back h)
  · -- keep
    have q := y0.keep c o h n
    refine y.keep c o q fun z => ?_
    rcases e3 c z with z | z
    · rcases y0.grow c z with z | z
      · exact n z
      · rw [h] at z; cases z
    · subst z; rw [h] at n0b; cases n0b
  · -- there
    obtain ⟨o', h⟩ := y0.there c o h
    exact y.there c o' h
  · -- pin
    obtain ⟨u', q1, q2, q3⟩ := y0.pin i u h k
    have ni : i ≠ ai := fun z => by subst z; rw [hai] at q1; cases q1
    obtain ⟨u'', q4, q5, q6⟩ := y.pin i u' (by rw [List.getElem?_set_ne (fun z => ni z.symm)]; exact q1) (q2.hard k)
    exact ⟨u'', by rw [List.getElem?_set_ne (fun z => ni z.symm)]; exact q4, q2.trans q5, by rw [hσ' i ni]; exact q3⟩
  · -- lok
    obtain ⟨ni, h⟩ := in3 h
    obtain ⟨q1, q2⟩ := y.lok i u h k
    rw [List.getElem?_set_ne (fun z => ni z.symm)] at q1
    obtain ⟨q3, q4⟩ := y0.lok i u q1 k
    exact ⟨q3, by rw [hσ' i ni]; exact q4⟩
  · rw [hσ' ri (fun z => hn z.symm)]; exact x.is
  · exact keepA a _ nab x.ua x.lst
  · exact .inl (y.sub a ((e1 a).mpr ⟨x.ua, nab⟩))
  · by_cases e : c = b
    · exact .inr e
    · exact .inl (y.sub c ((e1 c).mpr ⟨x.ub c hc, e⟩))
  · obtain ⟨ni, z1⟩ := in3 z1
    rcases sft_cases z2 with q | q
    · by_cases e : c = b
      · subst e
        exact ni (s2.inj i ai u t2 _ z1 z2 g o4 z3 hb1)
      · exact s2.dis c ⟨i, u, z1, q, z3⟩ (y.sub c ((e1 c).mpr ⟨x.uu hc, e⟩))
    · obtain ⟨g1, g2⟩ := y.lok i u z1 q
      rw [List.getElem?_set_ne (fun z => ni z.symm)] at g1
      exact x.ns c hc i u g1 z2 (by rw [← hσ' i ni]; exact z3)
  · by_cases e : k = j
    · subst e
      rw [h1] at z1; cases z1
      rw [List.getElem?_set_self (lt_of_at h2)] at z2; cases z2
      obtain ⟨v, e, z⟩ := s2.rep ai t2 g
      rw [hb1] at e; cases e
      exact ⟨z.less w3 fun p q1 q2 => .inl (z.lkLv q1 q2), g2⟩
    · rw [List.getElem?_set_ne (fun z => e z.symm)] at z2
      obtain ⟨q1, q2⟩ := x.each k c u z1 z2
      have nc : c ≠ b := fun z => by
        subst z
        exact e ((List.getElem?_inj (lt_of_at z1) x.nd).mp (z1.trans h1.symm))
      obtain ⟨p1, _, p3, _⟩ := isOw.own q2
      have q3 : SR C.K U1 (Wn U1 σ1 (r.set ai (some t))) H (.ref c) u := q1.less (fun d z => (e2 d).mp z) fun p z _ => by rw [p3] at z; cases z
      have q4 := q3.mono (y.mono s1) fun d o _ e ho => by cases e; exact keepA c o nc (x.ub c (List.mem_of_getElem? z1)) ho
      exact ⟨q4.less w3 fun p z _ => (by rw [p3] at z; cases z), q2⟩
  · exact (y.mono s1).keep c o (fun z => w ((e2 c).mp z)) h
  · exact fun z => (y.mono s1).free c o (fun z => w ((e2 c).mp z)) h (w3 c z)
  · exact keepA c o (fun z => u.2 (.inr (z ▸ mb))) u.1 h
  · exact ⟨.inl (y.sub c ((e1 c).mpr ⟨u.1, fun z => u.2 (.inr (z ▸ mb))⟩)), u.2⟩
end
end GB
namespace GB
open PySem PySem.Spec PyProof.Rows L2
def frzS : S → D
  | .ol ds => .lst ds
  | .od kvs => .dic (kvs.map Prod.fst) (kvs.map Prod.snd)
  | _ => .non
def noneAt (r : Rho) (i : Nat) : Bool := match r[i]? with
  | some none => true
  | _ => false
theorem noneAt.is {r : Rho} {i : Nat} (h : noneAt r i = true) : r[i]? = some none := by
  unfold noneAt at h
  split at h
  · assumption
  · cases h
section
variable {C : Ct} {U U' U0 : Addr → Prop} {H H' H0 : Hp} {σ σ' σ0 : St} {r r' r0 : Rho} {ri : Nat} {a : Addr} {bs : List Addr} {Ls : List S}
theorem rp_frz {K : PySem.W.Frag} {U W W' : Addr → Prop} {b : Addr} {t : S} (x : SR K U W H (.ref b) t) (ho : isOw t = true) (h : ∀ c, W' c → W c) (n : ¬ W' b) : Rp K W' H (.ref b) (frzS t) := by
  cases x with
  | ol e y => exact .lst e n (y.less h)
  | od e y =>
    refine .dic e n ?_ ?_
    · clear e ho
      induction y with
      | nil => rfl
      | cons q _ ih => rw [List.map_cons, List.map_cons, ih, q.1]
    · clear e ho
      induction y with
      | nil => exact .nil
      | cons q _ ih => exact .cons (q.2.less h) ih
  | _ => cases ho
theorem rps_frz {K : PySem.W.Frag} {W : Addr → Prop} : ∀ {bs : List Addr} {Ls : List S}, bs.length = Ls.length → (∀ (j : Nat) (b : Addr) (s : S), bs[j]? = some b → Ls[j]? = some s → Rp K W H (.ref b) (frzS s)) → Rps K W H (bs.map V.ref) (Ls.map frzS)
  | [], [], _, _ => .nil
  | b :: bs, s :: Ls, e, h => .cons (h 0 b s rfl rfl) (rps_frz (by simpa using e) fun j b s h1 h2 => h (j + 1) b s h1 h2)
  | [], _ :: _, e, _ => by simp at e
  | _ :: _, [], e, _ => by simp at e
/-- the rows' own list again -/
theorem Al.fin (x : Al C H0 U H σ r ri a bs Ls) (s : Sit C U H σ r) (s0 : Sit C U0 H0 σ0 r0) (y0 : Aft U0 H0 σ0 r0 U H σ r) (hri : r[ri]? = some none) :
    ∃ U4, Sit C U4 H σ (r.set ri (some (.ol (Ls.map frzS)))) ∧ Aft U0 H0 σ0 r0 U4 H σ (r.set ri (some (.ol (Ls.map frzS)))) := by
  have hlt : ri < r.length := lt_of_at hri
  have g := List.getElem?_set_self (a := some (S.ol (Ls.map frzS))) hlt
  have in4 : ∀ {i : Nat} {u : S}, (r.set ri (some (.ol (Ls.map frzS))))[i]? = some (some u) → (i = ri ∧ u = .ol (Ls.map frzS)) ∨ (i ≠ ri ∧ r[i]? = some (some u)) := fun h => by
    rcases at_set h with ⟨e, q⟩ | z
    · cases q; exact .inl ⟨e, rfl⟩
    · exact .inr z
  have ow4 : ∀ c, Own σ (r.set ri (some (.ol (Ls.map frzS)))) c → c = a ∨ Own σ r c := fun c ⟨i, u, z1, z2, z3⟩ => by
    rcases in4 z1 with ⟨rfl, rfl⟩ | ⟨n, z1⟩
    · rw [x.is] at z3; cases z3; exact .inl rfl
    · exact .inr ⟨i, u, z1, z2, z3⟩
  have w4 : ∀ c, Wn (fun c => U c ∧ ¬ (c = a ∨ c ∈ bs)) σ (r.set ri (some (.ol (Ls.map frzS)))) c → Wn U σ r c := fun c z => by
    rcases z with z | z
    · rcases ow4 c z with z | z
      · exact .inr (z ▸ x.ua)
      · exact .inl z
    · exact .inr z.1
  refine ⟨fun c => U c ∧ ¬ (c = a ∨ c ∈ bs), ⟨by rw [List.length_set]; exact s.len, fun i u h => ?_, fun i k u v w h q h' q' z z' => ?_, fun c z q => ?_, fun c z => s.uok c z.1⟩, ⟨fun c h => ⟨y0.sub c h, fun q => ?_⟩, fun c h => y0.new c h.1, fun c h => ?_, y0.keep, y0.there, fun i u h k => ?_, fun i u h k => ?_⟩⟩
  · rcases in4 h with ⟨rfl, rfl⟩ | ⟨n, h⟩
    · refine ⟨_, x.is, .ol x.lst (rps_frz x.len fun j b t h1 h2 => ?_)⟩
      obtain ⟨q1, q2⟩ := x.each j b t h1 h2
      have mb := List.mem_of_getElem? h1
      refine rp_frz q1 q2 w4 fun z => ?_
      rcases z with z | z
      · rcases ow4 b z with z | z
        · exact x.out (z ▸ mb)
        · exact s.dis b z (x.ub b mb)
      · exact z.2 (.inr mb)
    · obtain ⟨v, e, z⟩ := s.rep i u h
      exact ⟨v, e, z.less w4 fun p q1 q2 => ⟨z.lkLv q1 q2, fun q => by
        subst q2
        exact x.ns p q i u h (lkd_soft q1) e⟩⟩
  · rcases in4 h with ⟨rfl, rfl⟩ | ⟨n, hh⟩
    · rcases in4 h' with ⟨rfl, rfl⟩ | ⟨n', h''⟩
      · rfl
      · rw [x.is] at z; cases z
        exact (x.ns a (.inl rfl) k v h'' q' z').elim
    · rcases in4 h' with ⟨rfl, rfl⟩ | ⟨n', h''⟩
      · rw [x.is] at z'; cases z'
        exact (x.ns a (.inl rfl) i u hh q z).elim
      · exact s.inj i k u v w hh q h'' q' z z'
  · rcases ow4 c z with z | z
    · exact q.2 (.inl z)
    · exact s.dis c z q.1
  · rcases s0.uok c h with ⟨_, e⟩ | ⟨_, e⟩ | ⟨_, e⟩ <;> (rw [x.n0 c q] at e; cases e)
  · rcases ow4 c h with z | z
    · exact .inr (x.n0 c (.inl z))
    · exact y0.grow c z
  · obtain ⟨u', q1, q2, q3⟩ := y0.pin i u h k
    have ni : i ≠ ri := fun z => by subst z; rw [hri] at q1; cases q1
    exact ⟨u', by rw [List.getElem?_set_ne (fun z => ni z.symm)]; exact q1, q2, q3⟩
  · rcases in4 h with ⟨rfl, rfl⟩ | ⟨n, h⟩
    · cases k
    · exact y0.lok i u h k
end
end GB
namespace GB
open PySem PySem.Spec PyProof.Rows L2
end GB
namespace GB
open PySem PySem.Spec PyProof.Rows L2
end GB
namespace GB
open PySem PySem.Spec PyProof.Rows L2
end GB
namespace GB
open PySem PySem.Spec PyProof.Rows L2
end GB
namespace GB
open PySem PySem.Spec PyProof.Rows L2
end GB
namespace GB
open PySem PySem.Spec PyProof.Rows L2
open PySem.SeqAt PySem.MeetsSeq PySem.MeetsSeq2 PySem.MeetsSeq3
open PySem.AutoSeq1 (wpAny_loadPart')
end GB
namespace GB
open PySem PySem.Spec PyProof.Rows L2
end GB
namespace GB
open PySem PySem.Spec PyProof.Rows L2
end GB
namespace GB
open PySem PySem.Spec PyProof.Rows L2
end GB
namespace GB
open PySem PySem.Spec PyProof.Rows L2
end GB
namespace GB
open PySem PySem.Spec PyProof.Rows L2
end GB
namespace GB
open PySem PySem.Spec PyProof.Rows L2
end GB
namespace GB
open PySem PySem.Spec PyProof.Rows L2
section
variable {X : Cx} {C : Ct} {a b : Expr} {fs : Rho → Rs (List Opd)} {pos px py pt : Pos} {kt k2 : Nat} {pt2 : Pos} {i j : Nat} {x y : Str}
def put2 (i j : Nat) (ds : List D) (r : Rho) : Fl := match ds with
  | [d, e] => if free r i then (if free (r.set i (some (.fz d))) j then .nx ((r.set i (some (.fz d))).set j (some (.fz e))) else .st) else .st
  | _ => .st
def fPar (i j : Nat) (fs : Rho → Rs (List Opd)) : Rho → Fl := fun r => match fs r with
  | .ok os r1 => (match frzAll os r1 with | some (ds, r2) => put2 i j ds r2 | none => .st)
  | .ex c fs r1 => .ex c fs r1
  | .st => .st
@[simp] theorem s_fPar {r : Rho} : fPar i j fs r = match fs r with
  | .ok os r1 => (match frzAll os r1 with | some (ds, r2) => put2 i j ds r2 | none => .st)
  | .ex c fs r1 => .ex c fs r1
  | .st => .st := rfl
@[simp] theorem s_put2 {r : Rho} {d e : D} : put2 i j [d, e] r = if free r i then (if free (r.set i (some (.fz d))) j then .nx ((r.set i (some (.fz d))).set j (some (.fz e))) else .st) else .st := rfl
end
end GB
namespace GB
open PySem PySem.Spec PyProof.Rows L2
def joinL : List D → List Nat
  | [] => []
  | [x] => shownL x
  | x :: y :: ds => shownL x ++ 44 :: 32 :: joinL (y :: ds)
theorem cps_app (a b : Str) : (a ++ b).cps.toList = a.cps.toList ++ b.cps.toList := by rw [Str.cps_append, Array.toList_append]
theorem join_shown : ∀ ds : List D, (Str.join ", " (PyData.shownAll (pyAll ds))).cps.toList = joinL ds
  | [] => by rw [pyAll, PyData.shownAll]; rfl
  | [x] => by rw [pyAll, pyAll, PyData.shownAll, PyData.shownAll]; rfl
  | x :: y :: ds => by
    have ih := join_shown (y :: ds)
    rw [pyAll, PyData.shownAll]
    rw [pyAll, PyData.shownAll] at ih ⊢
    have e : ((", " : String) : Str).cps.toList = [44, 32] := by decide +kernel
    have j : Str.join ", " (x.py.shown :: y.py.shown :: PyData.shownAll (pyAll ds)) = x.py.shown ++ ", " ++ Str.join ", " (y.py.shown :: PyData.shownAll (pyAll ds)) := rfl
    rw [j, cps_app, cps_app, ih, e, joinL]
    show (shownL x ++ [44, 32]) ++ _ = _
    rw [List.append_assoc]; rfl
theorem pyAll_len : ∀ ds : List D, (PyData.shownAll (pyAll ds)).length = ds.length
  | [] => by rw [pyAll, PyData.shownAll]; rfl
  | d :: ds => by rw [pyAll, PyData.shownAll, List.length_cons, pyAll_len ds, List.length_cons]
theorem shown_tup (ds : List D) : shownL (.tup ds) = 40 :: (joinL ds ++ if ds.length = 1 then [44, 41] else [41]) := by
  unfold shownL
  rw [D.py, PyData.shown]
  unfold tupleText
  rw [cps_app, cps_app, join_shown, pyAll_len]
  have e : (("(" : String) : Str).cps.toList = [40] := by decide +kernel
  rw [e]
  by_cases h : ds.length = 1
  · rw [if_pos (by simp [h]), if_pos h]
    have e : ((",)" : String) : Str).cps.toList = [44, 41] := by decide +kernel
    rw [e, List.append_assoc]; rfl
  · rw [if_neg (by simpa using h), if_neg h]
    have e : ((")" : String) : Str).cps.toList = [41] := by decide +kernel
    rw [e, List.append_assoc]; rfl
def digB (c : Nat) : Bool := c == 45 || (decide (48 ≤ c) && decide (c ≤ 57))
def digV (l : List Nat) : Int := ((l.foldl (fun a c => a * 10 + (c - 48)) 0 : Nat) : Int)
def numV : List Nat → Int
  | 45 :: l => - digV l
  | l => digV l
theorem small_ints : ∀ k < 401, (shownL (.int (((k : Nat) : Int) - 200))).all digB = true ∧ (shownL (.int (((k : Nat) : Int) - 200))).isEmpty = false ∧ numV (shownL (.int (((k : Nat) : Int) - 200))) = ((k : Nat) : Int) - 200 := by decide +kernel
theorem shown_int {i : Int} (h1 : -200 ≤ i) (h2 : i ≤ 200) : (∀ c ∈ shownL (.int i), digB c = true) ∧ shownL (.int i) ≠ [] ∧ numV (shownL (.int i)) = i := by
  have h := small_ints (i + 200).toNat (by omega)
  rw [show (((i + 200).toNat : Nat) : Int) - 200 = i by omega] at h
  refine ⟨fun c hc => List.all_eq_true.mp h.1 c hc, fun z => ?_, h.2.2⟩
  rw [z] at h
  exact absurd h.2.1 (by decide)
theorem int_head {i : Int} (h1 : -200 ≤ i) (h2 : i ≤ 200) : ∃ c l, shownL (.int i) = c :: l ∧ digB c = true := by
  obtain ⟨h, n, _⟩ := shown_int h1 h2
  cases e : shownL (.int i) with
  | nil => exact absurd e n
  | cons c l => exact ⟨c, l, rfl, h c (by rw [e]; exact List.mem_cons_self ..)⟩
/-- pairs of pairs .. of ints -/
def IT : Nat → D → Prop
  | 0, d => ∃ i : Int, -200 ≤ i ∧ i ≤ 200 ∧ d = .int i
  | n + 1, d => ∃ a b, d = .tup [a, b] ∧ IT n a ∧ IT n b
/-- small nested things -/
def nice : Nat → D → Prop
  | 0, d => d = .non ∨ (∃ b, d = .bl b) ∨ (∃ i : Int, -200 ≤ i ∧ i ≤ 200 ∧ d = .int i) ∨ (∃ l : List Nat, d = .str l ∧ l.length ≤ 10 ∧ ∀ c ∈ l, c < 128)
  | n + 1, d => nice n d ∨ ∃ ds : List D, (d = .tup ds ∨ d = .lst ds) ∧ ds.length ≤ 4 ∧ ∀ x ∈ ds, nice n x
theorem nice.up {n : Nat} {d : D} (h : nice n d) : nice (n + 1) d := .inl h
theorem nice.mono {n m : Nat} {d : D} (h : nice n d) (hm : n ≤ m) : nice m d := by
  induction hm with
  | refl => exact h
  | step _ ih => exact ih.up
theorem IT.head : ∀ {n : Nat} {d : D}, IT n d → ∃ c l, shownL d = c :: l ∧ (c = 40 ∨ digB c = true)
  | 0, _, ⟨i, h1, h2, e⟩ => by
    subst e
    obtain ⟨c, l, g1, g2⟩ := int_head h1 h2
    exact ⟨c, l, g1, .inr g2⟩
  | n + 1, _, ⟨a, b, e, ha, hb⟩ => by
    subst e
    exact ⟨40, _, shown_tup _, .inl rfl⟩
end GB
namespace GB
open PySem PySem.Spec PyProof.Rows L2
section
variable {K : Type} [DecidableEq K] [BEq K] [LawfulBEq K]
def addK (acc : List K) (k : K) : List K := if acc.any (· == k) then acc else acc ++ [k]
def nubK (ks : List K) : List K := ks.foldl addK []
theorem nubK_snoc (ks : List K) (k : K) : nubK (ks ++ [k]) = addK (nubK ks) k := by unfold nubK; rw [List.foldl_append]; rfl
theorem addK_any (acc : List K) (k x : K) : (addK acc k).any (· == x) = (acc.any (· == x) || decide (x = k)) := by
  unfold addK
  by_cases h : acc.any (· == k) = true
  · rw [if_pos h]
    by_cases e : x = k
    · subst e
      rw [h]; rfl
    · rw [decide_eq_false e, Bool.or_false]
  · rw [if_neg h, List.any_append]
    congr 1
    rw [Bool.eq_iff_iff]
    simp only [List.any_cons, List.any_nil, Bool.or_false, beq_iff_eq, decide_eq_true_iff]
    exact eq_comm
theorem addK_len (acc : List K) (k : K) : (addK acc k).length = if acc.any (· == k) then acc.length else acc.length + 1 := by
  unfold addK
  split
  · rfl
  · rw [List.length_append, List.length_singleton]
theorem nubK_le : ∀ (ks acc : List K), (ks.foldl addK acc).length ≤ acc.length + ks.length
  | [], acc => Nat.le_refl _
  | k :: ks, acc => by
    have h := nubK_le ks (addK acc k)
    rw [List.foldl_cons, List.length_cons]
    have h2 := addK_len acc k
    split at h2 <;> omega
theorem take_more {ks : List K} {i : Nat} {k : K} (h : ks[i]? = some k) : ks.take (i + 1) = ks.take i ++ [k] := by
  rw [List.take_add_one, h]; rfl
abbrev HasK (pr : Program) (wo : World) (knd : KeyKind pr wo K) (hp : Heap) (a : Addr) (ks : List K) : Prop := hp.SetOf knd a (fun x => (nubK ks).any (· == x)) (nubK ks).length
theorem HasK.at {pr : Program} {wo : World} {knd : KeyKind pr wo K} {hp hp' : Heap} {a : Addr} {ks : List K} (g : HasK pr wo knd hp a ks) (k : ∀ o, hp.get? a = some o → hp'.get? a = some o) : HasK pr wo knd hp' a ks := by
  obtain ⟨ob, els, ep, tab, g1, rest⟩ := g
  exact ⟨ob, els, ep, tab, k _ g1, rest⟩
section
variable {pr : Program} {wo : World} {Ar : Around} {Rz : Result → Shared → Prop} {J : Addr} {fp wr : List Addr} {Gs : Array GenState → Array GenState → Prop} {n : Nat} {Pn : Nat → Value → Prop} {Sn : Nat → Shared → Prop}
theorem set_walk (knd : KeyKind pr wo K) (Wk : WalksS pr wo Ar.in1 J fp wr Gs n Pn Sn) (a : Addr) (na : a ∉ fp) (ks : List K) (hn : ks.length = n) (hv : ∀ i v, Pn i v → ∃ k, ks[i]? = some k ∧ knd.is k v = true ∧ v.scannable = true) (hb : n + 1 < scanBound) :
    ∀ (d i : Nat) (st : Shared), d + i = n → Sn i st → HasK pr wo knd st.heap a (ks.take i) → (∀ z, Moved (a :: wr) Gs st z → HasK pr wo knd z.heap a ks → Rz (.ok (.ret .none)) z) → codeAny (model pr wo) Ar (.builtin "set.update.loop" ⟨[.ref a, .ref J], []⟩) Rz st := by
  have nw : a ∉ wr := fun q => na (Wk.sub _ q)
  have up : ∀ b ∈ wr, b ∈ a :: wr := fun b q => List.mem_cons_of_mem _ q
  intro d
  induction d with
  | zero =>
    intro i st hd w0 g fin
    refine codeAny_builtin PyProof.Rows.F.entry_set_update_loop ?_
    rw [Around.under_plainId PyProof.Rows.F.plain_set_update_loop _]
    refine wpAny_bind (m := pyNext (.ref J)) (Wk.done st _ _ (by rw [show i = n by omega] at w0; exact w0) fun z mv => ?_)
    have g' := HasK.at g fun o e => mv.heap a o nw e
    rw [List.take_of_length_le (by omega)] at g'
    exact wpAny_pure (fin z (mv.mono up) g')
  | succ d ih =>
    intro i st hd w0 g fin
    refine codeAny_builtin PyProof.Rows.F.entry_set_update_loop ?_
    rw [Around.under_plainId PyProof.Rows.F.plain_set_update_loop _]
    refine wpAny_bind (m := pyNext (.ref J)) (Wk.item i st _ _ (by omega) w0 fun v z pv w1 mv => ?_)
    obtain ⟨k, kat, kis, ksc⟩ := hv i v pv
    have g' := HasK.at g fun o e => mv.heap a o nw e
    show wpAny _ Ar.in1 (holding [v] (setAdd a v) >>= _) _ _ z
    refine wpAny_bind (wpAny_holding (wpAny_holding (wpAny_bind (knd.pyHash kis ?_))))
    have few : (nubK (ks.take i)).length + 1 < scanBound := by
      have q := nubK_le (ks.take i) []
      rw [List.length_take, List.length_nil] at q
      unfold nubK
      omega
    refine wpAny_setAddHashed_of (knd := knd) (s := { z with toks := z.toks + 1 }) kis ksc g' few fun hp2 same g2 => ?_
    have g3 : HasK pr wo knd hp2 a (ks.take (i + 1)) := SetOf_congr g2 (fun x => by rw [take_more kat, nubK_snoc, addK_any]) (by rw [take_more kat, nubK_snoc, addK_len])
    have far : ∀ b o, b ≠ a → z.heap.get? b = some o → hp2.get? b = some o := fun b o q e => (same.2 b q).trans e
    refine wpAny_pure ⟨plainId_quiet PyProof.Rows.F.plain_set_update_loop _, ih (i + 1) _ (by omega) (Wk.frame _ z _ _ w1 (Nat.le_succ _) fun b q o e => far b o (fun y => na (y ▸ q)) e) g3 fun y my gy => fin y (Moved.trans Wk.gtrans ((mv.mono up).then_heap (Nat.le_succ _) fun b o q e => far b o (fun y => q (y ▸ List.mem_cons_self)) e) my) gy⟩
end
section
variable {pr : Program} {wo : World} {Ar : Around} {Er : Value → Shared → Prop} {st : Shared}
abbrev newSet (ld : Bool) : Obj := { cls := .type "set", dict := none, data := .set #[] 0 (.fresh 0 0 ld) }
theorem set_init (knd : KeyKind pr wo K) {la : Addr} {its : Array Value} {ks : List K} {ld : Bool} (nh : Ar.handled = none) (isl : st.heap.IsList la its) (hn : ks.length = its.size) (hv : ∀ (i : Nat) (v : Value), its[i]? = some v → ∃ k : K, ks[i]? = some k ∧ knd.is k v = true ∧ v.scannable = true) (hb : its.size + 1 < scanBound) :
    codeAny (model pr wo) Ar (.call (.builtin "set.__init__") ⟨[.ref st.heap.objs.size, .ref la], []⟩) (fun r z => ∃ hp tk, r = .ok (.ret .none) ∧ z = { st with heap := hp, toks := tk } ∧ HasK pr wo knd hp st.heap.objs.size ks ∧ ∀ b o, st.heap.get? b = some o → hp.get? b = some o) { st with heap := st.heap.push (newSet ld) } := by
  have ty : Shared.TypeIs { st with heap := st.heap.push (newSet ld) } (.ref st.heap.objs.size) "set" := ⟨_, Heap.get?_push_size _ rfl, rfl⟩
  refine codeAny_call_builtin PySem.F.called_set.init.plain PySem.F.entry_set_init (check_set_init_1 ty ?_)
  obtain ⟨⟨c, dd, dt, sl⟩, a1, a2, nl, a3⟩ := isl
  simp only at a2 a3
  subst a2 a3
  have a4 : (st.heap.push (newSet ld)).get? la = some { cls := .type "list", dict := dd, data := .seq its nl, slots := sl } := Heap.get?_push_of_some _ a1
  have n1 := PySem.F.sub_list_set
  have n2 := PySem.F.sub_list_frozenset
  have n3 : (Value.type "list" == Value.type "dict") = false := by decide
  unfold Builtin.«set.__init__» noKeywords Builtin.Frozenset.updateFrom
  generalize e : pyIter = it
  wp_walk
  subst e
  have big : (st.heap.push (newSet ld)).objs.size = st.heap.objs.size + 1 := Heap.size_push _ _
  have low := Heap.lt_size a1
  have isl2 : (st.heap.push (newSet ld)).IsList la its := ⟨_, a4, rfl, nl, rfl⟩
  refine wpAny_pyIter_list isl2 (wpAny_bind (wpAny_runValue ?_))
  have nh3 : Ar.in1.in1.handled = none := by simp [nh]
  have far : la ≠ (st.heap.push (newSet ld)).objs.size := by rw [big]; exact Nat.ne_of_lt (Nat.lt_succ_of_lt low)
  refine set_walk knd (Walks.list nh3 (st.heap.push (newSet ld)).objs.size la far its).toS st.heap.objs.size (fun q => ?_) ks hn hv hb its.size 0 _ rfl ?_ ?_ fun z mv g => ?_
  · rcases List.mem_cons.mp q with q | q
    · exact Nat.ne_of_lt (Nat.lt_succ_self _) (Eq.trans q big)
    · exact Nat.ne_of_gt low (List.mem_singleton.mp q)
  · exact ⟨⟨_, Heap.get?_push_size _ rfl, rfl, rfl⟩, isl2.push _⟩
  · refine SetOf_congr ((setObjOf_fresh (knd := knd) ld).setOf (Heap.get?_push_of_some _ (Heap.get?_push_size _ rfl)) (by unfold scanBound; omega)) (fun _ => rfl) rfl
  · obtain ⟨hz, gz, dz, tz, oz⟩ := z
    have q1 : gz = st.gens := mv.gens
    have q2 : dz = st.drawn := mv.drawn
    have q3 : oz = st.os := mv.os
    subst q1 q2 q3
    refine wpAny_pure (wpAny_pure ⟨hz, tz, rfl, rfl, g, fun b o e => mv.heap b o (fun q => ?_) (Heap.get?_push_of_some _ (Heap.get?_push_of_some _ e))⟩)
    have lb := Heap.lt_size e
    rcases List.mem_cons.mp q with q | q
    · exact Nat.ne_of_lt lb q
    · exact Nat.ne_of_lt (Nat.lt_succ_of_lt lb) ((List.mem_singleton.mp q).trans big)
theorem set_of_list (knd : KeyKind pr wo K) {la : Addr} {its : Array Value} {ks : List K} {Qz : Value → Shared → Prop} (nh : Ar.handled = none) (isl : st.heap.IsList la its) (hn : ks.length = its.size) (hv : ∀ (i : Nat) (v : Value), its[i]? = some v → ∃ k : K, ks[i]? = some k ∧ knd.is k v = true ∧ v.scannable = true) (hb : its.size + 1 < scanBound)
    (fin : ∀ hp tk, HasK pr wo knd hp st.heap.objs.size ks → (∀ b o, st.heap.get? b = some o → hp.get? b = some o) → Qz (.ref st.heap.objs.size) { st with heap := hp, toks := tk }) :
    wpAny (model pr wo) Ar (call (.type "set") [.ref la]) Qz Er st := by
  have made := PySem.F.called_set
  obtain ⟨_, _, chain⟩ := made.mro
  have k1 := made.notType
  have k2 := made.canCreate
  have k3 := made.made
  have k4 := made.sub
  have k5 := PySem.F.typeCall_set_1 (.ref la)
  have k6 := made.init.lookup
  have k7 := made.init.bind (.ref st.heap.objs.size)
  refine wpAny_call (codeAny_of_tree ?_)
  show wpAny _ _ (callAny (.type "set") _) _ _ _
  refine wpAny_pure ⟨Code.quiet_builtin _ (by decide +kernel), ?_⟩
  refine codeAny_builtin PySem.F.entry_type_call ?_
  rw [Around.under_plain (weight_type_call_type "set" [.ref la] []) rfl]
  repeat (any_goals (first | assumption | wp_step))
  refine codeAny_mono (code_set_new_1 (.ref la) (E := Er) (Q₁ := fun v z => ∃ ld, v = .ref st.heap.objs.size ∧ z = { st with heap := st.heap.push (newSet ld) }) fun ld => ⟨ld, rfl, rfl⟩) fun r z hr => ?_
  obtain bad | ⟨v, rv⟩ : (∀ v, r ≠ .ok (.ret v)) ∨ ∃ v, r = .ok (.ret v) := by
    by_cases c : ∃ v, r = .ok (.ret v)
    · exact .inr c
    · exact .inl fun v e => c ⟨v, e⟩
  · cases r with
    | error e => exact hr
    | ok w => cases w <;> first | exact absurd rfl (bad _) | exact hr.elim
  subst rv
  obtain ⟨ld, rfl, rfl⟩ := hr
  have at0 : (st.heap.push (newSet ld)).get? st.heap.objs.size = some (newSet ld) := Heap.get?_push_size _ rfl
  have ty : Shared.TypeIs { st with heap := st.heap.push (newSet ld) } (.ref st.heap.objs.size) "set" := ⟨_, at0, rfl⟩
  repeat (any_goals (first | assumption | wp_step))
  refine codeAny_mono (set_init (Ar := Ar.in1) knd nh isl hn hv hb) ?_
  rintro _ _ ⟨hp, tk, rfl, rfl, g, kp⟩
  repeat (any_goals (first | assumption | wp_step))
  exact fin hp tk g kp
end
end
theorem nubK_map {α β : Type} [DecidableEq α] [BEq α] [LawfulBEq α] [DecidableEq β] [BEq β] [LawfulBEq β] {f : α → β} (hf : ∀ a b, f a = f b → a = b) (ks : List α) : nubK (ks.map f) = (nubK ks).map f := by
  have gen : ∀ (ks acc : List α), (ks.map f).foldl addK (acc.map f) = (ks.foldl addK acc).map f := by
    intro ks
    induction ks with
    | nil => intro acc; rfl
    | cons k ks ih =>
      intro acc
      have e : addK (acc.map f) (f k) = (addK acc k).map f := by
        unfold addK
        have q : (acc.map f).any (· == f k) = acc.any (· == k) := by
          rw [List.any_map, Bool.eq_iff_iff, List.any_eq_true, List.any_eq_true]
          constructor
          · rintro ⟨x, hx, h⟩
            exact ⟨x, hx, beq_iff_eq.mpr (hf _ _ (beq_iff_eq.mp h))⟩
          · rintro ⟨x, hx, h⟩
            exact ⟨x, hx, by have := beq_iff_eq.mp h; subst this; exact beq_self_eq_true _⟩
        rw [q]
        split
        · rfl
        · rw [List.map_append]; rfl
      rw [List.map_cons, List.foldl_cons, List.foldl_cons, e, ih]
  exact gen ks []
section
variable {X : Cx} {C : Ct} {e : Expr} {fe : Rho → Rs Opd} {te : TE} {p p2 q pos : Pos}
def rLenSet (K : PySem.W.Frag) : V → Hp → VK → Prop := fun x H Q => ∃ (a : Addr) (xs : List Str), x = .ref a ∧ SqL K H a (xs.map V.str) ∧ xs.length ≤ 64 ∧ Q (.int ((nubK xs).length : Nat)) H
theorem pe_lenSetN (hc : X.calm = true) (hg : Gl X "len") (hm : X.mg "len" = none) (hg2 : Gl X "set") (hm2 : X.mg "set" = none) (he : PE X e te) (one : starEach [e] X.env = (false, eval e X.env) :: starEach [] X.env) : PE X (.Call (.Name "len" p) [.Call (.Name "set" p2) [e] [] q] [] pos) (tUn (rLenSet X.K) te) := by
  refine ⟨fun pins s σ H Q I h => Call_ (ld_blt I hg hm boot_len (PyProof.Rows.callWith_builtin1 (PyProof.Rows.args_cons (Call_ (ld_blt I hg2 hm2 boot_set (PyProof.Rows.callWith_type1 (PyProof.Rows.args_cons (thn (he.run pins s σ H _ I h) fun v s1 r => PyProof.Rows.args_nil ?_) one) one rfl))) rfl) rfl rfl))⟩
  obtain ⟨_, H1, I1, r1, a, xs, rfl, sq, few, fin⟩ := r
  cases r1
  obtain ⟨its, rv, lst, _⟩ := I1.list sq
  have ar := strsAre_of rv
  have nl : xs.length = its.toArray.size := by rw [List.size_toArray, ← rv.length, List.length_map]
  refine set_of_list (strKind X.prog X.w) (ks := xs) (I1.ok.hd hc) lst.isList nl (fun i v hv => ?_) (by rw [← nl]; unfold scanBound; omega) fun hp tk g kp => PyProof.Rows.args_nil ?_
  · obtain ⟨t, rfl⟩ := SS.strs_at ar i v (by simpa using hv)
    have hi : i < xs.length := by
      rw [nl]
      exact (Array.getElem?_eq_some_iff.mp hv).1
    refine ⟨xs[i], List.getElem?_eq_getElem hi, ?_, rfl⟩
    have e : xs.getD i Str.empty = xs[i] := by simp [List.getD, hi]
    rw [e]
    exact strKind_is _ _ _ _
  · obtain ⟨ob, els, ep, tab, g1, g2, g3, _, _, _, g4, g5⟩ := g
    have I2 : Inv X pins σ H1 { s1 with heap := hp, toks := tk } := I1.kept kp
    have few2 := nubK_le xs []
    refine call_len_set g1 g2 g3 g4 (by rw [g5]; unfold nubK; rw [List.length_nil] at few2; omega) ⟨.int ((nubK xs).length : Nat), H1, I2.tok _, ⟨_, by rw [g5]⟩, fin⟩
def fLenSet (s : S) : Option S := match asLs s with
  | some ds => (match strsOf ds with
    | some ws => if ws.length ≤ 64 then some (.fz (.int ((nubK ws).length : Nat))) else none
    | none => none)
  | none => none
theorem pn_lenSetN : PN C (fun vs H Q => ∃ x, vs = [x] ∧ rLenSet C.K x H Q) (p1 fLenSet) := by
  refine pn1 (rr := rLenSet C.K) fun U W H x a s Q lv xa h q => ?_
  unfold fLenSet at h
  cases e : asLs a with
  | none => rw [e] at h; cases h
  | some ds =>
    rw [e] at h
    dsimp only at h
    obtain ⟨p, xs, rfl, h2, h3⟩ := asLs_of xa e
    cases e1 : strsOf ds with
    | none => rw [e1] at h; cases h
    | some ws =>
      rw [e1] at h
      dsimp only at h
      split at h
      · rename_i few
        cases h
        have ex := strsOf_of h3 e1
        subst ex
        have en : (nubK (ws.map fun w => (⟨w.toArray⟩ : Str))).length = (nubK ws).length := by
          rw [nubK_map (fun a b h => by injection h with h; exact List.toArray_inj h), List.length_map]
        exact ⟨p, _, rfl, h2, by rw [List.length_map]; exact few, by rw [en]; exact q _ _ (.same (.int _))⟩
      · cases h
theorem x_lenSetN (hc : X.calm = true) (hm : X.mg "len" = none) (hm2 : X.mg "set" = none) (he : GE X C e fe) (hK : C.K = X.K := by rfl) (hg : Gl X "len" := by rfl) (hg2 : Gl X "set" := by rfl) (one : starEach [e] X.env = (false, eval e X.env) :: starEach [] X.env := by rfl) : GE X C (.Call (.Name "len" p) [.Call (.Name "set" p2) [e] [] q] [] pos) (e1 (p1 fLenSet) fe) :=
  ge_un pn_lenSetN (by rw [hK]; exact pe_lenSetN hc hg hm hg2 hm2 he one)
end
end GB
namespace GB
open PySem PySem.Spec PyProof.Rows L2
end GB
namespace GB
open PySem PySem.Spec PyProof.Rows L2
end GB
namespace GB
open PySem PySem.Spec PyProof.Rows L2
end GB
namespace GB
open PySem PySem.Spec PyProof.Rows L2
end GB
namespace GB
open PySem
theorem runs_det {M : Model} {Γ : Ctx} {p : Pos} {t : Sem Fin} {fs : List Frame} {s s' : Shared} {e : End} (h : Runs M Γ p t fs s e s') : ∀ {e2 : End} {s2 : Shared}, Runs M Γ p t fs s e2 s2 → e = e2 ∧ s' = s2 := by
  induction h with
  | done => intro e2 s2 k; cases k; exact ⟨rfl, rfl⟩
  | raise => intro e2 s2 k; cases k; exact ⟨rfl, rfl⟩
  | again _ _ ih => intro e2 s2 k; cases k with | again _ k => exact ih k
  | rule _ ih => intro e2 s2 k; cases k with | rule k => exact ih k
  | «at» _ ih => intro e2 s2 k; cases k with | «at» k => exact ih k
  | load h _ ih => intro e2 s2 k; cases k with | load h2 k => rw [h] at h2; cases h2; exact ih k
  | update _ _ ih => intro e2 s2 k; cases k with | update _ k => exact ih k
  | loadIfAlive _ ih => intro e2 s2 k; cases k with | loadIfAlive k => exact ih k
  | point _ ih => intro e2 s2 k; cases k with | point k => exact ih k
  | alloc _ ih => intro e2 s2 k; cases k with | alloc k => exact ih k
  | fresh _ ih => intro e2 s2 k; cases k with | fresh k => exact ih k
  | ask _ ih => intro e2 s2 k; cases k with | ask k => exact ih k
  | choose _ _ ih => intro e2 s2 k; cases k with | choose _ k => exact ih k
  | os _ ih => intro e2 s2 k; cases k with | os k => exact ih k
  | handled _ ih => intro e2 s2 k; cases k with | handled k => exact ih k
  | genState h _ ih => intro e2 s2 k; cases k with | genState h2 k => rw [h] at h2; cases h2; exact ih k
  | stack _ ih => intro e2 s2 k; cases k with | stack k => exact ih k
  | thread _ ih => intro e2 s2 k; cases k with | thread k => exact ih k
  | newGen _ ih => intro e2 s2 k; cases k with | newGen k => exact ih k
  | call _ _ ih1 ih2 =>
    intro e2 s2 k
    cases k with
    | call a b => obtain ⟨z, y⟩ := ih1 a; cases z; cases y; exact ih2 b
    | callSusp a => obtain ⟨z, _⟩ := ih1 a; cases z
  | callSusp _ ih =>
    intro e2 s2 k
    cases k with
    | call a b => obtain ⟨z, _⟩ := ih a; cases z
    | callSusp a => obtain ⟨z, y⟩ := ih a; cases z; cases y; exact ⟨rfl, rfl⟩
  | yield => intro e2 s2 k; cases k; exact ⟨rfl, rfl⟩
  | resumeFresh h _ q _ ih1 ih2 =>
    intro e2 s2 k
    cases k with
    | resumeFresh h2 a _ b => rw [h] at h2; cases h2; obtain ⟨z, y⟩ := ih1 a; cases z; cases y; exact ih2 b
    | resumeSuspended h2 a _ b => rw [h] at h2; cases h2
    | resumeJustStarted h2 n b => exact absurd rfl n
    | resumeRunning h2 b => rw [h] at h2; cases h2
    | resumeFinished h2 b => rw [h] at h2; cases h2
  | resumeSuspended h _ q _ ih1 ih2 =>
    intro e2 s2 k
    cases k with
    | resumeFresh h2 a _ b => rw [h] at h2; cases h2
    | resumeSuspended h2 a _ b => rw [h] at h2; cases h2; obtain ⟨z, y⟩ := ih1 a; cases z; cases y; exact ih2 b
    | resumeJustStarted h2 n b => rw [h] at h2; cases h2
    | resumeThrowFresh h2 b => rw [h] at h2; cases h2
    | resumeRunning h2 b => rw [h] at h2; cases h2
    | resumeFinished h2 b => rw [h] at h2; cases h2
  | resumeJustStarted h n _ ih =>
    intro e2 s2 k
    cases k with
    | resumeFresh h2 a _ b => exact absurd rfl n
    | resumeSuspended h2 a _ b => rw [h] at h2; cases h2
    | resumeJustStarted h2 n b => exact ih b
    | resumeRunning h2 b => rw [h] at h2; cases h2
    | resumeFinished h2 b => rw [h] at h2; cases h2
  | resumeThrowFresh h _ ih =>
    intro e2 s2 k
    cases k with
    | resumeSuspended h2 a _ b => rw [h] at h2; cases h2
    | resumeThrowFresh h2 b => exact ih b
    | resumeRunning h2 b => rw [h] at h2; cases h2
    | resumeFinished h2 b => rw [h] at h2; cases h2
  | resumeRunning h _ ih =>
    intro e2 s2 k
    cases k with
    | resumeFresh h2 a _ b => rw [h] at h2; cases h2
    | resumeSuspended h2 a _ b => rw [h] at h2; cases h2
    | resumeJustStarted h2 n b => rw [h] at h2; cases h2
    | resumeThrowFresh h2 b => rw [h] at h2; cases h2
    | resumeRunning h2 b => exact ih b
    | resumeFinished h2 b => rw [h] at h2; cases h2
  | resumeFinished h _ ih =>
    intro e2 s2 k
    cases k with
    | resumeFresh h2 a _ b => rw [h] at h2; cases h2
    | resumeSuspended h2 a _ b => rw [h] at h2; cases h2
    | resumeJustStarted h2 n b => rw [h] at h2; cases h2
    | resumeThrowFresh h2 b => rw [h] at h2; cases h2
    | resumeRunning h2 b => rw [h] at h2; cases h2
    | resumeFinished h2 b => exact ih b
  | segRet _ _ ih1 ih2 =>
    intro e2 s2 k
    cases k with
    | segRet a b => obtain ⟨z, y⟩ := ih1 a; cases z; cases y; exact ih2 b
    | segSuspOut _ a => obtain ⟨z, _⟩ := ih1 a; cases z
    | segSuspGen _ a _ _ => obtain ⟨z, _⟩ := ih1 a; cases z
  | segGen _ _ ih1 ih2 =>
    intro e2 s2 k
    cases k with
    | segGen a b => obtain ⟨z, y⟩ := ih1 a; cases z; cases y; exact ih2 b
    | segSuspOut _ a => obtain ⟨z, _⟩ := ih1 a; cases z
    | segSuspGen _ a _ _ => obtain ⟨z, _⟩ := ih1 a; cases z
  | segSuspOut n _ ih =>
    intro e2 s2 k
    cases k with
    | segRet a b => obtain ⟨z, _⟩ := ih a; cases z
    | segGen a b => obtain ⟨z, _⟩ := ih a; cases z
    | segSuspOut _ a => obtain ⟨z, y⟩ := ih a; cases z; cases y; exact ⟨rfl, rfl⟩
    | segSuspGen h2 _ _ _ => rw [n] at h2; cases h2
  | segSuspGen n _ _ _ ih1 ih2 =>
    intro e2 s2 k
    cases k with
    | segRet a b => obtain ⟨z, _⟩ := ih1 a; cases z
    | segGen a b => obtain ⟨z, _⟩ := ih1 a; cases z
    | segSuspOut h2 a => rw [n] at h2; cases h2
    | segSuspGen h2 a _ b => rw [n] at h2; cases h2; obtain ⟨z, y⟩ := ih1 a; cases z; cases y; exact ih2 b
theorem wakes_det {M : Model} {Γ : Ctx} {p : Pos} {g : Nat} {r : Resume} {s s1 s2 : Shared} {a b : GenResult} (h : Wakes M Γ p g r s a s1) (k : Wakes M Γ p g r s b s2) : a = b ∧ s1 = s2 := by
  unfold Wakes at h k
  split at h
  · exact h.elim
  · rename_i c e
    rw [e] at k
    dsimp only at k
    split at h
    · obtain ⟨e1, t1, h1, _, rfl, rfl⟩ := h
      obtain ⟨e2, t2, k1, _, rfl, rfl⟩ := k
      obtain ⟨rfl, rfl⟩ := runs_det h1 k1
      exact ⟨rfl, rfl⟩
    · obtain ⟨rfl, rfl⟩ := h
      rename_i v hv
      split at k
      · simp_all
      · obtain ⟨rfl, rfl⟩ := k; exact ⟨rfl, rfl⟩
      · rename_i z; cases z
    · obtain ⟨rfl, rfl⟩ := h
      obtain ⟨rfl, rfl⟩ := k; exact ⟨rfl, rfl⟩
  · rename_i e
    rw [e] at k
    dsimp only at k
    obtain ⟨e1, t1, h1, _, rfl, rfl⟩ := h
    obtain ⟨e2, t2, k1, _, rfl, rfl⟩ := k
    obtain ⟨rfl, rfl⟩ := runs_det h1 k1
    exact ⟨rfl, rfl⟩
  · rename_i e
    rw [e] at k
    dsimp only at k
    obtain ⟨rfl, rfl⟩ := h
    obtain ⟨rfl, rfl⟩ := k; exact ⟨rfl, rfl⟩
  · rename_i e
    rw [e] at k
    dsimp only at k
    obtain ⟨rfl, rfl⟩ := h
    obtain ⟨rfl, rfl⟩ := k; exact ⟨rfl, rfl⟩
theorem wp_both {α : Type} (M : Model) (Γ : Ctx) (t : Sem α) : ∀ (Q Q2 : α → Pos → Shared → Prop) (E E2 : Value → Pos → Shared → Prop) (p : Pos) (s : Shared), Sem.wp M Γ t Q E p s → Sem.wp M Γ t Q2 E2 p s →
    Sem.wp M Γ t (fun a p' s' => Q a p' s' ∧ Q2 a p' s') (fun e p' s' => E e p' s' ∧ E2 e p' s') p s := by
  induction t with
  | pure a => intro Q Q2 E E2 p s h k; exact ⟨h, k⟩
  | raise e => intro Q Q2 E E2 p s h k; exact ⟨h, k⟩
  | unsupported _ => intro Q Q2 E E2 p s h k; exact h
  | finish _ => intro Q Q2 E E2 p s h k; exact h
  | rule _ k ih => intro Q Q2 E E2 p s h k; exact ih () Q Q2 E E2 p s h k
  | «at» p' k ih => intro Q Q2 E E2 p s h k; exact ih () Q Q2 E E2 p' s h k
  | load a _ k ih => intro Q Q2 E E2 p s h k; obtain ⟨o, ho, h⟩ := h; obtain ⟨o2, ho2, k⟩ := k; rw [ho] at ho2; cases ho2; exact ⟨o, ho, ih o Q Q2 E E2 p s h k⟩
  | update a _ f k ih => intro Q Q2 E E2 p s h k; exact ⟨h.1, ih () Q Q2 E E2 p _ h.2 k.2⟩
  | loadIfAlive a k ih => intro Q Q2 E E2 p s h k; exact ih _ Q Q2 E E2 p s h k
  | point _ k ih => intro Q Q2 E E2 p s h k; exact ih () Q Q2 E E2 p s h k
  | register _ _ => intro Q Q2 E E2 p s h k; exact h
  | alloc o k ih => intro Q Q2 E E2 p s h k; exact ih _ Q Q2 E E2 p _ h k
  | fresh k ih => intro Q Q2 E E2 p s h k; exact ih _ Q Q2 E E2 p _ h k
  | ask k ih => intro Q Q2 E E2 p s h k; exact ih _ Q Q2 E E2 p s h k
  | choose src m k ih => intro Q Q2 E E2 p s h k; exact ⟨h.1, ih _ Q Q2 E E2 p _ h.2 k.2⟩
  | os q _ k ih => intro Q Q2 E E2 p s h k; exact ih _ Q Q2 E E2 p _ h k
  | call c hd _ _ k ih =>
    intro Q Q2 E E2 p s h k
    obtain ⟨r, s', hr, h⟩ := h
    obtain ⟨r2, s2, hr2, k⟩ := k
    obtain ⟨z, y⟩ := runs_det hr hr2
    cases z; cases y
    exact ⟨r, s', hr, ih r Q Q2 E E2 p s' h k⟩
  | handled own k ih => intro Q Q2 E E2 p s h k; exact ih _ Q Q2 E E2 p s h k
  | genState g k ih => intro Q Q2 E E2 p s h k; obtain ⟨o, ho, h⟩ := h; obtain ⟨o2, ho2, k⟩ := k; rw [ho] at ho2; cases ho2; exact ⟨o, ho, ih _ Q Q2 E E2 p s h k⟩
  | newGen c k ih => intro Q Q2 E E2 p s h k; exact ih _ Q Q2 E E2 p _ h k
  | resume g r _ k ih =>
    intro Q Q2 E E2 p s h k
    obtain ⟨a, s', hw, h⟩ := h
    obtain ⟨b, s2, hw2, k⟩ := k
    obtain ⟨rfl, rfl⟩ := wakes_det hw hw2
    exact ⟨a, s', hw, ih a Q Q2 E E2 p s' h k⟩
  | yield _ _ _ _ => intro Q Q2 E E2 p s h k; exact h
  | stack k ih => intro Q Q2 E E2 p s h k; exact ih _ Q Q2 E E2 p s h k
  | fork _ _ => intro Q Q2 E E2 p s h k; exact h
  | thread k ih => intro Q Q2 E E2 p s h k; exact ih _ Q Q2 E E2 p s h k
  | await _ _ _ _ _ => intro Q Q2 E E2 p s h k; exact h
section
variable {α : Type} {M : Model} {A : Around} {s : Shared}
theorem wpAny_both {t : Sem α} {Q Q2 : α → Shared → Prop} {E E2 : Value → Shared → Prop} (h : wpAny M A t Q E s) (k : wpAny M A t Q2 E2 s) : wpAny M A t (fun a s' => Q a s' ∧ Q2 a s') (fun e s' => E e s' ∧ E2 e s') s :=
  fun Γ p hΓ => wp_both M Γ t _ _ _ _ p s (h Γ p hΓ) (k Γ p hΓ)
theorem codeAny_both {c : Code} {R R2 : Result → Shared → Prop} (h : codeAny M A c R s) (k : codeAny M A c R2 s) : codeAny M A c (fun r s' => R r s' ∧ R2 r s') s :=
  fun Γ p hc hΓ => by
    obtain ⟨r, s1, hr, hR⟩ := h Γ p hc hΓ
    obtain ⟨r2, s2, hr2, hR2⟩ := k Γ p hc hΓ
    obtain ⟨z, y⟩ := runs_det hr hr2
    cases z; cases y
    exact ⟨r, s1, hr, hR, hR2⟩
end
end GB
namespace GB
open PySem PySem.Spec PyProof.Rows L2
/-- a pair of texts, the first one's token out since n -/
def TkO (n : Nat) (u : Value) (s' : Shared) : Prop := ∃ (a : Addr) (x1 x2 : Str) (t1 t2 : Tok), u = .ref a ∧ IsTup s'.heap a #[.str x1 t1, .str x2 t2] ∧ n ≤ t1 ∧ t1 < s'.toks
section
variable {X : Cx} {C : Ct} {e a b : Expr} {fe fa fb : Rho → Rs Opd} {pos : Pos} {pins : List (Addr × Obj)} {s : Shared} {σ : St} {H : Hp} {U : Addr → Prop} {r : Rho}
theorem ge_val (he : GE X C e fe) (I : Inv X pins σ H s) (st : Sit C U H σ r) {o : Opd} {d : D} (h : fe r = .ok o r) (hr : res r o = some (.fz d)) :
    wpAny (model X.prog X.w) X.A (eval e X.env) (fun u s' => ∃ v H' U', Inv X pins σ H' s' ∧ Sit C U' H' σ r ∧ Rp C.K (Wn U' σ r) H' v d ∧ RelV v u ∧ s.toks ≤ s'.toks) X.xe s := by
  refine wpAny_mono (wpAny_toks (he.run pins s σ H (fun v H' => ∃ U', Sit C U' H' σ r ∧ Rp C.K (Wn U' σ r) H' v d) I ⟨U, r, st, ?_⟩)) (fun u s' ⟨hk, v, H', I', rv, U', s1, x⟩ => ⟨v, H', U', I', s1, x, rv, hk⟩) fun _ _ z => z.2
  rw [h]
  intro v H' U' s' a' p' k' n'
  obtain ⟨t, e, x⟩ := k'.res s'
  rw [hr] at e
  cases e
  cases x with
  | fz x => exact ⟨U', s', x⟩
theorem sub_tok (ha : GE X C a fa) (hb : GE X C b fb) (hs : PlainIx b) (I : Inv X pins σ H s) (st : Sit C U H σ r) {oa ob : Opd} {l : List Nat} {i : Int} {c : Nat} (h1 : fa r = .ok oa r) (r1 : res r oa = some (.fz (.str l))) (h2 : fb r = .ok ob r) (r2 : res r ob = some (.fz (.int i))) (hc : atI l i = some c) (hl : l.length ≤ sizeLine) :
    wpAny (model X.prog X.w) X.A (eval (.Subscript a b pos) X.env) (fun u s' => ∃ t, u = .str ⟨#[c]⟩ t ∧ s.toks ≤ t ∧ t < s'.toks) X.xe s := by
  refine Subscript_ (thn (ge_val ha I st h1 r1) fun u1 s1 ⟨v, H1, U1, I1, st1, x, rv, hk⟩ => thn (ge_val hb I1 st1 h2 r2) fun u2 s2 ⟨w, H2, U2, I2, st2, y, rw', hk2⟩ => ?_)
  cases x
  cases y
  obtain ⟨t, rfl⟩ := rv
  obtain ⟨t', rfl⟩ := rw'
  obtain ⟨j, h1, h2, h3, h4, h5⟩ := atI_get hc
  have hn := line63
  exact tail_any (typeIs_str s2 _ t) slot_str_getitem.lookup (getItem_str (c := c) (by
    have e1 : decide (i < -(2 ^ 63 : Int)) = false := decide_eq_false (by omega)
    have e2 : decide (i ≥ 2 ^ 63) = false := decide_eq_false (by omega)
    rw [e1, e2, Bool.or_false]) (by
      have hl : (Str.length ⟨l.toArray⟩) = l.length := by simp [Str.length]
      rw [hl, h1]; simpa using h2) ⟨s2.toks, rfl, Nat.le_trans hk hk2, Nat.lt_succ_self _⟩) (hs _ _)
end
section
variable {P : Program} {w : World} {K : PySem.W.Frag} {mg : Str → Option Value} {base : Heap}
/-- its texts are new -/
def FnT (P : Program) (w : World) (K : PySem.W.Frag) (mg : Str → Option Value) (base : Heap) (k : Nat) (f : Addr) (fd : FuncData) (ps : List Str) (sp : Sp) : Prop :=
  ∀ (A : Around) (l : List Env) (t : Shared) (H : Hp) (args : Args) (us : List Value) (vs : List V) (Q : VK) (E : XK), Room k A → A.guards = some [] → Env0 P w K mg base A l t H →
    BindsTo t fd args (ps.zip us) → Vals vs us → sp vs H Q E → codeAny (model P w) A (.call (.ref f) args) (fun res s' => ∀ u, res = .ok (.ret u) → TkO t.toks u s') t
/-- the two states of the body's end -/
structure EndT (f1 f2 : Rho → Fl) (fa1 fb1 fa2 fb2 : Rho → Rs Opd) (r : Rho) : Prop where
  ex : ∃ r1 r2 oa1 ob1 oa2 ob2 l1 i1 c1 l2 i2 c2, f1 r = .nx r1 ∧ f2 r1 = .nx r2 ∧ fa1 r2 = .ok oa1 r2 ∧ res r2 oa1 = some (.fz (.str l1)) ∧ fb1 r2 = .ok ob1 r2 ∧ res r2 ob1 = some (.fz (.int i1)) ∧ atI l1 i1 = some c1 ∧ l1.length ≤ sizeLine ∧
    fa2 r2 = .ok oa2 r2 ∧ res r2 oa2 = some (.fz (.str l2)) ∧ fb2 r2 = .ok ob2 r2 ∧ res r2 ob2 = some (.fz (.int i2)) ∧ atI l2 i2 = some c2 ∧ l2.length ≤ sizeLine ∧ ∃ o1, (e2 qIx fa1 fb1) r2 = .ok o1 r2 ∧ res r2 o1 = some (.fz (.str [c1]))
theorem def_tok {x qual : Str} {st : Stmt} {f : Addr} {fd : FuncData} {N ps : List Str} {k n : Nat} {s1 s2 : Stmt} {a1 b1 a2 b2 : Expr} {p1 p2 pt rp : Pos} {kt : Nat} {f1 f2 : Rho → Fl} {fa1 fb1 fa2 fb2 : Rho → Rs Opd} {FF : Fs} (F : Fun K x qual st f fd) (Sc : FnScope N ps (defScope st))
    (hbody : defBody st = [s1, s2, .Return (some (.Tuple [.Subscript a1 b1 p1, .Subscript a2 b2 p2] kt pt)) rp]) (hn : n = ps.length)
    (G : FnG P w K mg base (k + 1) f fd ps (spF (ct0 K mg) n FF))
    (h1 : ∀ (cdv : Value) (A : Around) (l : List Env) (t : Shared) (H : Hp) (E : XK), Room k (A.deeper (envOfC qual (defScope st) t.heap.objs.size f cdv)) → A.guards = some [] → GS (bodyCx P w K mg base N qual st f cdv A l t H E) (bodyCt K mg E) s1 f1)
    (h2 : ∀ (cdv : Value) (A : Around) (l : List Env) (t : Shared) (H : Hp) (E : XK), Room k (A.deeper (envOfC qual (defScope st) t.heap.objs.size f cdv)) → A.guards = some [] → GS (bodyCx P w K mg base N qual st f cdv A l t H E) (bodyCt K mg E) s2 f2)
    (ea1 : ∀ (cdv : Value) (A : Around) (l : List Env) (t : Shared) (H : Hp) (E : XK), Room k (A.deeper (envOfC qual (defScope st) t.heap.objs.size f cdv)) → A.guards = some [] → GE (bodyCx P w K mg base N qual st f cdv A l t H E) (bodyCt K mg E) a1 fa1)
    (eb1 : ∀ (cdv : Value) (A : Around) (l : List Env) (t : Shared) (H : Hp) (E : XK), Room k (A.deeper (envOfC qual (defScope st) t.heap.objs.size f cdv)) → A.guards = some [] → GE (bodyCx P w K mg base N qual st f cdv A l t H E) (bodyCt K mg E) b1 fb1)
    (ea2 : ∀ (cdv : Value) (A : Around) (l : List Env) (t : Shared) (H : Hp) (E : XK), Room k (A.deeper (envOfC qual (defScope st) t.heap.objs.size f cdv)) → A.guards = some [] → GE (bodyCx P w K mg base N qual st f cdv A l t H E) (bodyCt K mg E) a2 fa2)
    (eb2 : ∀ (cdv : Value) (A : Around) (l : List Env) (t : Shared) (H : Hp) (E : XK), Room k (A.deeper (envOfC qual (defScope st) t.heap.objs.size f cdv)) → A.guards = some [] → GE (bodyCx P w K mg base N qual st f cdv A l t H E) (bodyCt K mg E) b2 fb2)
    (es1 : ∀ (cdv : Value) (A : Around) (l : List Env) (t : Shared) (H : Hp) (E : XK), Room k (A.deeper (envOfC qual (defScope st) t.heap.objs.size f cdv)) → A.guards = some [] → GE (bodyCx P w K mg base N qual st f cdv A l t H E) (bodyCt K mg E) (.Subscript a1 b1 p1) (e2 qIx fa1 fb1))
    (px1 : PlainIx b1) (px2 : PlainIx b2)
    (sem : ∀ ss s outs, FF ss = .ok s outs → EndT f1 f2 fa1 fb1 fa2 fb2 (startR N.length ss)) : FnT P w K mg base (k + 1) f fd ps (spF (ct0 K mg) n FF) := by
  intro A l t H args us vs Q E room gu e0 bnd rel q
  subst hn
  have q0 := q
  obtain ⟨hvl, U, ss, hh, sit, q⟩ := q
  cases e : FF ss with
  | st => rw [e] at q; exact q.elim
  | ex c fs outs =>
    rw [e] at q
    refine codeAny_mono (G.go A l t H args us vs (fun _ _ => False) E room gu e0 bnd rel ⟨hvl, U, ss, hh, sit, by rw [e]; exact q⟩) fun res s' z u hu => ?_
    subst hu
    obtain ⟨v, H', _, _, _, _, _, z⟩ := z
    exact z.elim
  | ok s outs =>
    obtain ⟨r1, r2, oa1, ob1, oa2, ob2, l1, i1, c1, l2, i2, c2, g1, g2, g3, g4, g5, g6, g7, g8, g9, g10, g11, g12, g13, g14, o1, w1, w2⟩ := (sem ss s outs e).ex
    obtain ⟨oc, od, kV, doc, pm, an, cdv, ct, osl, rfl, lk, hcd⟩ := F.ex
    have inK : K.In t.heap := e0.mod.kin.keeps fun b o e => (e0.bs b o e).1
    have nolim : t.heap.NoLimit := e0.mod.nolimit.keeps fun b o e => (e0.bs b o e).1
    refine codeAny_call_function room.depth (inK _ _ lk) rfl Sc.co Sc.gen rfl (PySem.W.codeRec_of inK hcd) (bnd _ _ _ _ ?_)
    have pre := wpAny_toks (wpAny_newFunctionEnv_cells (M := model P w) (A := A.in1) (E := fun e s' => ∀ u, (.error e : Result) = .ok (.ret u) → TkO t.toks u s') (s := t) (scope := defScope st) (globals := mainGlobals) (binds := ps.zip us) (qual := qual ++ ".<locals>.") (func := some f) (code := cdv) (builtins := builtinsNs)
      (Q := fun env s1 => env = newEnv (defScope st) t.heap.objs.size mainGlobals (cellsFrom (t.heap.objs.size + 1) (defScope st).names []) (qual ++ ".<locals>.") (some f) cdv none builtinsNs ∧ InCallC t env.locals (bindL env.kindOf (ps.zip us) fun _ => none) env.cells (bindC env.kindOf (ps.zip us) fun _ => none) s1) Sc.kind (fun y hy => by
        obtain ⟨n, v⟩ := y
        rcases Sc.par n (List.of_mem_zip hy).1 with z | z
        · exact Or.inl z
        · exact Or.inr ⟨z, PySem.W.cellsFrom_some _ _ _ (.inl z)⟩) fun env he s1 ic => ⟨he, ic⟩)
    refine wpAny_mono pre (fun env s0 ⟨hk0, he, ic⟩ => ?_) fun _ _ z => z.2
    subst he
    refine ⟨nolim.keeps ic.toInCall.keep, codeAny_func ?_⟩
    have I : Inv (bodyCx P w K mg base N qual st f cdv A l t H E) [] (L2.start N vs) H s0 := inv_start Sc room.hd e0 hvl rel ic
    have hl : vs.length = ss.length := by have := sit.len; simpa [slots, words] using this
    have hpl : vs.length ≤ N.length := by
      have z := congrArg List.length Sc.pre
      rw [List.length_take] at z
      omega
    obtain ⟨st0, own⟩ := start_sit sit hl hpl
    have st0 : Sit (bodyCt K mg E) U H (L2.start N vs) (startR N.length ss) := Sit.cast (C := ct0 K mg) (C' := bodyCt K mg E) rfl st0
    have rm := room.deeper (envOfC qual (defScope st) t.heap.objs.size f cdv)
    -- the walk
    have walk : wpAny (model P w) (A.deeper (envOfC qual (defScope st) t.heap.objs.size f cdv)) (execs (defBody st) (envOfC qual (defScope st) t.heap.objs.size f cdv)) (fun fl s' => ∃ u, fl = .ret u ∧ TkO t.toks u s') (bodyCx P w K mg base N qual st f cdv A l t H E).xe s0 := by
      rw [hbody]
      refine wpAny_execs_cons (wpAny_mono (wpAny_toks ((h1 cdv A l t H E rm gu).run [] s0 (L2.start N vs) H { nx := fun σ' H' => ∃ U', Sit (bodyCt K mg E) U' H' σ' r1, rt := fun _ _ => False, bk := fun _ _ => False, ct := fun _ _ => False } I ⟨U, _, st0, ?_⟩)) (fun fl sA z => ?_) fun _ _ z => z.2)
      · rw [g1]
        exact fun σ' H' U' s' a' => ⟨U', s'⟩
      obtain ⟨hkA, z⟩ := z
      cases fl with
      | ret u => obtain ⟨_, _, _, _, _, z⟩ := z; exact z.elim
      | brk => obtain ⟨_, _, _, z⟩ := z; exact z.elim
      | cont => obtain ⟨_, _, _, z⟩ := z; exact z.elim
      | next =>
      obtain ⟨σA, HA, IA, UA, sA'⟩ := z
      refine wpAny_execs_cons (wpAny_mono (wpAny_toks ((h2 cdv A l t H E rm gu).run [] sA σA HA { nx := fun σ' H' => ∃ U', Sit (bodyCt K mg E) U' H' σ' r2, rt := fun _ _ => False, bk := fun _ _ => False, ct := fun _ _ => False } IA ⟨UA, _, sA', ?_⟩)) (fun fl sB z => ?_) fun _ _ z => z.2)
      · rw [g2]
        exact fun σ' H' U' s' a' => ⟨U', s'⟩
      obtain ⟨hkB, z⟩ := z
      cases fl with
      | ret u => obtain ⟨_, _, _, _, _, z⟩ := z; exact z.elim
      | brk => obtain ⟨_, _, _, z⟩ := z; exact z.elim
      | cont => obtain ⟨_, _, _, z⟩ := z; exact z.elim
      | next =>
      obtain ⟨σB, HB, IB, UB, sB'⟩ := z
      refine wpAny_execs_cons (wpAny_Return_some (wpAny_Tuple_spliced ?_))
      show wpAny _ _ (spliced ((false, eval (.Subscript a1 b1 p1) (bodyCx P w K mg base N qual st f cdv A l t H E).env) :: backTo pt (starEach [.Subscript a2 b2 p2] (bodyCx P w K mg base N qual st f cdv A l t H E).env))) _ _ _
      refine Calls.spliced_cons (wpAny_mono (wpAny_both (ge_val (es1 cdv A l t H E rm gu) IB sB' w1 w2) (sub_tok (ea1 cdv A l t H E rm gu) (eb1 cdv A l t H E rm gu) px1 IB sB' g3 g4 g5 g6 g7 g8)) (fun u1 sC z => ?_) fun _ _ z => z.1)
      obtain ⟨⟨vC, HC, UC, IC, sC', _, _, hkC⟩, tk1, rfl, ge1, lt1⟩ := z
      show wpAny _ _ (spliced ((false, eval (.Subscript a2 b2 p2) (bodyCx P w K mg base N qual st f cdv A l t H E).env) :: backTo pt (starEach [] (bodyCx P w K mg base N qual st f cdv A l t H E).env))) _ _ _
      refine Calls.spliced_cons (thn (sub_tok (ea2 cdv A l t H E rm gu) (eb2 cdv A l t H E rm gu) px2 IC sC' g9 g10 g11 g12 g13 g14) fun u2 sD z => ?_)
      obtain ⟨tk2, rfl, ge2, lt2⟩ := z
      refine Calls.spliced_nil ⟨by show 2 ≤ sizeLine; decide, _, rfl, _, _, _, tk1, tk2, rfl, ⟨_, Heap.get?_push_size _ rfl, rfl, 0, rfl⟩, by omega, ?_⟩
      exact Nat.lt_of_lt_of_le lt1 (Nat.le_trans ge2 (Nat.le_of_lt lt2))
    refine wpAny_mono walk (fun fl s' z => ?_) fun ev s' z => wpAny_mono z (fun _ _ _ u hu => nomatch hu) fun _ _ _ u hu => nomatch hu
    obtain ⟨u, rfl, z⟩ := z
    intro u' hu
    cases hu
    exact z
end
structure DefTk (P : Program) (w : World) (K : PySem.W.Frag) (mg : Str → Option Value) (base : Heap) (j : Nat) (x : Str) (ps : List Str) (F : Fs) : Prop where
  ex : ∃ f fd, FnG P w K mg base j f fd ps (spF (ct0 K mg) ps.length F) ∧ FnT P w K mg base j f fd ps (spF (ct0 K mg) ps.length F) ∧ mg x = some (.ref f) ∧ PySem.W.keepIn K (.ref f) = true ∧ Binds K fd ps []
section
variable {X : Cx} {C : Ct}
/-- the last argument is a written number: a token is out -/
theorem args_tok {a1 a2 : Expr} {f1 f2 : Rho → Rs Opd} {j0 : Nat} {k : Int} {cp pos : Pos} {pins : List (Addr × Obj)} {s : Shared} {σ : St} {H : Hp} {U : Addr → Prop} {r : Rho} (h1 : GE X C a1 f1) (h2 : GE X C a2 f2) (I : Inv X pins σ H s) (st : Sit C U H σ r) {o1 o2 : Opd} {d1 d2 : D} (g1 : f1 r = .ok o1 r) (q1 : res r o1 = some (.fz d1)) (g2 : f2 r = .ok o2 r) (q2 : res r o2 = some (.fz d2))
    (he1 : starEach [a1, a2, .Constant (.int k) j0 cp] X.env = (false, eval a1 X.env) :: starEach [a2, .Constant (.int k) j0 cp] X.env := by rfl) (he2 : starEach [a2, .Constant (.int k) j0 cp] X.env = (false, eval a2 X.env) :: starEach [.Constant (.int k) j0 cp] X.env := by rfl) :
    wpAny (model X.prog X.w) X.A (spliced (backTo pos (starEach [a1, a2, .Constant (.int k) j0 cp] X.env))) (fun _ s' => 1 ≤ s'.toks) X.xe s := by
  rw [he1]
  show wpAny _ _ (spliced ((false, eval a1 X.env) :: backTo pos (starEach [a2, .Constant (.int k) j0 cp] X.env))) _ _ _
  refine Calls.spliced_cons (thn (ge_val h1 I st g1 q1) fun u1 s1 ⟨_, H1, U1, I1, st1, _⟩ => ?_)
  rw [he2]
  show wpAny _ _ (spliced ((false, eval a2 X.env) :: backTo pos (starEach [.Constant (.int k) j0 cp] X.env))) _ _ _
  refine Calls.spliced_cons (thn (ge_val h2 I1 st1 g2 q2) fun u2 s2 ⟨_, H2, U2, I2, st2, _⟩ => ?_)
  show wpAny _ _ (spliced ((false, eval (.Constant (.int k) j0 cp) X.env) :: backTo pos (starEach [] X.env))) _ _ _
  refine Calls.spliced_cons (wpAny_Constant_int (Calls.spliced_nil ?_))
  show 1 ≤ s2.toks + 1
  omega
theorem call_tok {k j : Nat} {ps : List Str} {x : Str} {F : Fs} {a1 a2 : Expr} {f1 f2 : Rho → Rs Opd} {fa : Rho → Rs (List Opd)} {j0 : Nat} {kk : Int} {cp p pos : Pos} {pins : List (Addr × Obj)} {s : Shared} {σ : St} {H : Hp} {U : Addr → Prop} {r : Rho}
    (c : DefTk X.prog X.w X.K X.mg X.base j x ps F) (hr : Room k X.A) (hj : j ≤ k) (gu : X.A.guards = some []) (tk : Takes X C.W) (ha : GA X C [a1, a2, .Constant (.int kk) j0 cp] fa) (ar : Ar fa ps.length) (h1 : GE X C a1 f1) (h2 : GE X C a2 f2)
    (I : Inv X pins σ H s) (st : Sit C U H σ r) {o1 o2 : Opd} {d1 d2 : D} (g1 : f1 r = .ok o1 r) (q1 : res r o1 = some (.fz d1)) (g2 : f2 r = .ok o2 r) (q2 : res r o2 = some (.fz d2)) {Q : VK} (h : tE C (eFn F fa) σ H Q)
    (hK : C.K = X.K := by rfl) (hM : C.mg = X.mg := by rfl) (hg : Gl X x := by rfl) (hdb : (x == ("__debug__" : Str)) = false := by decide)
    (he : starEach [a1, a2, .Constant (.int kk) j0 cp] X.env = (false, eval a1 X.env) :: starEach [a2, .Constant (.int kk) j0 cp] X.env := by rfl) (he2 : starEach [a2, .Constant (.int kk) j0 cp] X.env = (false, eval a2 X.env) :: starEach [.Constant (.int kk) j0 cp] X.env := by rfl) (hpl : (backTo pos (starEach [a2, .Constant (.int kk) j0 cp] X.env)).any (·.1) = false := by rfl) :
    wpAny (model X.prog X.w) X.A (eval (.Call (.Name x p) [a1, a2, .Constant (.int kk) j0 cp] [] pos) X.env) (fun u s' => TkO 1 u s') X.xe s := by
  obtain ⟨f, fd, G, T, hm, hk, hb⟩ := c.ex
  have h := fn_reading (E := fun cls d H2 => C.W cls d σ H2) ar (fun _ _ _ z => z) h
  refine wpAny_Call_Name_kw (ld_glob I hg hm ?_ hdb)
  refine PySem.W.callWith_K (h₀ := X.base) I.ok.mod.kin hk (wpAny_mono (wpAny_both (ha.run pos pins s σ H _ I h) (args_tok h1 h2 I st g1 q1 g2 q2 he he2)) (fun us t1 z => ?_) fun _ _ z => z.1) he hpl
  obtain ⟨⟨vs, H1, I1, r1, q⟩, t1k⟩ := z
  refine ⟨I1.kIn, ?_⟩
  have q : spF C ps.length F (vs ++ []) H1 Q (fun cls d H2 => C.W cls d σ H2) := q
  rw [List.append_nil] at q
  have q : spF (ct0 X.K X.mg) ps.length F vs H1 Q (fun cls d H2 => C.W cls d σ H2) := spF_cast (C := C) (C' := ct0 X.K X.mg) hK hM q
  have le : us.length = ps.length := by rw [← r1.length]; exact G.len _ _ _ _ q
  have bnd := hb t1 us I1.kIn (by rw [List.append_nil]; exact le)
  rw [List.append_nil] at bnd
  have rm := hr.mono hj
  refine wpAny_call (codeAny_mono (codeAny_both (G.go X.A X.stack t1 H1 ⟨us, []⟩ us vs Q _ rm gu I1.env0 bnd r1 q) (T X.A X.stack t1 H1 ⟨us, []⟩ us vs Q _ rm gu I1.env0 bnd r1 q)) fun res t' z => ?_)
  obtain ⟨z, y⟩ := z
  cases res with
  | error ex => exact tk ex t' (XE.of_call I1 (fun cls d H' q => q) z)
  | ok fl =>
    cases fl with
    | ret u =>
      obtain ⟨a, x1, x2, t1', t2', e, it, ge, lt⟩ := y u rfl
      exact ⟨a, x1, x2, t1', t2', e, it, Nat.le_trans t1k ge, lt⟩
    | next => exact z.elim
    | brk => exact z.elim
    | cont => exact z.elim
/-- a local name's text with its token -/
def TokAt (X : Cx) (y : Str) (z : Str) (s : Shared) : Prop := ∃ m t, s.heap.Ns X.env.locals m ∧ m y = some (.str z t) ∧ 1 ≤ t ∧ t < s.toks
/-- c = x.replace(a, ""): a one sign -/
def fRep (k i j : Nat) : Rho → Fl := fun r => match r[i]?, r[j]? with
  | some (some (.fz (.str l))), some (some (.fz (.str [c]))) => if free r k && decide (l.length ≤ 1000) then .nx (r.set k (some (.fz (.str (l.filter (· != c)))))) else .st
  | _, _ => .st
theorem replL_one (c : Nat) : ∀ l : List Nat, StrLaws.replL [c] [] l = l.filter (· != c) := by
  intro l
  induction l with
  | nil => rfl
  | cons d l ih =>
    unfold StrLaws.replL at ih ⊢
    rw [StrLaws.replS, List.filter_cons]
    by_cases h : d = c
    · subst h
      simp [ih]
    · have h1 : ¬ (List.take [c].length (d :: l) = [c]) := fun z => h (by simpa using z)
      have h2 : (d != c) = true := by simp [h]
      rw [if_neg h1, if_pos h2, ih]
end
theorem isTup_one {h : Heap} {a : Addr} {x y : Array Value} (p : IsTup h a x) (q : IsTup h a y) : x = y := by
  obtain ⟨o, e1, _, n, e2⟩ := p
  obtain ⟨o2, f1, _, m, f2⟩ := q
  rw [e1] at f1; cases f1
  rw [e2] at f2; cases f2
  rfl
theorem repl_one (l : List Nat) (c : Nat) : Txt.replace ⟨l.toArray⟩ ⟨#[c]⟩ ⟨#[]⟩ = ⟨(l.filter (· != c)).toArray⟩ := by
  have h := StrLaws.replace_list (x := ⟨l.toArray⟩) (y := ⟨#[c]⟩) (z := ⟨#[]⟩) (by show 1 ≤ 1; omega)
  have h : (Txt.replace ⟨l.toArray⟩ ⟨#[c]⟩ ⟨#[]⟩).cps.toList = l.filter (· != c) := h.trans (replL_one c l)
  generalize Txt.replace ⟨l.toArray⟩ ⟨#[c]⟩ ⟨#[]⟩ = w at *
  obtain ⟨a⟩ := w
  have h : a.toList = l.filter (· != c) := h
  rw [← h]
section
variable {X : Cx} {C : Ct} {sts : List Stmt} {g : Rho → Fl}
theorem gs_stuck : GSs X C sts (fun _ => .st) := ⟨fun pins s σ H D I ⟨U, r, st, h⟩ => h.elim⟩
/-- the two statements -/
def fEnds (i i2 j1 j2 m : Nat) (fc : Rho → Rs Opd) (g : Rho → Fl) : Rho → Fl := fun r => match r[i]?, r[i2]? with
  | some (some (.fz _)), some (some (.fz _)) => fSeq (fAsg (gTp 2 (gsCons (gNm j1) (gsCons (gNm j2) gsNil))) fc) (fSeq (fRep m i j1) g) r
  | _, _ => .st
theorem gs_ends {k j : Nat} {ps : List Str} {x y1 y2 z sx sl : Str} {FF : Fs} {fa : Rho → Rs (List Opd)} {i i2 j1 j2 m j0 j3 kt : Nat} {kk : Int} {cp p p1 p2 pt pz pq pe ce apos pr pos1 pos2 pa pb pc : Pos}
    (cc : DefTk X.prog X.w X.K X.mg X.base j x ps FF) (hr : Room k X.A) (hj : j ≤ k) (gu : X.A.guards = some []) (tk : Takes X C.W)
    (ha : GA X C [.Name sx pa, .Name sl pb, .Constant (.int kk) j0 cp] fa) (ar : Ar fa ps.length) (h1 : GE X C (.Name sx pa) (eVar i)) (h2 : GE X C (.Name sl pb) (eVar i2))
    (hcall : GE X C (.Call (.Name x p) [.Name sx pa, .Name sl pb, .Constant (.int kk) j0 cp] [] pc) (eFn FF fa))
    (hst1 : GS X C (.Assign [.Tuple [.Name y1 p1, .Name y2 p2] kt pt] (.Call (.Name x p) [.Name sx pa, .Name sl pb, .Constant (.int kk) j0 cp] [] pc) pos1) (fAsg (gTp 2 (gsCons (gNm j1) (gsCons (gNm j2) gsNil))) (eFn FF fa)))
    (hrest : GSs X C sts g)
    (hc : X.calm = true) (hN : X.N.Nodup) (hNi : X.N[i]? = some sx) (hvi : Vis X.env.scope sx) (hN1 : X.N[j1]? = some y1) (hk1 : X.env.scope.names.lookup y1 = some .local) (hN2 : X.N[j2]? = some y2) (hk2 : X.env.scope.names.lookup y2 = some .local) (hNm : X.N[m]? = some z) (hkm : X.env.scope.names.lookup z = some .local) (hne : j1 ≠ j2) (hij1 : i ≠ j1) (hij2 : i ≠ j2)
    (hK : C.K = X.K := by rfl) (hM : C.mg = X.mg := by rfl) (hg : Gl X x := by rfl) (hdb : (x == ("__debug__" : Str)) = false := by decide)
    (he : starEach [.Name sx pa, .Name sl pb, .Constant (.int kk) j0 cp] X.env = (false, eval (.Name sx pa) X.env) :: starEach [.Name sl pb, .Constant (.int kk) j0 cp] X.env := by rfl) (he2 : starEach [.Name sl pb, .Constant (.int kk) j0 cp] X.env = (false, eval (.Name sl pb) X.env) :: starEach [.Constant (.int kk) j0 cp] X.env := by rfl) (hpl : (backTo pc (starEach [.Name sl pb, .Constant (.int kk) j0 cp] X.env)).any (·.1) = false := by rfl)
    (hsw : swapsWithSole [.Tuple [.Name y1 p1, .Name y2 p2] kt pt] (.Call (.Name x p) [.Name sx pa, .Name sl pb, .Constant (.int kk) j0 cp] [] pc) pos1.line X.env = pure false := by rfl) (hww : swappedStores [.Tuple [.Name y1 p1, .Name y2 p2] kt pt] (.Call (.Name x p) [.Name sx pa, .Name sl pb, .Constant (.int kk) j0 cp] [] pc) X.env = pure none := by rfl)
    (ht1 : (assignEach [.Tuple [.Name y1 p1, .Name y2 p2] kt pt] X.env).map (·.2) = [assign (.Tuple [.Name y1 p1, .Name y2 p2] kt pt) X.env] := by rfl)
    (hn2 : (assignEach [.Name y1 p1, .Name y2 p2] X.env).length = 2 := by rfl) (hst2 : (assignEach [.Name y1 p1, .Name y2 p2] X.env).findIdx? (·.1) = none := by rfl)
    (hst3 : (assignEach [.Name y1 p1, .Name y2 p2] X.env).map (·.2) = [assign (.Name y1 p1) X.env, assign (.Name y2 p2) X.env] := by rfl)
    (hbase : attributeBase (.Name sx pq) "replace" X.env (eval (.Name sx pq) X.env) = eval (.Name sx pq) X.env := by rfl) (hstr : starEach [.Name y1 pe, .Constant (.str ⟨#[]⟩) j3 ce] X.env = [(false, eval (.Name y1 pe) X.env), (false, eval (.Constant (.str ⟨#[]⟩) j3 ce) X.env)] := by rfl) (hline : (apos.endLine == pr.line) = true := by rfl)
    (hsw2 : swapsWith (.Call (.Attribute (.Name sx pq) "replace" apos) [.Name y1 pe, .Constant (.str ⟨#[]⟩) j3 ce] [] pr) (some (.Name z pz)) pos2.line X.env = pure false := by rfl)
    (hdx : (sx == ("__debug__" : Str)) = false := by decide) (hcx : (sx == ("__classdict__" : Str)) = false := by decide) (hdy : (y1 == ("__debug__" : Str)) = false := by decide) :
    GSs X C (.Assign [.Tuple [.Name y1 p1, .Name y2 p2] kt pt] (.Call (.Name x p) [.Name sx pa, .Name sl pb, .Constant (.int kk) j0 cp] [] pc) pos1 :: .Assign [.Name z pz] (.Call (.Attribute (.Name sx pq) "replace" apos) [.Name y1 pe, .Constant (.str ⟨#[]⟩) j3 ce] [] pr) pos2 :: sts) (fEnds i i2 j1 j2 m (eFn FF fa) g) := by
  refine ⟨fun pins s σ H D I h => ?_⟩
  obtain ⟨U, r, st, h⟩ := h
  unfold fEnds at h
  split at h
  case h_2 => exact h.elim
  rename_i d1 d2 q1 q2
  have g1 : eVar i r = .ok (.loc i) r := by unfold eVar; rw [q1]
  have g2 : eVar i2 r = .ok (.loc i2) r := by unfold eVar; rw [q2]
  have w1 : res r (.loc i) = some (.fz d1) := by show (r[i]?).join = _; rw [q1]; rfl
  have w2 : res r (.loc i2) = some (.fz d2) := by show (r[i2]?).join = _; rw [q2]; rfl
  have h0 := h
  unfold fSeq at h
  cases e : (fAsg (gTp 2 (gsCons (gNm j1) (gsCons (gNm j2) gsNil))) (eFn FF fa)) r with
  | rt t r1 => exact (gs_cons hst1 (gs_stuck (sts := _ :: sts))).run pins s σ H D I ⟨U, r, st, by unfold fSeq; rw [e]; rw [e] at h; exact h⟩
  | bk r1 => exact (gs_cons hst1 (gs_stuck (sts := _ :: sts))).run pins s σ H D I ⟨U, r, st, by unfold fSeq; rw [e]; rw [e] at h; exact h⟩
  | ct r1 => exact (gs_cons hst1 (gs_stuck (sts := _ :: sts))).run pins s σ H D I ⟨U, r, st, by unfold fSeq; rw [e]; rw [e] at h; exact h⟩
  | ex c fs r1 => exact (gs_cons hst1 (gs_stuck (sts := _ :: sts))).run pins s σ H D I ⟨U, r, st, by unfold fSeq; rw [e]; rw [e] at h; exact h⟩
  | st => rw [e] at h; exact h.elim
  | nx r1 =>
  rw [e] at h
  dsimp only at h
  cases e2 : fRep m i j1 r1 with
  | rt t r2 => unfold fRep at e2; split at e2 <;> (try split at e2) <;> cases e2
  | bk r2 => unfold fRep at e2; split at e2 <;> (try split at e2) <;> cases e2
  | ct r2 => unfold fRep at e2; split at e2 <;> (try split at e2) <;> cases e2
  | ex c fs r2 => unfold fRep at e2; split at e2 <;> (try split at e2) <;> cases e2
  | st => rw [e2] at h; exact h.elim
  | nx r2 =>
  rw [e2] at h
  dsimp only at h
  unfold fRep at e2
  split at e2
  case h_2 => cases e2
  rename_i l c ql qc
  split at e2
  case isFalse => cases e2
  rename_i hfl
  rw [Bool.and_eq_true] at hfl
  obtain ⟨hfree, hlen⟩ := hfl
  have hlen := of_decide_eq_true hlen
  cases e2
  -- what the call gave
  have e0 := e
  unfold fAsg ofR at e0
  cases ec : eFn FF fa r with
  | ex c2 fs r3 => rw [ec] at e0; cases e0
  | st => rw [ec] at e0; cases e0
  | ok o rA =>
  rw [ec] at e0
  dsimp only at e0
  cases ef : frz1 o rA with
  | none => rw [ef] at e0; cases e0
  | some dr =>
  obtain ⟨d, rB⟩ := dr
  rw [ef] at e0
  dsimp only at e0
  cases eg : gTp 2 (gsCons (gNm j1) (gsCons (gNm j2) gsNil)) d rB with
  | none => rw [eg] at e0; cases e0
  | some rC =>
  rw [eg] at e0
  cases e0
  have dt : ∃ d3 d4, d = .tup [d3, d4] ∧ d3 = .str [c] := by
    unfold gTp at eg
    split at eg
    case h_2 => cases eg
    rename_i ds
    split at eg
    case isFalse => cases eg
    rename_i hl2
    match ds, hl2 with
    | [d3, d4], _ =>
      refine ⟨d3, d4, rfl, ?_⟩
      unfold gsCons at eg
      dsimp only at eg
      cases z1 : gNm j1 d3 rB with
      | none => rw [z1] at eg; cases eg
      | some rD =>
        rw [z1] at eg
        dsimp only at eg
        cases z2 : gNm j2 d4 rD with
        | none => rw [z2] at eg; cases eg
        | some rE =>
          rw [z2] at eg
          dsimp only at eg
          cases eg
          unfold gNm at z1 z2
          split at z1
          case isFalse => cases z1
          split at z2
          case isFalse => cases z2
          cases z1; cases z2
          rename_i f1 f2
          rw [List.getElem?_set_ne (fun z => hne z.symm), List.getElem?_set_self (free_lt f1)] at qc
          cases qc; rfl
  obtain ⟨d3, d4, rfl, rfl⟩ := dt
  have cls : (X.env.scope.kind == .class || (X.env.scope.kind == .module && X.env.locals != X.env.globals)) = false := by rw [I.ok.kind]; rfl
  have raw : wpAny (model X.prog X.w) X.A (exec (.Assign [.Tuple [.Name y1 p1, .Name y2 p2] kt pt] (.Call (.Name x p) [.Name sx pa, .Name sl pb, .Constant (.int kk) j0 cp] [] pc) pos1) X.env) (fun fl s' => fl = .next → TokAt X y1 ⟨#[c]⟩ s') X.xe s := by
    have tcall : tE C (eFn FF fa) σ H (fun v H' => ∃ U', Sit C U' H' σ rB ∧ Rp C.K (Wn U' σ rB) H' v (.tup [.str [c], d4])) := by
      refine ⟨U, r, st, ?_⟩
      rw [ec]
      intro v H' U' s' a' p' k' n'
      obtain ⟨U2, s2, a2, u2, k2⟩ := op1_drop st s' a' k' n'
      obtain ⟨s3, a3, p3, x3⟩ := frz1_ok s2 k2 ef
      exact ⟨U2, s3, x3⟩
    refine wpAny_Assign_stores (wpAny_mono (wpAny_both (hcall.run pins s σ H _ I tcall) (call_tok cc hr hj gu tk ha ar h1 h2 I st g1 w1 g2 w2 tcall hK hM hg hdb he he2 hpl)) (fun u sA z => ?_) fun _ _ z => z.1) hsw hww
    obtain ⟨⟨v, HA, IA, rv, UA, siA, xt⟩, a, x1, x2, t1, t2, rfl, it, ge1, lt1⟩ := z
    cases xt with
    | @tup a' vs ds sq ts =>
    have ea : a = a' := by
      have rv : Value.ref a = Value.ref a' := rv
      injection rv
    subst ea
    obtain ⟨its, rvs, ht, hz⟩ := IA.tuple (hK ▸ sq.sq)
    have es := isTup_one ht it
    have e1 : x1 = ⟨#[c]⟩ := by
      have es : its = [.str x1 t1, .str x2 t2] := by
        have := congrArg Array.toList es
        simpa using this
      subst es
      cases ts with
      | cons y ys =>
        cases y
        cases rvs with
        | cons r _ =>
          obtain ⟨t', r⟩ := r
          injection r
    subst e1
    rw [ht1]
    refine assign_Tuple_tuple (IA.ok.hd hc) it (by rw [hn2]; rfl) hst2 fun h' hx => ?_
    have I2 : Inv X pins σ HA { sA with heap := h' } := IA.kept (t' := sA.toks) fun b o e => hx b o (Nat.ne_of_lt (Heap.lt_size e)) e
    obtain ⟨mm, hn, _⟩ := I2.loc
    rw [hst3]
    show wpAny _ _ (assignInOrder _ [.str ⟨#[c]⟩ t1, .str x2 t2]) _ _ _
    refine assignInOrder_cons (wpAny_assign_Name (wpAny_storeName_local hk1 hn (fun h3 hn3 hs3 => ?_) cls))
    refine assignInOrder_cons (wpAny_assign_Name (wpAny_storeName_local hk2 hn3 (fun h4 hn4 hs4 => ?_) cls))
    refine assignInOrder_nil fun _ => ⟨_, t1, hn4, ?_, ge1, ?_⟩
    · have ny : y1 ≠ y2 := fun z => hne (nodup_ix hN hN1 (z ▸ hN2))
      show (if y1 = y2 then some (Value.str x2 t2) else if y1 = y1 then some (Value.str ⟨#[c]⟩ t1) else mm y1) = some (.str ⟨#[c]⟩ t1)
      rw [if_neg ny, if_pos rfl]
    · show t1 < sA.toks + 1 + 1
      exact Nat.lt_of_lt_of_le lt1 (by omega)
  refine wpAny_execs_cons (wpAny_mono (wpAny_both (hst1.run pins s σ H { nx := fun σ' H' => ∃ U', Sit C U' H' σ' r1 ∧ Aft U H σ r U' H' σ' r1, rt := fun _ _ => False, bk := fun _ _ => False, ct := fun _ _ => False } I ⟨U, r, st, by rw [e]; exact fun σ' H' U' s' a' => ⟨U', s', a'⟩⟩) raw) (fun fl s1 z => ?_) fun _ _ z => z.1)
  obtain ⟨z, tk1⟩ := z
  cases fl with
  | ret u => obtain ⟨_, _, _, _, _, z⟩ := z; exact z.elim
  | brk => obtain ⟨_, _, _, z⟩ := z; exact z.elim
  | cont => obtain ⟨_, _, _, z⟩ := z; exact z.elim
  | next =>
  obtain ⟨σ1, H1, I1, U1, si1, a1⟩ := z
  obtain ⟨mm, t, hn, hm, t1, tlt⟩ := tk1 rfl
  obtain ⟨vl, hvl, xl⟩ := si1.rep i _ ql
  cases xl with
  | fz xl =>
  cases xl
  show wpAny _ _ (execs (_ :: sts) X.env) _ _ s1
  refine wpAny_execs_cons (wpAny_Assign_Name (PySem.Call_method2 hbase hstr hline (raw_name hNi hvi I1 hvl (fun v rv => ?_) hdx hcx)) hsw2)
  obtain ⟨tx, rfl⟩ := rv
  refine ⟨"str", _, F.plainAttrs_str, F.slot_str_replace, F.type_str_replace, typeIs_str _ _ _, (fun _ e => nomatch e), Calls.callWith_builtin rfl (Calls.evalArgs_plain (Calls.spliced_cons ?_))⟩
  refine wpAny_Name (wpAny_loadName_local I1.ok.kind hk1 hn hm ?_) hdy
  refine Calls.spliced_cons (Calls.Constant_str (Calls.spliced_nil ?_))
  have lx : (Str.length ⟨l.toArray⟩) = l.length := by simp [Str.length]
  refine PySem.SC.replace (s := { s1 with toks := s1.toks + 1 }) (Nat.one_le_iff_ne_zero.mp t1) (Nat.one_le_iff_ne_zero.mp (Nat.le_trans t1 (Nat.le_of_lt tlt))) (Nat.ne_of_lt tlt) (by rfl) (by rw [lx]; show l.length + (l.length + 1) * 0 ≤ 16777216; omega) fun t' kt' => ?_
  rw [repl_one]
  obtain ⟨U3, si3, a3⟩ := store_aft (i := m) (s := .fz (.str (l.filter (· != c)))) (v := .str ⟨(l.filter (· != c)).toArray⟩) si1 si1 Aft.refl hfree ⟨.fz (.str _), fun p z => (nomatch z), rfl⟩ fun _ _ z q _ => by cases z; cases q
  refine store_ok (v := V.str ⟨(l.filter (· != c)).toArray⟩) (I1.tok kt') hN hNm (.inl hkm) ⟨t', rfl⟩ (fun s2 I2 => ?_) (.inr hkm)
  exact hrest.run pins s2 _ _ D I2 ⟨U3, _, si3, RS.before h (a1.trans a3)⟩
end
end GB
namespace GB
open PySem PySem.Spec PyProof.Rows L2
def endsF (F : Fs) : Fs := fun ss => match ss with
  | [.fz (.str l), .fz (.tup [.int p, .int q]), .fz (.int n)] => if l.length ≤ 1000 then F ss else .st
  | _ => .st
theorem endsF_less (F : Fs) (ss : List S) : endsF F ss = .st ∨ F ss = endsF F ss := by
  unfold endsF
  split
  · split
    · exact .inr rfl
    · exact .inl rfl
  · exact .inl rfl
theorem endsF_at {F : Fs} {l : List Nat} {p q n : Int} (h : l.length ≤ 1000) : endsF F [.fz (.str l), .fz (.tup [.int p, .int q]), .fz (.int n)] = F [.fz (.str l), .fz (.tup [.int p, .int q]), .fz (.int n)] := by
  show (if l.length ≤ 1000 then _ else FR.st) = _
  rw [if_pos h]
theorem DefTk.ok {P : Program} {w : World} {K : PySem.W.Frag} {mg : Str → Option Value} {base : Heap} {j : Nat} {x : Str} {ps : List Str} {F : Fs} (c : DefTk P w K mg base j x ps F) : DefOk P w K mg base j x ps F := by
  obtain ⟨f, fd, G, _, a, b, d⟩ := c.ex
  exact ⟨f, fd, G, a, b, d⟩
abbrev ends1 (Fc : Fs) (nm : Str) (mk : List D → Option (List (Str × D))) : Rho → Fl := fIf (eNotT (eTru (eFn Fc (eCons (eVar 0) (eCons (eVar 1) eNil))))) (fRaise nm mk (eCons (eVar 2) eNil)) fNil
abbrev ends2 : Rho → Fl := fAsg (gTpU 2 (gsCons (gNm 3) (gsCons (gNm 4) gsNil))) (eVar 1)
abbrev endsI : Rho → Rs Opd := e2 (p2 (fInts fModI)) (e2 (p2 fAdd) (eVar 3) (eVar 4)) (e1 (p1 fLen) (eVar 0))
abbrev ends3 : Rho → Fl := fRet (eTup (eCons (e2 qIx (eVar 0) (eVar 3)) (eCons (e2 qIx (eVar 0) endsI) eNil)))
theorem raise_end {nm : Str} {mk : List D → Option (List (Str × D))} {fa : Rho → Rs (List Opd)} (r : Rho) : (∃ c fs r', fRaise nm mk fa r = .ex c fs r') ∨ fRaise nm mk fa r = .st := by
  unfold fRaise
  split
  · split
    · split
      · split
        · exact .inl ⟨_, _, _, rfl⟩
        · exact .inr rfl
      · exact .inr rfl
    · exact .inr rfl
  · exact .inl ⟨_, _, _, rfl⟩
  · exact .inr rfl
theorem tTru_end (o : Opd) (r : Rho) : tTru o r = .st ∨ ∃ k, tTru o r = .ok k r := by
  unfold tTru
  split
  · split
    · exact .inr ⟨_, rfl⟩
    · exact .inl rfl
  · exact .inl rfl
theorem call_end {Fc : Fs} {a b : D} {c x3 x4 : Option S} : (∃ cl fs r', eFnO Fc [.loc 0, .loc 1] [some (.fz a), some (.fz b), c, x3, x4] = .ex cl fs r') ∨ eFnO Fc [.loc 0, .loc 1] [some (.fz a), some (.fz b), c, x3, x4] = .st ∨ ∃ o, eFnO Fc [.loc 0, .loc 1] [some (.fz a), some (.fz b), c, x3, x4] = .ok o [some (.fz a), some (.fz b), c, x3, x4] := by
  unfold eFnO
  split
  · split
    · split
      · rename_i s outs _
        split
        · rename_i w
          match outs, w with
          | [], w => cases w
          | [_], w => cases w
          | [_, _], w => cases w; exact .inr (.inr ⟨_, rfl⟩)
          | _ :: _ :: _ :: _, w => cases w
        · exact .inr (.inl rfl)
      · split
        · exact .inl ⟨_, _, _, rfl⟩
        · exact .inr (.inl rfl)
      · exact .inr (.inl rfl)
    · exact .inr (.inl rfl)
  · exact .inr (.inl rfl)
theorem ends_first {Fc : Fs} {nm : Str} {mk : List D → Option (List (Str × D))} {a b : D} {c x3 x4 : Option S} : (∃ cl fs r', ends1 Fc nm mk [some (.fz a), some (.fz b), c, x3, x4] = .ex cl fs r') ∨ ends1 Fc nm mk [some (.fz a), some (.fz b), c, x3, x4] = .st ∨ ends1 Fc nm mk [some (.fz a), some (.fz b), c, x3, x4] = .nx [some (.fz a), some (.fz b), c, x3, x4] := by
  have ea : eFn Fc (eCons (eVar 0) (eCons (eVar 1) eNil)) [some (.fz a), some (.fz b), c, x3, x4] = eFnO Fc [.loc 0, .loc 1] [some (.fz a), some (.fz b), c, x3, x4] := rfl
  have en : eNotT (eTru (eFn Fc (eCons (eVar 0) (eCons (eVar 1) eNil)))) [some (.fz a), some (.fz b), c, x3, x4] = ((eFnO Fc [.loc 0, .loc 1] [some (.fz a), some (.fz b), c, x3, x4]).bind tTru).bind fun b r1 => .ok (!b) r1 := by
    unfold eNotT eTru
    rw [ea]
  show (∃ cl fs r', ofR (eNotT (eTru (eFn Fc (eCons (eVar 0) (eCons (eVar 1) eNil)))) [some (.fz a), some (.fz b), c, x3, x4]) (fun b r1 => if b then fRaise nm mk (eCons (eVar 2) eNil) r1 else fNil r1) = .ex cl fs r') ∨ ofR (eNotT (eTru (eFn Fc (eCons (eVar 0) (eCons (eVar 1) eNil)))) [some (.fz a), some (.fz b), c, x3, x4]) (fun b r1 => if b then fRaise nm mk (eCons (eVar 2) eNil) r1 else fNil r1) = .st ∨ ofR (eNotT (eTru (eFn Fc (eCons (eVar 0) (eCons (eVar 1) eNil)))) [some (.fz a), some (.fz b), c, x3, x4]) (fun b r1 => if b then fRaise nm mk (eCons (eVar 2) eNil) r1 else fNil r1) = .nx [some (.fz a), some (.fz b), c, x3, x4]
  rw [en]
  rcases call_end (Fc := Fc) (a := a) (b := b) (c := c) (x3 := x3) (x4 := x4) with ⟨cl, fs, r', e⟩ | e | ⟨o, e⟩
  · rw [e]; exact .inl ⟨_, _, _, rfl⟩
  · rw [e]; exact .inr (.inl rfl)
  · rw [e]
    show (∃ cl fs r', ofR ((tTru o [some (.fz a), some (.fz b), c, x3, x4]).bind fun b r1 => .ok (!b) r1) _ = .ex cl fs r') ∨ ofR ((tTru o [some (.fz a), some (.fz b), c, x3, x4]).bind fun b r1 => .ok (!b) r1) _ = .st ∨ ofR ((tTru o [some (.fz a), some (.fz b), c, x3, x4]).bind fun b r1 => .ok (!b) r1) _ = .nx _
    rcases tTru_end o [some (.fz a), some (.fz b), c, x3, x4] with e | ⟨k, e⟩
    · rw [e]; exact .inr (.inl rfl)
    · rw [e]
      cases k with
      | true => exact .inr (.inr rfl)
      | false =>
        rcases raise_end (nm := nm) (mk := mk) (fa := eCons (eVar 2) eNil) [some (.fz a), some (.fz b), c, x3, x4] with ⟨c1, c2, c3, z⟩ | z
        · exact .inl ⟨c1, c2, c3, z⟩
        · exact .inr (.inl z)
theorem ends_sem {Fc : Fs} {nm : Str} {mk : List D → Option (List (Str × D))} {ss : List S} {s : S} {outs : List S} (h : endsF (runF 5 (fSeq (ends1 Fc nm mk) (fSeq ends2 ends3))) ss = .ok s outs) : EndT (ends1 Fc nm mk) ends2 (eVar 0) (eVar 3) (eVar 0) endsI (startR 5 ss) := by
  unfold endsF at h
  split at h
  case h_2 => cases h
  rename_i l p q n
  split at h
  case isFalse => cases h
  rename_i hl
  have e0 : startR 5 [S.fz (.str l), .fz (.tup [.int p, .int q]), .fz (.int n)] = [some (.fz (.str l)), some (.fz (.tup [.int p, .int q])), some (.fz (.int n)), none, none] := rfl
  unfold runF at h
  rw [e0] at h ⊢
  unfold fSeq at h
  rcases ends_first (Fc := Fc) (nm := nm) (mk := mk) (a := .str l) (b := .tup [.int p, .int q]) (c := some (.fz (.int n))) (x3 := none) (x4 := none) with ⟨c, fs, r, e1'⟩ | e1' | e1'
  · rw [e1'] at h; cases h
  · rw [e1'] at h; cases h
  · rw [e1'] at h
    dsimp only at h
    have f2 : ends2 [some (.fz (.str l)), some (.fz (.tup [.int p, .int q])), some (.fz (.int n)), none, none] = .nx [some (.fz (.str l)), some (.fz (.tup [.int p, .int q])), some (.fz (.int n)), some (.fz (.int p)), some (.fz (.int q))] := by
      simp [ends2, fAsg, ofR, gTpU]
    rw [f2] at h
    dsimp only at h
    have bg : big l.length = true := big_of (by omega)
    have ln : (fLen (.fz (.str l)) : Option S) = some (.fz (.int (l.length : Nat))) := by rw [s_lenS, if_pos bg]
    generalize hR : ([some (S.fz (.str l)), some (.fz (.tup [.int p, .int q])), some (.fz (.int n)), some (.fz (.int p)), some (.fz (.int q))] : Rho) = R at *
    have v0 : R[0]? = some (some (S.fz (.str l))) := by subst hR; rfl
    have v3 : R[3]? = some (some (S.fz (.int p))) := by subst hR; rfl
    have ad : endsI R = .st ∨ ∃ k, endsI R = .ok (.val (.fz (.int k))) R := by
      subst hR
      have e1 : endsI [some (S.fz (.str l)), some (.fz (.tup [.int p, .int q])), some (.fz (.int n)), some (.fz (.int p)), some (.fz (.int q))] = match fModI (p + q) (l.length : Nat) with | some s => .ok (.val s) [some (S.fz (.str l)), some (.fz (.tup [.int p, .int q])), some (.fz (.int n)), some (.fz (.int p)), some (.fz (.int q))] | none => .st := by
        simp [endsI, ln, -s_lenS]
        all_goals (cases fModI (p + q) (l.length : Nat) <;> simp)
      rw [e1]
      unfold fModI
      by_cases z : (0 : Int) < (l.length : Nat)
      · rw [if_pos z]; exact .inr ⟨_, rfl⟩
      · rw [if_neg z]; exact .inl rfl
    have ix : ∀ k : Int, qIx [.fz (.str l), .fz (.int k)] = (atI l k).map fun c => .fz (.str [c]) := fun k => by rw [s_ixS, if_pos bg]
    have q1 : (e2 qIx (eVar 0) (eVar 3)) R = match atI l p with | some c => .ok (.val (.fz (.str [c]))) R | none => .st := by
      subst hR
      simp [ix, -s_ixS]
      cases atI l p <;> simp
    have q2 : ∀ G : Rho → Rs Opd, (G R = .st ∨ ∃ k, G R = .ok (.val (.fz (.int k))) R) → ((e2 qIx (eVar 0) G) R = .st ∨ ∃ k c, G R = .ok (.val (.fz (.int k))) R ∧ atI l k = some c) := by
      intro G ad
      rcases ad with e | ⟨k, e⟩
      · left
        subst hR
        simp [e]
      · cases ec : atI l k with
        | none =>
          left
          subst hR
          simp [e, ix, ec, -s_ixS]
        | some c => exact .inr ⟨k, c, e, ec⟩
    have q2 := q2 endsI ad
    cases e1 : atI l p with
    | none =>
      rw [e1] at q1
      dsimp only at q1
      unfold ends3 at h
      generalize (e2 qIx (eVar 0) (eVar 3)) = A at h q1
      generalize (e2 qIx (eVar 0) endsI) = B at h
      simp [fRet, eTup, q1] at h
    | some c1 =>
      rw [e1] at q1
      dsimp only at q1
      rcases q2 with q2 | ⟨k, c2, q2, q3⟩
      · unfold ends3 at h
        generalize (e2 qIx (eVar 0) (eVar 3)) = A at h q1
        generalize (e2 qIx (eVar 0) endsI) = B at h q2
        simp [fRet, eTup, q1, q2] at h
      · have sz : l.length ≤ sizeLine := by rw [sizeLine_eq]; omega
        exact ⟨_, R, .loc 0, .loc 3, .loc 0, .val (.fz (.int k)), l, p, c1, l, k, c2, e1', f2, by unfold eVar; rw [v0], by show (R[0]?).join = _; rw [v0]; rfl, by unfold eVar; rw [v3], by show (R[3]?).join = _; rw [v3]; rfl, e1, sz, by unfold eVar; rw [v0], by show (R[0]?).join = _; rw [v0]; rfl, q2, rfl, q3, sz, _, q1, rfl⟩
/-- a def as ends_of -/
theorem def_atT {P : Program} {w : World} {K : PySem.W.Frag} {mg : Str → Option Value} {base : Heap} {x : Str} {st : Stmt} {N ps : List Str} {k : Nat} {s1 s2 : Stmt} {a1 b1 a2 b2 : Expr} {p1 p2 pt rp : Pos} {kt : Nat} {Fc : Fs} {nm : Str} {mk : List D → Option (List (Str × D))} (d : DefAt K mg x ps st) (Sc : FnScope N ps (defScope st))
    (hbody : defBody st = [s1, s2, .Return (some (.Tuple [.Subscript a1 b1 p1, .Subscript a2 b2 p2] kt pt)) rp]) (hN : N.length = 5)
    (hb : ∀ (f : Addr) (cdv : Value) (A : Around) (l : List Env) (t : Shared) (H : Hp) (E : XK), Room k (A.deeper (envOfC x (defScope st) t.heap.objs.size f cdv)) → A.guards = some [] → GSs (bodyCx P w K mg base N x st f cdv A l t H E) (bodyCt K mg E) (defBody st) (fSeq (ends1 Fc nm mk) (fSeq ends2 ends3)))
    (h1 : ∀ (f : Addr) (cdv : Value) (A : Around) (l : List Env) (t : Shared) (H : Hp) (E : XK), Room k (A.deeper (envOfC x (defScope st) t.heap.objs.size f cdv)) → A.guards = some [] → GS (bodyCx P w K mg base N x st f cdv A l t H E) (bodyCt K mg E) s1 (ends1 Fc nm mk))
    (h2 : ∀ (f : Addr) (cdv : Value) (A : Around) (l : List Env) (t : Shared) (H : Hp) (E : XK), Room k (A.deeper (envOfC x (defScope st) t.heap.objs.size f cdv)) → A.guards = some [] → GS (bodyCx P w K mg base N x st f cdv A l t H E) (bodyCt K mg E) s2 ends2)
    (ea1 : ∀ (f : Addr) (cdv : Value) (A : Around) (l : List Env) (t : Shared) (H : Hp) (E : XK), Room k (A.deeper (envOfC x (defScope st) t.heap.objs.size f cdv)) → A.guards = some [] → GE (bodyCx P w K mg base N x st f cdv A l t H E) (bodyCt K mg E) a1 (eVar 0))
    (eb1 : ∀ (f : Addr) (cdv : Value) (A : Around) (l : List Env) (t : Shared) (H : Hp) (E : XK), Room k (A.deeper (envOfC x (defScope st) t.heap.objs.size f cdv)) → A.guards = some [] → GE (bodyCx P w K mg base N x st f cdv A l t H E) (bodyCt K mg E) b1 (eVar 3))
    (ea2 : ∀ (f : Addr) (cdv : Value) (A : Around) (l : List Env) (t : Shared) (H : Hp) (E : XK), Room k (A.deeper (envOfC x (defScope st) t.heap.objs.size f cdv)) → A.guards = some [] → GE (bodyCx P w K mg base N x st f cdv A l t H E) (bodyCt K mg E) a2 (eVar 0))
    (eb2 : ∀ (f : Addr) (cdv : Value) (A : Around) (l : List Env) (t : Shared) (H : Hp) (E : XK), Room k (A.deeper (envOfC x (defScope st) t.heap.objs.size f cdv)) → A.guards = some [] → GE (bodyCx P w K mg base N x st f cdv A l t H E) (bodyCt K mg E) b2 endsI)
    (es1 : ∀ (f : Addr) (cdv : Value) (A : Around) (l : List Env) (t : Shared) (H : Hp) (E : XK), Room k (A.deeper (envOfC x (defScope st) t.heap.objs.size f cdv)) → A.guards = some [] → GE (bodyCx P w K mg base N x st f cdv A l t H E) (bodyCt K mg E) (.Subscript a1 b1 p1) (e2 qIx (eVar 0) (eVar 3)))
    (px1 : PlainIx b1) (px2 : PlainIx b2) : DefTk P w K mg base (k + 1) x ps (endsF (runF N.length (fSeq (ends1 Fc nm mk) (fSeq ends2 ends3)))) := by
  obtain ⟨f, fd, F, hm, b⟩ := d
  have G := (def_ok F Sc (hb f)).told (endsF_less _)
  exact ⟨f, fd, G, def_tok F Sc hbody rfl G (h1 f) (h2 f) (ea1 f) (eb1 f) (ea2 f) (eb2 f) (es1 f) px1 px2 fun ss s outs h => by
    rw [hN] at h ⊢
    exact ends_sem h, hm, F.kp, b⟩
end GB
namespace GB
open PySem PySem.Spec PyProof.Rows L2
theorem nin_app {α : Type} {y : α} {a b : List α} (h : y ∉ b) (k : y ∉ a) : y ∉ b ++ a := fun q => (List.mem_append.mp q).elim h k
theorem lk_next {f : Nat → Nat} : ∀ {s : List Nat} {x e : Nat}, Lk f x s e → ∀ c ∈ x :: s, f c = e ∨ f c ∈ s
  | [], x, e, h, c, hc => by rw [List.mem_singleton.mp hc]; exact .inl h
  | y :: s, x, e, h, c, hc => by
    rcases List.mem_cons.mp hc with rfl | hc
    · exact .inr (by rw [h.1]; exact List.mem_cons_self ..)
    · exact (lk_next h.2 c hc).imp id fun q => List.mem_cons_of_mem _ q
theorem Orb.next {f : Nat → Nat} {u : List Nat} (o : Orb f u) {c : Nat} (hc : c ∈ u) : f c ∈ u := by
  obtain ⟨x, s, rfl, l⟩ := o
  rcases lk_next l c hc with h | h
  · rw [h]; exact List.mem_cons_self ..
  · exact List.mem_cons_of_mem _ h
/-- the round begun with a letter -/
theorem Orb.at {f : Nat → Nat} {u : List Nat} (o : Orb f u) {c : Nat} (hc : c ∈ u) : ∃ a b, u = a ++ c :: b ∧ Lk f c (b ++ a) c := by
  obtain ⟨a, b, rfl⟩ := List.append_of_mem hc
  refine ⟨a, b, rfl, ?_⟩
  obtain ⟨y, t, e, l⟩ := o.rt (v := c :: (b ++ a)) ⟨a, c :: b, rfl, rfl⟩
  cases e
  exact l
theorem lk_cong {f g : Nat → Nat} : ∀ {s : List Nat} {x e : Nat}, Lk f x s e → (∀ c ∈ x :: s, g c = f c) → Lk g x s e
  | [], x, e, h, k => (k x (List.mem_cons_self ..)).trans h
  | y :: s, x, e, h, k => ⟨(k x (List.mem_cons_self ..)).trans h.1, lk_cong h.2 fun c hc => k c (List.mem_cons_of_mem _ hc)⟩
theorem orb_cong {f g : Nat → Nat} {u : List Nat} (o : Orb f u) (h : ∀ c ∈ u, g c = f c) : Orb g u := by
  obtain ⟨x, s, rfl, l⟩ := o
  exact ⟨x, s, rfl, lk_cong l h⟩
theorem lk_last {f g : Nat → Nat} : ∀ {s : List Nat} {x e e' : Nat}, Lk f x s e → e ∉ s → (∀ c ∈ x :: s, g c = if f c = e then e' else f c) → Lk g x s e'
  | [], x, e, e', h, _, k => by
    have h : f x = e := h
    show g x = e'
    rw [k x (List.mem_cons_self ..), if_pos h]
  | y :: s, x, e, e', h, n, k => by
    refine ⟨?_, lk_last h.2 (fun q => n (List.mem_cons_of_mem _ q)) fun c hc => k c (List.mem_cons_of_mem _ hc)⟩
    rw [k x (List.mem_cons_self ..), if_neg (fun z => n (by rw [← z, h.1]; exact List.mem_cons_self ..))]
    exact h.1
theorem filter_ne {l : List Nat} {y : Nat} (h : y ∉ l) : l.filter (· != y) = l := List.filter_eq_self.mpr fun c hc => by
  have : c ≠ y := fun z => h (z ▸ hc)
  simp [this]
/-- without a letter -/
theorem orb_out {f p : Nat → Nat} {u : List Nat} {y : Nat} (o : Orb f u) (nd : u.Nodup) (hf : f y ≠ y) (hp : ∀ c ∈ u, c ≠ y → p c = if f c = y then f y else f c) : Orb p (u.filter (· != y)) := by
  by_cases hy : y ∈ u
  · obtain ⟨a, b, rfl, l⟩ := o.at hy
    have n1 : y ∉ a := fun q => (List.nodup_append.mp nd).2.2 y q y (List.mem_cons_self ..) rfl
    have n2 : y ∉ b := (List.nodup_cons.mp (List.nodup_append.mp nd).2.1).1
    have e : (a ++ y :: b).filter (· != y) = a ++ b := by
      rw [List.filter_append, List.filter_cons, filter_ne n1, filter_ne n2]
      simp
    rw [e]
    cases h : b ++ a with
    | nil =>
      rw [h] at l
      exact absurd l hf
    | cons z t =>
      rw [h] at l
      obtain ⟨l1, l2⟩ := l
      have nt : y ∉ z :: t := by rw [← h]; exact nin_app n2 n1
      have l3 : Lk p z t z := lk_last l2 (fun q => nt (List.mem_cons_of_mem _ q)) fun c hc => by
        have hm : c ∈ b ++ a := by rw [h]; exact hc
        rw [hp c (by rcases List.mem_append.mp hm with q | q <;> simp [q]) (fun q => nt (q ▸ hc)), l1]
      have o2 : Orb p (b ++ a) := by rw [h]; exact ⟨z, t, rfl, l3⟩
      exact o2.rt ⟨b, a, rfl, rfl⟩
  · rw [filter_ne hy]
    exact orb_cong o fun c hc => by rw [hp c hc fun z => hy (z ▸ hc), if_neg (show ¬ f c = y from fun z => hy (z ▸ o.next hc))]
/-- a letter put in ahead of another one -/
def gAhead (x y c : Nat) : List Nat := if c = x then [y, c] else [c]
def gBehind (z y c : Nat) : List Nat := if c = z then [c, y] else [c]
theorem flat_id {g : Nat → List Nat} : ∀ {l : List Nat}, (∀ c ∈ l, g c = [c]) → l.flatMap g = l
  | [], _ => rfl
  | c :: l, h => by rw [List.flatMap_cons, h c (List.mem_cons_self ..), flat_id fun d hd => h d (List.mem_cons_of_mem _ hd)]; rfl
theorem ahead_id {x y : Nat} {l : List Nat} (h : x ∉ l) : l.flatMap (gAhead x y) = l := flat_id fun c hc => if_neg (show ¬ c = x from fun z => h (z ▸ hc))
theorem behind_id {x y : Nat} {l : List Nat} (h : x ∉ l) : l.flatMap (gBehind x y) = l := flat_id fun c hc => if_neg (show ¬ c = x from fun z => h (z ▸ hc))
theorem orb_ahead {p f : Nat → Nat} {u : List Nat} {x y : Nat} (o : Orb p u) (nd : u.Nodup) (hf : ∀ c ∈ u, f c = if p c = x then y else p c) (hy : f y = x) : Orb f (u.flatMap (gAhead x y)) := by
  by_cases hx : x ∈ u
  · obtain ⟨a, b, rfl, l⟩ := o.at hx
    have n1 : x ∉ a := fun q => (List.nodup_append.mp nd).2.2 x q x (List.mem_cons_self ..) rfl
    have n2 : x ∉ b := (List.nodup_cons.mp (List.nodup_append.mp nd).2.1).1
    have e : (a ++ x :: b).flatMap (gAhead x y) = a ++ y :: x :: b := by
      rw [List.flatMap_append, List.flatMap_cons, ahead_id n1, ahead_id n2]
      simp [gAhead]
    rw [e]
    have l2 : Lk f x (b ++ a) y := lk_last l (nin_app n2 n1) fun c hc => hf c (by
      rcases List.mem_cons.mp hc with rfl | hc
      · simp
      · rcases List.mem_append.mp hc with q | q <;> simp [q])
    have o2 : Orb f (y :: x :: b ++ a) := ⟨y, x :: (b ++ a), rfl, hy, l2⟩
    exact o2.rt ⟨y :: x :: b, a, rfl, rfl⟩
  · rw [ahead_id hx]
    exact orb_cong o fun c hc => by rw [hf c hc, if_neg (show ¬ p c = x from fun z => hx (z ▸ o.next hc))]
theorem orb_behind {p f : Nat → Nat} {u : List Nat} {z y : Nat} (o : Orb p u) (nd : u.Nodup) (hf : ∀ c ∈ u, f c = if c = z then y else p c) (hy : f y = p z) : Orb f (u.flatMap (gBehind z y)) := by
  by_cases hx : z ∈ u
  · obtain ⟨a, b, rfl, l⟩ := o.at hx
    have n1 : z ∉ a := fun q => (List.nodup_append.mp nd).2.2 z q z (List.mem_cons_self ..) rfl
    have n2 : z ∉ b := (List.nodup_cons.mp (List.nodup_append.mp nd).2.1).1
    have e : (a ++ z :: b).flatMap (gBehind z y) = a ++ z :: y :: b := by
      rw [List.flatMap_append, List.flatMap_cons, behind_id n1, behind_id n2]
      simp [gBehind]
    rw [e]
    have nz : ∀ c ∈ b ++ a, c ≠ z := fun c hc q => nin_app n2 n1 (q ▸ hc)
    have fz : f z = y := by rw [hf z (by simp), if_pos rfl]
    have l2 : Lk f y (b ++ a) z := lk_from (f := p) (a := z) l hy fun c hc => by
      rw [hf c (by rcases List.mem_append.mp hc with q | q <;> simp [q]), if_neg (nz c hc)]
    have o2 : Orb f (z :: y :: b ++ a) := ⟨z, y :: (b ++ a), rfl, fz, l2⟩
    exact o2.rt ⟨z :: y :: b, a, rfl, rfl⟩
  · rw [behind_id hx]
    exact orb_cong o fun c hc => by rw [hf c hc, if_neg (show ¬ c = z from fun q => hx (q ▸ hc))]
theorem ahead_perm {x y : Nat} {l : List Nat} (nd : l.Nodup) (hx : x ∈ l) : (l.flatMap (gAhead x y)).Perm (y :: l) := by
  obtain ⟨a, b, rfl⟩ := List.append_of_mem hx
  have n1 : x ∉ a := fun q => (List.nodup_append.mp nd).2.2 x q x (List.mem_cons_self ..) rfl
  have n2 : x ∉ b := (List.nodup_cons.mp (List.nodup_append.mp nd).2.1).1
  have e : (a ++ x :: b).flatMap (gAhead x y) = a ++ y :: x :: b := by
    rw [List.flatMap_append, List.flatMap_cons, ahead_id n1, ahead_id n2]
    simp [gAhead]
  rw [e]
  exact List.perm_middle
theorem behind_perm {x y : Nat} {l : List Nat} (nd : l.Nodup) (hx : x ∈ l) : (l.flatMap (gBehind x y)).Perm (y :: l) := by
  obtain ⟨a, b, rfl⟩ := List.append_of_mem hx
  have n1 : x ∉ a := fun q => (List.nodup_append.mp nd).2.2 x q x (List.mem_cons_self ..) rfl
  have n2 : x ∉ b := (List.nodup_cons.mp (List.nodup_append.mp nd).2.1).1
  have e : (a ++ x :: b).flatMap (gBehind x y) = a ++ x :: y :: b := by
    rw [List.flatMap_append, List.flatMap_cons, behind_id n1, behind_id n2]
    simp [gBehind]
  rw [e]
  have : (a ++ x :: y :: b).Perm (y :: (a ++ x :: b)) := by
    have h : a ++ x :: y :: b = (a ++ [x]) ++ y :: b := by simp
    have k : a ++ x :: b = (a ++ [x]) ++ b := by simp
    rw [h, k]
    exact List.perm_middle
  exact this
theorem flat_move {g : Nat → List Nat} {y : Nat} : ∀ A : List (List Nat), (A.map fun u => (u.filter (· != y)).flatMap g).flatten = (A.flatten.filter (· != y)).flatMap g
  | [] => rfl
  | u :: A => by rw [List.map_cons, List.flatten_cons, List.flatten_cons, List.filter_append, List.flatMap_append, flat_move A]
theorem cons_filter {y : Nat} {X : List Nat} (nd : X.Nodup) (hy : y ∈ X) : (y :: X.filter (· != y)).Perm X := by
  obtain ⟨a, b, rfl⟩ := List.append_of_mem hy
  have n1 : y ∉ a := fun q => (List.nodup_append.mp nd).2.2 y q y (List.mem_cons_self ..) rfl
  have n2 : y ∉ b := (List.nodup_cons.mp (List.nodup_append.mp nd).2.1).1
  rw [List.filter_append, List.filter_cons, filter_ne n1, filter_ne n2]
  simp only [bne_self_eq_false, Bool.false_eq_true, if_false]
  exact List.perm_middle.symm
theorem CD.nods {f : Nat → Nat} {X : List Nat} {A : List (List Nat)} (c : CD f X A) (nd : X.Nodup) {u : List Nat} (hu : u ∈ A) : u.Nodup := by
  have := c.2.nodup_iff.mpr nd
  exact this.sublist (List.sublist_flatten_of_mem hu)
theorem CD.sub {f : Nat → Nat} {X : List Nat} {A : List (List Nat)} (c : CD f X A) {u : List Nat} (hu : u ∈ A) {d : Nat} (hd : d ∈ u) : d ∈ X := c.2.mem_iff.mp (List.mem_flatten.mpr ⟨u, hu, hd⟩)
/-- y moved ahead of x -/
theorem CD.ahead {f f' : Nat → Nat} {X : List Nat} {A : List (List Nat)} (c : CD f X A) (nd : X.Nodup) {x y : Nat} (hx : x ∈ X) (hy : y ∈ X) (ne : x ≠ y) (hf : f y ≠ y)
    (h : ∀ d ∈ X, d ≠ y → f' d = if (if f d = y then f y else f d) = x then y else (if f d = y then f y else f d)) (h' : f' y = x) : CD f' X (A.map fun u => (u.filter (· != y)).flatMap (gAhead x y)) := by
  refine ⟨fun v hv => ?_, ?_⟩
  · obtain ⟨u, hu, rfl⟩ := List.mem_map.mp hv
    have nu := c.nods nd hu
    have o := orb_out (p := fun d => if f d = y then f y else f d) (c.1 u hu) nu hf fun d _ _ => rfl
    refine orb_ahead o (nu.sublist List.filter_sublist) (fun d hd => ?_) h'
    obtain ⟨h1, h2⟩ := List.mem_filter.mp hd
    exact h d (c.sub hu h1) (by simpa using h2)
  · rw [flat_move]
    have nf := c.2.nodup_iff.mpr nd
    refine (ahead_perm (nf.sublist List.filter_sublist) (List.mem_filter.mpr ⟨c.2.mem_iff.mpr hx, by simpa using ne⟩)).trans ?_
    exact (cons_filter nf (c.2.mem_iff.mpr hy)).trans c.2
/-- y moved behind z -/
theorem CD.behind {f f' : Nat → Nat} {X : List Nat} {A : List (List Nat)} (c : CD f X A) (nd : X.Nodup) {z y : Nat} (hz : z ∈ X) (hy : y ∈ X) (ne : z ≠ y) (hf : f y ≠ y)
    (h : ∀ d ∈ X, d ≠ y → f' d = if d = z then y else (if f d = y then f y else f d)) (h' : f' y = if f z = y then f y else f z) : CD f' X (A.map fun u => (u.filter (· != y)).flatMap (gBehind z y)) := by
  refine ⟨fun v hv => ?_, ?_⟩
  · obtain ⟨u, hu, rfl⟩ := List.mem_map.mp hv
    have nu := c.nods nd hu
    have o := orb_out (p := fun d => if f d = y then f y else f d) (c.1 u hu) nu hf fun d _ _ => rfl
    refine orb_behind o (nu.sublist List.filter_sublist) (fun d hd => ?_) h'
    obtain ⟨h1, h2⟩ := List.mem_filter.mp hd
    exact h d (c.sub hu h1) (by simpa using h2)
  · rw [flat_move]
    have nf := c.2.nodup_iff.mpr nd
    refine (behind_perm (nf.sublist List.filter_sublist) (List.mem_filter.mpr ⟨c.2.mem_iff.mpr hz, by simpa using ne⟩)).trans ?_
    exact (cons_filter nf (c.2.mem_iff.mpr hy)).trans c.2
end GB
namespace GB
open PySem PySem.Spec PyProof.Rows L2
/-- e taken out, put behind (b) or ahead of g -/
def slG (e g : Nat) (b : Bool) (c : Nat) : List Nat := if c = g then (if b then [c, e] else [e, c]) else if c = e then [] else [c]
def slL (e g : Nat) (b : Bool) (w : List Nat) : List Nat := w.flatMap (slG e g b)
theorem slG_id {e g : Nat} {b : Bool} {l : List Nat} (h : e ∉ l) (k : g ∉ l) : l.flatMap (slG e g b) = l := flat_id fun c hc => by
  unfold slG
  rw [if_neg (show ¬ c = g from fun z => k (z ▸ hc)), if_neg (show ¬ c = e from fun z => h (z ▸ hc))]
theorem slL_rt {e g : Nat} {b : Bool} {u v : List Nat} (h : Rt u v) : Rt (slL e g b u) (slL e g b v) := by
  obtain ⟨p, q, rfl, rfl⟩ := h
  exact ⟨p.flatMap (slG e g b), q.flatMap (slG e g b), by unfold slL; rw [List.flatMap_append], by unfold slL; rw [List.flatMap_append]⟩
theorem lk_fun2 {f g : Nat → Nat} : ∀ {s : List Nat} {x e : Nat}, Lk f x s e → Lk g x s e → ∀ c ∈ x :: s, f c = g c
  | [], x, e, h, k, c, hc => by rw [List.mem_singleton.mp hc]; exact (show f x = e from h).trans (show g x = e from k).symm
  | y :: s, x, e, h, k, c, hc => by
    rcases List.mem_cons.mp hc with rfl | hc
    · exact h.1.trans k.1.symm
    · exact lk_fun2 h.2 k.2 c hc
/-- the same way to two ends -/
theorem lk_two {f g : Nat → Nat} {a b : Nat} : ∀ {s : List Nat} {x : Nat}, Lk f x s a → Lk g x s b → a ∉ s → ∀ c ∈ x :: s, g c = if f c = a then b else f c
  | [], x, h, k, _, c, hc => by
    rw [List.mem_singleton.mp hc, if_pos (show f x = a from h)]
    exact k
  | y :: s, x, h, k, n, c, hc => by
    rcases List.mem_cons.mp hc with rfl | hc
    · rw [h.1, k.1, if_neg (show ¬ y = a from fun z => n (z ▸ List.mem_cons_self ..))]
    · exact lk_two h.2 k.2 (fun q => n (List.mem_cons_of_mem _ q)) c hc
theorem nd_mid {a b : List Nat} {y : Nat} (h : (a ++ y :: b).Nodup) : y ∉ a ∧ y ∉ b ∧ a.Nodup ∧ b.Nodup ∧ ∀ c ∈ a, c ∉ b := by
  obtain ⟨h1, h2, h3⟩ := List.nodup_append.mp h
  obtain ⟨h4, h5⟩ := List.nodup_cons.mp h2
  exact ⟨fun q => h3 y q y (List.mem_cons_self ..) rfl, h4, h1, h5, fun c hc q => h3 c hc c (List.mem_cons_of_mem _ q) rfl⟩
section
variable {w : List Nat} {σ σ' : Nat → Nat} {x y Y : Nat}
/-- the end's follower is its neighbour -/
theorem slide_next (nd : w.Nodup) (o : Orb σ w) (hx : x ∈ w) (hy : σ x = y) (hY : Y ∈ w) (n1 : Y ≠ x) (n2 : Y ≠ y) (n3 : x ≠ y) (o' : Orb σ' (slL x Y true w)) :
    (∀ d ∈ w, d ≠ Y → σ' d = if (if σ d = y then σ Y else σ d) = x then y else (if σ d = y then σ Y else σ d)) ∧ σ' Y = x ∧ σ Y ≠ y ∧ (slL x Y true w).Perm w := by
  obtain ⟨a, b, ew, l⟩ := o.at hx
  have r : Rt w (x :: (b ++ a)) := ⟨a, x :: b, ew, rfl⟩
  have ndT : (x :: (b ++ a)).Nodup := r.perm.nodup_iff.mp nd
  have hm : ∀ d, d ∈ w ↔ d ∈ x :: (b ++ a) := fun d => r.perm.mem_iff
  generalize b ++ a = M0 at *
  cases M0 with
  | nil =>
    have l : σ x = x := l
    exact absurd (l.symm.trans hy) n3
  | cons y' M =>
  obtain ⟨l1, l2⟩ := l
  have e : y' = y := l1.symm.trans hy
  subst e
  have hYM : Y ∈ M := by
    rcases List.mem_cons.mp ((hm Y).mp hY) with h | h
    · exact absurd h n1
    · rcases List.mem_cons.mp h with h | h
      · exact absurd h n2
      · exact h
  obtain ⟨P, V, rfl⟩ := List.append_of_mem hYM
  obtain ⟨l3, l4⟩ := lk_app.mp l2
  obtain ⟨nx, nd1⟩ := List.nodup_cons.mp ndT
  obtain ⟨ny, nd2⟩ := List.nodup_cons.mp nd1
  obtain ⟨nYP, nYV, _, _, _⟩ := nd_mid nd2
  have xP : x ∉ P := fun q => nx (by simp [q])
  have xV : x ∉ V := fun q => nx (by simp [q])
  have yP : y' ∉ P := fun q => ny (by simp [q])
  have yV : y' ∉ V := fun q => ny (by simp [q])
  have eT : slL x Y true (x :: y' :: (P ++ Y :: V)) = y' :: (P ++ Y :: x :: V) := by
    unfold slL
    rw [List.flatMap_cons, List.flatMap_cons, List.flatMap_append, List.flatMap_cons, slG_id xP nYP, slG_id xV nYV]
    simp [slG, n1.symm, n2.symm, n3.symm]
  have rT := slL_rt (e := x) (g := Y) (b := true) r
  rw [eT] at rT
  obtain ⟨z, t, e, l'⟩ := o'.rt rT
  cases e
  obtain ⟨m1, m2⟩ := lk_app.mp l'
  have m2 : Lk σ' Y (x :: V) y' := m2
  obtain ⟨m2, m3⟩ := m2
  refine ⟨fun d hd nY => ?_, m2, ?_, ?_⟩
  · rcases List.mem_cons.mp ((hm d).mp hd) with rfl | hd
    · rw [l1, if_pos rfl]
      cases V with
      | nil =>
        have l4 : σ Y = d := l4
        have m3 : σ' d = y' := m3
        rw [l4, if_pos rfl]; exact m3
      | cons v V =>
        rw [l4.1, m3.1, if_neg (show ¬ v = d from fun z => xV (z ▸ List.mem_cons_self ..))]
    · rcases List.mem_append.mp (show d ∈ (y' :: P) ++ Y :: V from hd) with hd | hd
      · have e1 := lk_fun2 l3 m1 d hd
        have e2 := lk_next l3 d hd
        have e3 : σ d ≠ y' := fun z => by
          rw [z] at e2
          rcases e2 with q | q
          · exact n2 q.symm
          · exact yP q
        have e4 : σ d ≠ x := fun z => by
          rw [z] at e2
          rcases e2 with q | q
          · exact n1 q.symm
          · exact xP q
        rw [if_neg e3, if_neg e4]; exact e1.symm
      · rcases List.mem_cons.mp hd with h | hd
        · exact absurd h nY
        · cases V with
          | nil => cases hd
          | cons v V =>
            have e1 := lk_two l4.2 m3.2 (fun q => xV (List.mem_cons_of_mem _ q)) d hd
            have e2 := lk_next l4.2 d hd
            have e3 : σ d ≠ y' := fun z => by
              rw [z] at e2
              rcases e2 with q | q
              · exact n3 q.symm
              · exact yV (List.mem_cons_of_mem _ q)
            rw [if_neg e3]; exact e1
  · intro z
    cases V with
    | nil => exact n3 ((show σ Y = x from l4).symm.trans z)
    | cons v V => exact yV (by rw [← z, l4.1]; exact List.mem_cons_self ..)
  · refine rT.perm.trans (List.Perm.trans ?_ r.perm.symm)
    have h1 : (y' :: (P ++ Y :: x :: V)).Perm (x :: (y' :: (P ++ Y :: V))) := by
      have e1 : y' :: (P ++ Y :: x :: V) = (y' :: P ++ [Y]) ++ x :: V := by simp
      have e2 : x :: (y' :: (P ++ Y :: V)) = x :: ((y' :: P ++ [Y]) ++ V) := by simp
      rw [e1, e2]
      exact List.perm_middle
    exact h1
/-- the end follows its neighbour -/
theorem slide_prev (nd : w.Nodup) (o : Orb σ w) (hy' : y ∈ w) (hy : σ y = x) (hY : Y ∈ w) (n1 : Y ≠ x) (n2 : Y ≠ y) (n3 : x ≠ y) (o' : Orb σ' (slL x Y false w)) :
    (∀ d ∈ w, d ≠ y → σ' d = if d = x then Y else (if σ d = Y then σ y else σ d)) ∧ σ' y = (if σ x = Y then σ y else σ x) ∧ σ y ≠ Y ∧ (slL x Y false w).Perm w := by
  obtain ⟨a, b, ew, l⟩ := o.at hy'
  have r : Rt w (y :: (b ++ a)) := ⟨a, y :: b, ew, rfl⟩
  have ndT : (y :: (b ++ a)).Nodup := r.perm.nodup_iff.mp nd
  have hm : ∀ d, d ∈ w ↔ d ∈ y :: (b ++ a) := fun d => r.perm.mem_iff
  generalize b ++ a = M0 at *
  cases M0 with
  | nil =>
    have l : σ y = y := l
    exact absurd (hy.symm.trans l) n3
  | cons x' M =>
  obtain ⟨l1, l2⟩ := l
  have e : x' = x := l1.symm.trans hy
  subst e
  have hYM : Y ∈ M := by
    rcases List.mem_cons.mp ((hm Y).mp hY) with h | h
    · exact absurd h n2
    · rcases List.mem_cons.mp h with h | h
      · exact absurd h n1
      · exact h
  obtain ⟨P, V, rfl⟩ := List.append_of_mem hYM
  obtain ⟨l3, l4⟩ := lk_app.mp l2
  obtain ⟨ny, nd1⟩ := List.nodup_cons.mp ndT
  obtain ⟨nx, nd2⟩ := List.nodup_cons.mp nd1
  obtain ⟨nYP, nYV, _, _, _⟩ := nd_mid nd2
  have xP : x' ∉ P := fun q => nx (by simp [q])
  have xV : x' ∉ V := fun q => nx (by simp [q])
  have yP : y ∉ P := fun q => ny (by simp [q])
  have yV : y ∉ V := fun q => ny (by simp [q])
  have eT : slL x' Y false (y :: x' :: (P ++ Y :: V)) = y :: (P ++ x' :: Y :: V) := by
    unfold slL
    rw [List.flatMap_cons, List.flatMap_cons, List.flatMap_append, List.flatMap_cons, slG_id xP nYP, slG_id xV nYV]
    simp [slG, n1.symm, n2.symm, n3.symm]
  have rT := slL_rt (e := x') (g := Y) (b := false) r
  rw [eT] at rT
  obtain ⟨z, t, e, l'⟩ := o'.rt rT
  cases e
  obtain ⟨m1, m2⟩ := lk_app.mp l'
  have m2 : Lk σ' x' (Y :: V) y := m2
  obtain ⟨m2, m3⟩ := m2
  refine ⟨fun d hd nY => ?_, ?_, by rw [l1]; exact n1.symm, ?_⟩
  · rcases List.mem_cons.mp ((hm d).mp hd) with h | hd
    · exact absurd h nY
    · rcases List.mem_cons.mp hd with rfl | hd
      · rw [if_pos rfl]; exact m2
      · have dx : d ≠ x' := fun z => (List.nodup_cons.mp nd1).1 (z ▸ hd)
        rw [if_neg dx]
        rcases List.mem_append.mp hd with hd | hd
        · cases P with
          | nil => cases hd
          | cons u P =>
            have e1 := lk_two l3.2 m1.2 (fun q => nYP (List.mem_cons_of_mem _ q)) d hd
            rw [l1]; exact e1
        · have e1 := lk_fun2 l4 m3 d hd
          have e2 := lk_next l4 d hd
          have e3 : σ d ≠ Y := fun z => by
            rw [z] at e2
            rcases e2 with q | q
            · exact n2 q
            · exact nYV q
          rw [if_neg e3]; exact e1.symm
  · cases P with
    | nil =>
      have l3 : σ x' = Y := l3
      have m1 : σ' y = x' := m1
      rw [if_pos l3, l1]; exact m1
    | cons u P => rw [l3.1, m1.1, if_neg (show ¬ u = Y from fun z => nYP (z ▸ List.mem_cons_self ..))]
  · refine rT.perm.trans (List.Perm.trans ?_ r.perm.symm)
    have e1 : y :: (P ++ x' :: Y :: V) = (y :: P) ++ x' :: (Y :: V) := by simp
    have e2 : y :: x' :: (P ++ Y :: V) = y :: x' :: (P ++ Y :: V) := rfl
    have h1 : ((y :: P) ++ x' :: (Y :: V)).Perm (x' :: ((y :: P) ++ Y :: V)) := List.perm_middle
    rw [e1]
    refine h1.trans ?_
    show (x' :: y :: (P ++ Y :: V)).Perm (y :: x' :: (P ++ Y :: V))
    exact List.Perm.swap ..
end
section
variable {w : List Nat} {σ σ' : Nat → Nat} {x y : Nat} {A : List (List Nat)}
/-- the rounds go over -/
theorem slide_on (nd : w.Nodup) (hL : ∀ c ∈ w, isL c = true) (hb : ∀ c ∈ w, bk c ∈ w) (o : Orb σ w) (hx : x ∈ w) (hy : σ x = y) (ny : y ≠ bk x) (n3 : x ≠ y) (o' : Orb σ' (slL x (bk y) true w)) (c : CD (fun d => σ (bk d)) w A) :
    CD (fun d => σ' (bk d)) w (A.map fun u => (u.filter (· != y)).flatMap (gAhead x y)) ∧ (slL x (bk y) true w).Perm w := by
  have yw : y ∈ w := by rw [← hy]; exact o.next hx
  have bb := bk_bk (hL y yw)
  have bx := bk_bk (hL x hx)
  have n1 : bk y ≠ x := fun z => ny (by rw [← z, bb])
  have n2 : bk y ≠ y := fun z => by
    have : ∀ c, isL c = true → bk c ≠ c := fun c h => bk_ne h
    exact this y (hL y yw) z
  obtain ⟨h1, h2, h3, h4⟩ := slide_next nd o hx hy (hb y yw) n1 n2 n3 o'
  refine ⟨c.ahead nd hx yw n3 (by show σ (bk y) ≠ y; exact h3) (fun d hd nd' => ?_) h2, h4⟩
  have := h1 (bk d) (hb d hd) (fun z => nd' (by rw [← bk_bk (hL d hd), z, bb]))
  exact this
theorem slide_back (nd : w.Nodup) (hL : ∀ c ∈ w, isL c = true) (hb : ∀ c ∈ w, bk c ∈ w) (o : Orb σ w) (hyw : y ∈ w) (hy : σ y = x) (ny : y ≠ bk x) (n3 : x ≠ y) (o' : Orb σ' (slL x (bk y) false w)) (c : CD (fun d => σ (bk d)) w A) :
    CD (fun d => σ' (bk d)) w (A.map fun u => (u.filter (· != bk y)).flatMap (gBehind (bk x) (bk y))) ∧ (slL x (bk y) false w).Perm w := by
  have xw : x ∈ w := by rw [← hy]; exact o.next hyw
  have bb := bk_bk (hL y hyw)
  have bx := bk_bk (hL x xw)
  have n1 : bk y ≠ x := fun z => ny (by rw [← z, bb])
  have n2 : bk y ≠ y := bk_ne (hL y hyw)
  have n4 : bk x ≠ bk y := fun z => n3 (by rw [← bx, z, bb])
  obtain ⟨h1, h2, h3, h4⟩ := slide_prev nd o hyw hy (hb y hyw) n1 n2 n3 o'
  refine ⟨c.behind nd (hb x xw) (hb y hyw) n4 (by show σ (bk (bk y)) ≠ bk y; rw [bb]; exact h3) (fun d hd nd' => ?_) ?_, h4⟩
  · have := h1 (bk d) (hb d hd) (fun z => nd' (by rw [← bk_bk (hL d hd), z]))
    show σ' (bk d) = if d = bk x then bk y else (if σ (bk d) = bk y then σ (bk (bk y)) else σ (bk d))
    rw [bb]
    by_cases z : d = bk x
    · subst z
      rw [bx] at this ⊢
      rw [if_pos rfl] at this ⊢
      exact this
    · rw [if_neg z]
      rw [if_neg (show ¬ bk d = x from fun q => z (by rw [← q, bk_bk (hL d hd)]))] at this
      exact this
  · show σ' (bk (bk y)) = if σ (bk (bk x)) = bk y then σ (bk (bk y)) else σ (bk (bk x))
    rw [bb, bx]; exact h2
end
end GB
namespace GB
open PySem PySem.Spec PyProof.Rows L2
/-- the least turn of the middle -/
def clsW (w : List Nat) : List Nat := leastTurn (midO (red w))
theorem W.of_rt {a b : List Nat} (h : W a) (r : Rt a b) : W b := fun c hc => h c (r.perm.mem_iff.mpr hc)
theorem cls_iff {u v : List Nat} : clsW u = clsW v ↔ Rt (midO (red u)) (midO (red v)) := least_iff
theorem cls_conj {s b : List Nat} (hs : W s) (hb : W b) : clsW (b ++ s ++ bkw b) = clsW s := cls_iff.mpr (mid_conj hs hb).symm
theorem cls_red {s : List Nat} (hs : W s) : clsW (red s) = clsW s := by
  unfold clsW
  rw [(red_self (red_w hs)).mpr ((red_self (red_w hs)).mp (by
    have := red_mid (a := []) (b := []) .nil hs .nil
    simpa using this))]
theorem cls_eq {u v : List Nat} (h : red u = red v) : clsW u = clsW v := by unfold clsW; rw [h]
theorem cls_rt {a b : List Nat} (h : W a) (r : Rt a b) : clsW a = clsW b := by
  obtain ⟨p, q, rfl, rfl⟩ := r
  have hp : W p := fun c hc => h c (List.mem_append_left _ hc)
  have hq : W q := fun c hc => h c (List.mem_append_right _ hc)
  have e := cls_conj (s := q ++ p) (b := p) (hq.app hp) hp
  rw [← e]
  refine cls_eq ?_
  have : red (p ++ (q ++ p) ++ bkw p) = red ((p ++ q) ++ red (p ++ bkw p)) := by
    rw [red_r (hp.app hq) (hp.app hp.bkw)]
    simp [List.append_assoc]
  rw [this, red_back hp, List.append_nil]
/-- a round word -/
def RdW (u : List Nat) : Prop := W u ∧ tidy u = true ∧ Jn u u
theorem cls_round {u : List Nat} (h : RdW u) : clsW u = leastTurn u := by
  unfold clsW
  rw [(red_self h.1).mpr h.2.1]
  by_cases e : u = []
  · subst e; rfl
  · rw [mid_self h.1 e h.2.2]
/-- a middle is round -/
theorem mid_rd {s : List Nat} (h : W s) : RdW (midO (red s)) := by
  have hr := red_w h
  have ht : tidy (red s) = true := (red_self hr).mp (by
    have := red_mid (a := []) (b := []) .nil h .nil
    simpa using this)
  by_cases e : red s = []
  · rw [e]; exact ⟨fun c hc => (nomatch hc), rfl, fun x y hx _ => by cases hx⟩
  · obtain ⟨h1, h2⟩ := core_jn hr ht e
    obtain ⟨h3, _⟩ := core_split hr
    refine ⟨fun c hc => hr c ?_, mid_tidy hr ht, h2⟩
    rw [← h3]
    exact List.mem_append_left _ (List.mem_append_right _ hc)
/-- a word over, up to turning, by the word up to turning -/
theorem sub_cls {t : List (List Nat)} (ht : Ws t) {v : List Nat} (hv : W v) : clsW (sub t v) = clsW (sub t (clsW v)) := by
  have hr := red_w hv
  obtain ⟨h3, _⟩ := core_split hr
  have hm := (mid_rd hv).1
  have hp : W ((red v).take (coreN (red v))) := hr.take _
  have e1 : clsW (sub t v) = clsW (sub t (midO (red v))) := by
    have a : clsW (sub t v) = clsW (sub t (red v)) := cls_eq (sub_red ht hv).symm
    rw [a]
    have b : sub t (red v) = sub t ((red v).take (coreN (red v))) ++ sub t (midO (red v)) ++ bkw (sub t ((red v).take (coreN (red v)))) := by
      rw [← sub_bkw ht hp, ← sub_app, ← sub_app]
      congr 1
      exact h3.symm
    rw [b]
    exact cls_conj (sub_w ht _) (sub_w ht _)
  rw [e1]
  obtain ⟨p, q, e, f⟩ := least_rt (midO (red v))
  refine cls_rt (sub_w ht _) ⟨sub t p, sub t q, by rw [e, sub_app], ?_⟩
  show sub t (leastTurn (midO (red v))) = _
  rw [f, sub_app]
/-- a round of a map that leads no letter to its back -/
theorem lk_tidy {f : Nat → Nat} : ∀ {s : List Nat} {x e : Nat}, W (x :: s) → Lk f x s e → (∀ c ∈ x :: s, f c ≠ bk c) → tidy (x :: s) = true ∧ ∀ z, (x :: s).getLast? = some z → f z = e
  | [], x, e, _, h, _ => ⟨rfl, fun z hz => by cases hz; exact h⟩
  | y :: s, x, e, hw, h, k => by
    have hx : W [x] := fun c hc => hw c (by rw [List.mem_singleton.mp hc]; exact List.mem_cons_self ..)
    have hs : W (y :: s) := fun c hc => hw c (List.mem_cons_of_mem _ hc)
    obtain ⟨t, l⟩ := lk_tidy hs h.2 fun c hc => k c (List.mem_cons_of_mem _ hc)
    refine ⟨?_, fun z hz => l z (by rw [List.getLast?_cons_cons] at hz; exact hz)⟩
    have := (tidy_app hx hs).mpr ⟨rfl, t, fun a b ha hb => by
      cases ha; cases hb
      rw [← h.1]
      exact k x (List.mem_cons_self ..)⟩
    exact this
theorem orb_rd {f : Nat → Nat} {u : List Nat} (hw : W u) (o : Orb f u) (k : ∀ c ∈ u, f c ≠ bk c) : RdW u := by
  obtain ⟨x, s, rfl, l⟩ := o
  obtain ⟨t, e⟩ := lk_tidy hw l k
  refine ⟨hw, t, fun a b ha hb => ?_⟩
  cases hb
  rw [← e a ha]
  exact k a (List.mem_of_getLast? ha)
/-- u stands just ahead of v, and v just behind u -/
inductive PrW (u v : Nat) : List Nat → Prop
  | nil : PrW u v []
  | pair {t : List Nat} : PrW u v t → PrW u v (u :: v :: t)
  | one {c : Nat} {t : List Nat} : c ≠ u → c ≠ v → PrW u v t → PrW u v (c :: t)
theorem pr_of {f : Nat → Nat} {u v : Nat} (hu : f u = v) : ∀ (n : Nat) {s : List Nat} {x e : Nat}, s.length ≤ n → Lk f x s e → (∀ c ∈ x :: s, f c = v → c = u) → x ≠ v → e ≠ v → PrW u v (x :: s) := by
  intro n
  induction n with
  | zero =>
    intro s x e hl l hf nx ne
    have es : s = [] := List.length_eq_zero_iff.mp (Nat.le_zero.mp hl)
    subst es
    have l : f x = e := l
    exact .one (fun z => ne (by rw [← l, z, hu])) nx .nil
  | succ n ih =>
    intro s x e hl l hf nx ne
    by_cases hx : x = u
    · cases s with
      | nil =>
        have l : f x = e := l
        exact absurd (by rw [← l, hx, hu]) ne
      | cons y s =>
        have ey : y = v := by rw [← l.1, hx, hu]
        subst ey
        subst hx
        cases s with
        | nil => exact .pair .nil
        | cons z s =>
          refine .pair (ih (by simp at hl; omega) l.2.2 (fun c hc => hf c (List.mem_cons_of_mem _ (List.mem_cons_of_mem _ hc))) (fun q => ?_) ne)
          have := hf y (by simp) (l.2.1.trans q)
          exact nx this.symm
    · cases s with
      | nil =>
        have l : f x = e := l
        exact .one hx nx .nil
      | cons y s =>
        refine .one hx nx (ih (by simp at hl; omega) l.2 (fun c hc => hf c (List.mem_cons_of_mem _ hc)) (fun q => hx (hf x (List.mem_cons_self ..) (l.1.trans q))) ne)
theorem pr_rot {f : Nat → Nat} {u v : Nat} {U : List Nat} (o : Orb f U) (hu : f u = v) (hf : ∀ c ∈ U, f c = v → c = u) (hv : f v ≠ v) : ∃ L, Rt U L ∧ PrW u v L := by
  obtain ⟨x, s, rfl, l⟩ := o
  by_cases hx : x = v
  · cases s with
    | nil =>
      have l : f x = x := l
      rw [hx] at l
      exact absurd l hv
    | cons b t =>
      have l' : Lk f b (t ++ [x]) b := lk_app.mpr ⟨l.2, l.1⟩
      have nb : b ≠ v := fun z => hv (by rw [← hx]; rw [l.1, z, hx])
      refine ⟨b :: (t ++ [x]), ⟨[x], b :: t, rfl, rfl⟩, pr_of hu _ (Nat.le_refl _) l' (fun c hc => hf c ?_) nb nb⟩
      simp at hc ⊢
      rcases hc with h | h | h
      · exact .inr (.inl h)
      · exact .inr (.inr h)
      · exact .inl h
  · exact ⟨x :: s, Rt.refl _, pr_of hu _ (Nat.le_refl _) l hf hx hx⟩
theorem cut_L {P f Q : List Nat} (hP : W P) (hf : W f) (hQ : W Q) : red (P ++ (bkw f ++ f) ++ Q) = red (P ++ Q) := by
  rw [← red_mid hP (hf.bkw.app hf) hQ, red_back' hf, List.append_nil]
/-- x becomes y x; X y is X alone -/
theorem red_ahead {ov : Nat → List Nat} {x y : Nat} (hx : isL x = true) (hy : isL y = true) (ny : y ≠ bk x) (h1 : ∀ c, isL c = true → c ≠ bk x → c ≠ y → ov c = gAhead x y c) (h2 : ov (bk x) = [bk x, bk y]) (h3 : ov y = [y]) (how : ∀ c, W (ov c)) {L : List Nat} (p : PrW (bk x) y L) : W L → red (L.flatMap ov) = red ((L.filter (· != y)).flatMap (gAhead x y)) := by
  have bL : ∀ c, isL c = true → isL (bk c) = true := fun c h => by
    have := (W1 h).bkw
    exact this (bk c) (by simp [bkw])
  have gw : ∀ t : List Nat, W t → W ((t.filter (· != y)).flatMap (gAhead x y)) := fun t ht c hc => by
    obtain ⟨d, hd, hc⟩ := List.mem_flatMap.mp hc
    unfold gAhead at hc
    have hd := ht d (List.mem_filter.mp hd).1
    split at hc
    · simp at hc; rcases hc with rfl | rfl
      · exact hy
      · exact hd
    · rw [List.mem_singleton.mp hc]; exact hd
  have ow : ∀ t : List Nat, W (t.flatMap ov) := fun t c hc => by
    obtain ⟨d, _, hc⟩ := List.mem_flatMap.mp hc
    exact how d c hc
  induction p with
  | nil => intro _; rfl
  | @pair t p ih =>
    intro hw
    have ht : W t := fun c hc => hw c (List.mem_cons_of_mem _ (List.mem_cons_of_mem _ hc))
    have ih := ih ht
    rw [List.flatMap_cons, List.flatMap_cons, h2, h3, List.filter_cons, List.filter_cons]
    have n1 : (bk x != y) = true := by simp; exact fun z => ny z.symm
    rw [if_pos n1, if_neg (by simp), List.flatMap_cons]
    have g1 : gAhead x y (bk x) = [bk x] := if_neg (bk_ne hx)
    rw [g1]
    have a := cut_L (P := [bk x]) (f := [y]) (Q := t.flatMap ov) (W1 (bL x hx)) (W1 hy) (ow t)
    have e : [bk x, bk y] ++ ([y] ++ t.flatMap ov) = [bk x] ++ (bkw [y] ++ [y]) ++ t.flatMap ov := by simp [bkw]
    rw [e, a, ← red_r (W1 (bL x hx)) (ow t), ih, red_r (W1 (bL x hx)) (gw t ht)]
  | @one c t n1 n2 p ih =>
    intro hw
    have ht : W t := fun d hd => hw d (List.mem_cons_of_mem _ hd)
    have ih := ih ht
    rw [List.flatMap_cons, List.filter_cons, if_pos (by simpa using n2), List.flatMap_cons, ← h1 c (hw c (List.mem_cons_self ..)) n1 n2, ← red_r (how c) (ow t), ih, red_r (how c) (gw t ht)]
/-- X becomes X Y; Y x is x alone -/
theorem red_behind {ov : Nat → List Nat} {x y : Nat} (hx : isL x = true) (hy : isL y = true) (ny : y ≠ bk x) (h1 : ∀ c, isL c = true → c ≠ bk y → c ≠ x → ov c = gBehind (bk x) (bk y) c) (h2 : ov x = [y, x]) (h3 : ov (bk y) = [bk y]) (how : ∀ c, W (ov c)) {L : List Nat} (p : PrW (bk y) x L) : W L → red (L.flatMap ov) = red ((L.filter (· != bk y)).flatMap (gBehind (bk x) (bk y))) := by
  have bL : ∀ c, isL c = true → isL (bk c) = true := fun c h => by
    have := (W1 h).bkw
    exact this (bk c) (by simp [bkw])
  have gw : ∀ t : List Nat, W t → W ((t.filter (· != bk y)).flatMap (gBehind (bk x) (bk y))) := fun t ht c hc => by
    obtain ⟨d, hd, hc⟩ := List.mem_flatMap.mp hc
    unfold gBehind at hc
    have hd := ht d (List.mem_filter.mp hd).1
    split at hc
    · simp at hc; rcases hc with rfl | rfl
      · exact hd
      · exact bL y hy
    · rw [List.mem_singleton.mp hc]; exact hd
  have ow : ∀ t : List Nat, W (t.flatMap ov) := fun t c hc => by
    obtain ⟨d, _, hc⟩ := List.mem_flatMap.mp hc
    exact how d c hc
  induction p with
  | nil => intro _; rfl
  | @pair t p ih =>
    intro hw
    have ht : W t := fun c hc => hw c (List.mem_cons_of_mem _ (List.mem_cons_of_mem _ hc))
    have ih := ih ht
    rw [List.flatMap_cons, List.flatMap_cons, h2, h3, List.filter_cons, List.filter_cons]
    have n1 : (x != bk y) = true := by
      have : x ≠ bk y := fun z => ny (by rw [z, bk_bk hy])
      simpa using this
    rw [if_neg (by simp), if_pos n1, List.flatMap_cons]
    have g1 : gBehind (bk x) (bk y) x = [x] := if_neg (fun z => bk_ne hx z.symm)
    rw [g1]
    have a := cut_L (P := []) (f := [y]) (Q := [x] ++ t.flatMap ov) .nil (W1 hy) ((W1 hx).app (ow t))
    have e : [bk y] ++ ([y, x] ++ t.flatMap ov) = [] ++ (bkw [y] ++ [y]) ++ ([x] ++ t.flatMap ov) := by simp [bkw]
    rw [e, a, List.nil_append, ← red_r (W1 hx) (ow t), ih, red_r (W1 hx) (gw t ht)]
  | @one c t n1 n2 p ih =>
    intro hw
    have ht : W t := fun d hd => hw d (List.mem_cons_of_mem _ hd)
    have ih := ih ht
    rw [List.flatMap_cons, List.filter_cons, if_pos (by simpa using n1), List.flatMap_cons, ← h1 c (hw c (List.mem_cons_self ..)) n1 n2, ← red_r (how c) (ow t), ih, red_r (how c) (gw t ht)]
theorem move_rt {y : Nat} {g : Nat → List Nat} {u v : List Nat} (h : Rt u v) : Rt ((u.filter (· != y)).flatMap g) ((v.filter (· != y)).flatMap g) := by
  obtain ⟨p, q, rfl, rfl⟩ := h
  exact ⟨(p.filter (· != y)).flatMap g, (q.filter (· != y)).flatMap g, by rw [List.filter_append, List.flatMap_append], by rw [List.filter_append, List.flatMap_append]⟩
theorem flat_rt {g : Nat → List Nat} {u v : List Nat} (h : Rt u v) : Rt (u.flatMap g) (v.flatMap g) := by
  obtain ⟨p, q, rfl, rfl⟩ := h
  exact ⟨p.flatMap g, q.flatMap g, List.flatMap_append, List.flatMap_append⟩
end GB
namespace W_k65
open PySem PySem.Spec PyProof.Rows L2 GB
def topS (i : Nat) : Stmt := PySem.Challenge.pw_ringwords_k65_whole_holes_go_over.main.body.getD i (.Pass ⟨0, 0, 0, 0⟩)
abbrev st_NoSlide : Stmt := clsS 0 (topS 2)
abbrev n_NoSlide : List Str := ["self", "place"]
theorem sc_NoSlide : FnScope n_NoSlide n_NoSlide (defScope st_NoSlide) := ⟨rfl, rfl, rfl, by decide +kernel, rfl, by decide +kernel, by decide +kernel⟩
noncomputable def m_NoSlide : Rho → Rs Opd :=
  (e2 (p2 fAdd) (eC (.str [110, 111, 32, 115, 108, 105, 100, 101, 32, 97, 116, 32])) (e1 (p1 fStr) (eVar 1)))
noncomputable abbrev X_NoSlide : List D → Option (List (Str × D)) := mkX ["place"] m_NoSlide
abbrev st_number_of : Stmt := topS 5
abbrev n_number_of : List Str := ["letter"]
abbrev p_number_of : List Str := ["letter"]
theorem sc_number_of : FnScope n_number_of p_number_of (defScope st_number_of) := ⟨rfl, rfl, rfl, by decide +kernel, rfl, by decide +kernel, by decide +kernel⟩
noncomputable def b_number_of : Rho → Fl :=
  (fRet (eMeth isStr (p2 fSIndex) (eC (.str [97, 98, 99, 100, 101, 102])) (eCons (eMeth isStr (p1 fLower) (eVar 0) eNil) eNil)))
noncomputable def F_number_of : Fs := lockF (runF 1 b_number_of)
theorem F_number_of_eq : F_number_of = runF 1 b_number_of := lockF_eq _
abbrev st_back_of : Stmt := topS 6
abbrev n_back_of : List Str := ["letter"]
abbrev p_back_of : List Str := ["letter"]
theorem sc_back_of : FnScope n_back_of p_back_of (defScope st_back_of) := ⟨rfl, rfl, rfl, by decide +kernel, rfl, by decide +kernel, by decide +kernel⟩
noncomputable def b_back_of : Rho → Fl :=
  (fRet (eIf (eBl (e2 qIn (eVar 0) (eC (.str [97, 98, 99, 100, 101, 102])))) (eMeth isStr (p1 fUpper) (eVar 0) eNil) (eMeth isStr (p1 fLower) (eVar 0) eNil)))
noncomputable def F_back_of : Fs := lockF (runF 1 b_back_of)
theorem F_back_of_eq : F_back_of = runF 1 b_back_of := lockF_eq _
abbrev st_turns : Stmt := topS 11
abbrev n_turns : List Str := ["word", "place"]
abbrev p_turns : List Str := ["word"]
theorem sc_turns : FnScope n_turns p_turns (defScope st_turns) := ⟨rfl, rfl, rfl, by decide +kernel, rfl, by decide +kernel, by decide +kernel⟩
noncomputable def ce_turns_1 : Rho → Rs Opd :=
  (e2 (p2 fAdd) (eSl (eVar 0) (some (eVar 1)) none) (eSl (eVar 0) none (some (eVar 1))))
noncomputable def b_turns : Rho → Fl :=
  (fRet (eLc (eCons (eCall qMax (eCons (eC (.int 1)) (eCons (e1 (p1 fLen) (eVar 0)) eNil))) eNil) mkR1 (gNm 1) eYes ce_turns_1 [1]))
noncomputable def F_turns : Fs := lockF (runF 2 b_turns)
theorem F_turns_eq : F_turns = runF 2 b_turns := lockF_eq _
abbrev st_plain : Stmt := topS 17
abbrev n_plain : List Str := ["many", "letter"]
abbrev p_plain : List Str := ["many"]
theorem sc_plain : FnScope n_plain p_plain (defScope st_plain) := ⟨rfl, rfl, rfl, by decide +kernel, rfl, by decide +kernel, by decide +kernel⟩
noncomputable def ce_plain_1 : Rho → Rs Opd :=
  (eVar 1)
noncomputable def b_plain : Rho → Fl :=
  (fRet (e1 (p1 fTupU) (eLc (eCons (eSl (eC (.str [97, 98, 99, 100, 101, 102])) none (some (eVar 0))) eNil) mkSeq (gNm 1) eYes ce_plain_1 [1])))
noncomputable def F_plain : Fs := lockF (runF 2 b_plain)
theorem F_plain_eq : F_plain = runF 2 b_plain := lockF_eq _
abbrev st__law_feed : Stmt := topS 31
abbrev n__law_feed : List Str := ["_law_script"]
abbrev p__law_feed : List Str := ["_law_script"]
theorem sc__law_feed : FnScope n__law_feed p__law_feed (defScope st__law_feed) := ⟨rfl, rfl, rfl, by decide +kernel, rfl, by decide +kernel, by decide +kernel⟩
noncomputable def b__law_feed : Rho → Fl :=
  (fRet (eDisp [((eC (.str [99, 101, 108, 108, 115])), (e2 (p2 fAdd) (e1 (p1 fListU) (eSl (eVar 0) none (some (eC (.int 63))))) (e2 qMul (eLst (eCons (eC (.int 0)) eNil)) (e1 (p1 fInt1) (e2 (p2 fEq) (e1 (p1 fLen) (eVar 0)) (eC (.int 0))))))), ((eC (.str [97, 116])), (eC (.int 0))), ((eC (.str [108, 101, 102, 116])), (eC (.int 0))), ((eC (.str [116, 117, 114, 110])), (eC (.int 0)))]))
noncomputable def F__law_feed : Fs := lockF (runF 1 b__law_feed)
theorem F__law_feed_eq : F__law_feed = runF 1 b__law_feed := lockF_eq _
abbrev st__law_draw : Stmt := topS 32
abbrev n__law_draw : List Str := ["_law_feed_here", "_law_many", "_law_cell", "_law_mixed", "_law_found"]
abbrev p__law_draw : List Str := ["_law_feed_here", "_law_many"]
theorem sc__law_draw : FnScope n__law_draw p__law_draw (defScope st__law_draw) := ⟨rfl, rfl, rfl, by decide +kernel, rfl, by decide +kernel, by decide +kernel⟩
noncomputable def b__law_draw : Rho → Fl :=
  (fSeq (fPut 0 mPut (e2 (p2 fAdd) (e2 qIx (eVar 0) (eC (.str [116, 117, 114, 110]))) (eC (.int 1))) (eC (.str [116, 117, 114, 110])))
  (fSeq (fIf (eBl (e2 (p2 fEq) (e2 qIx (eVar 0) (eC (.str [108, 101, 102, 116]))) (eC (.int 0)))) (fSeq (fSet 2 (e2 qIx (e2 qIx (eVar 0) (eC (.str [99, 101, 108, 108, 115]))) (e2 (p2 (fInts fModI)) (e2 qIx (eVar 0) (eC (.str [97, 116]))) (e1 (p1 fLen) (e2 qIx (eVar 0) (eC (.str [99, 101, 108, 108, 115])))))))
  (fSeq (fPut 0 mPut (e2 (p2 fAdd) (e2 qIx (eVar 0) (eC (.str [97, 116]))) (eC (.int 1))) (eC (.str [97, 116])))
  (fSeq (fIf (eBl (e2 qLt (eVar 2) (e2 (p2 (fInts fPowI)) (eC (.int 10)) (eC (.int 18))))) (fSeq (fSet 3 (e2 (p2 (fInts fModI)) (e2 qMul (e2 (p2 fAdd) (e2 (p2 (fInts fModI)) (eVar 2) (eC (.int 2147483629))) (e2 qMul (eC (.int 1013)) (e2 qIx (eVar 0) (eC (.str [116, 117, 114, 110]))))) (eC (.int 48271))) (eC (.int 2147483647))))
  (fSeq (fSet 3 (e2 (p2 (fInts fModI)) (e2 qMul (e2 (p2 fAdd) (e2 (p2 (fInts fDivI)) (eVar 3) (eC (.int 11))) (e2 qMul (eC (.int 41)) (e2 qIx (eVar 0) (eC (.str [116, 117, 114, 110]))))) (eC (.int 69621))) (eC (.int 2147483587))))
  (fRet (e2 (p2 (fInts fModI)) (e2 (p2 (fInts fDivI)) (eVar 3) (eC (.int 7))) (eVar 1)))))
  fNil)
  (fPut 0 mPut (eVar 2) (eC (.str [108, 101, 102, 116]))))))
  fNil)
  (fSeq (fSet 4 (e2 (p2 (fInts fModI)) (e2 qIx (eVar 0) (eC (.str [108, 101, 102, 116]))) (eVar 1)))
  (fSeq (fPut 0 mPut (e2 (p2 (fInts fDivI)) (e2 qIx (eVar 0) (eC (.str [108, 101, 102, 116]))) (eVar 1)) (eC (.str [108, 101, 102, 116])))
  (fRet (eVar 4))))))
noncomputable def F__law_draw : Fs := lockF (runF 5 b__law_draw)
theorem F__law_draw_eq : F__law_draw = runF 5 b__law_draw := lockF_eq _
abbrev st__law_back : Stmt := topS 33
abbrev n__law_back : List Str := ["_law_word", "_law_found", "_law_sign"]
abbrev p__law_back : List Str := ["_law_word"]
theorem sc__law_back : FnScope n__law_back p__law_back (defScope st__law_back) := ⟨rfl, rfl, rfl, by decide +kernel, rfl, by decide +kernel, by decide +kernel⟩
noncomputable def fb__law_back_1 : Rho → Fl :=
  (fSet 1 (e2 (p2 fAdd) (eIf (eBl (e2 qIn (eVar 2) (eC (.str [97, 98, 99, 100, 101, 102])))) (eMeth isStr (p1 fUpper) (eVar 2) eNil) (eMeth isStr (p1 fLower) (eVar 2) eNil)) (eVar 1)))
noncomputable def b__law_back : Rho → Fl :=
  (fSeq (fSet 1 (eC (.str [])))
  (fSeq (fFor (eCons (eVar 0) eNil) mkSeq (gNm 2) fb__law_back_1)
  (fRet (eVar 1))))
noncomputable def F__law_back : Fs := lockF (runF 3 b__law_back)
theorem F__law_back_eq : F__law_back = runF 3 b__law_back := lockF_eq _
abbrev st__law_least : Stmt := topS 36
abbrev n__law_least : List Str := ["_law_word", "_law_k"]
abbrev p__law_least : List Str := ["_law_word"]
theorem sc__law_least : FnScope n__law_least p__law_least (defScope st__law_least) := ⟨rfl, rfl, rfl, by decide +kernel, rfl, by decide +kernel, by decide +kernel⟩
noncomputable def ce__law_least_1 : Rho → Rs Opd :=
  (e2 (p2 fAdd) (eSl (eVar 0) (some (eVar 1)) none) (eSl (eVar 0) none (some (eVar 1))))
noncomputable def b__law_least : Rho → Fl :=
  (fRet (e1 (p1 fMin1) (eLc (eCons (e2 (p2 fAdd) (e1 (p1 fLen) (eVar 0)) (e1 (p1 fInt1) (e2 (p2 fEq) (eVar 0) (eC (.str []))))) eNil) mkR1 (gNm 1) eYes ce__law_least_1 [1])))
noncomputable def F__law_least : Fs := lockF (runF 2 b__law_least)
theorem F__law_least_eq : F__law_least = runF 2 b__law_least := lockF_eq _
abbrev st_back : Stmt := topS 7
abbrev n_back : List Str := ["word", "sign"]
abbrev p_back : List Str := ["word"]
theorem sc_back : FnScope n_back p_back (defScope st_back) := ⟨rfl, rfl, rfl, by decide +kernel, rfl, by decide +kernel, by decide +kernel⟩
noncomputable def ce_back_1 : Rho → Rs Opd :=
  (eFn F_back_of (eCons (eVar 1) eNil))
noncomputable def b_back : Rho → Fl :=
  (fRet (eMeth isStr (p2 fJoin) (eC (.str [])) (eCons (eLc (eCons (e1 qRev (eVar 0)) eNil) mkSeq (gNm 1) eYes ce_back_1 [1]) eNil)))
noncomputable def F_back : Fs := lockF (runF 2 b_back)
theorem F_back_eq : F_back = runF 2 b_back := lockF_eq _
abbrev st_reduced : Stmt := topS 8
abbrev n_reduced : List Str := ["word", "left", "sign"]
abbrev p_reduced : List Str := ["word"]
theorem sc_reduced : FnScope n_reduced p_reduced (defScope st_reduced) := ⟨rfl, rfl, rfl, by decide +kernel, rfl, by decide +kernel, by decide +kernel⟩
noncomputable def fb_reduced_1 : Rho → Fl :=
  (fIf (eAndT (eBl (e2 qGt (e1 (p1 fLen) (eVar 1)) (eC (.int 0)))) (eBl (e2 (p2 fEq) (e2 qIx (eVar 1) (e1 (p1 fNeg) (eC (.int 1)))) (eFn F_back_of (eCons (eVar 2) eNil))))) (fExpr (eMut isOL (mOf fPop0) 1 eNil))
  (fExpr (eMut isOL (mOf fApp) 1 (eCons (eVar 2) eNil))))
noncomputable def b_reduced : Rho → Fl :=
  (fSeq (fSet 1 (eLst eNil))
  (fSeq (fFor (eCons (eVar 0) eNil) mkSeq (gNm 2) fb_reduced_1)
  (fRet (eMeth isStr (p2 fJoin) (eC (.str [])) (eCons (eVar 1) eNil)))))
noncomputable def F_reduced : Fs := lockF (runF 3 b_reduced)
theorem F_reduced_eq : F_reduced = runF 3 b_reduced := lockF_eq _
abbrev st_least_turn : Stmt := topS 12
abbrev n_least_turn : List Str := ["word"]
abbrev p_least_turn : List Str := ["word"]
theorem sc_least_turn : FnScope n_least_turn p_least_turn (defScope st_least_turn) := ⟨rfl, rfl, rfl, by decide +kernel, rfl, by decide +kernel, by decide +kernel⟩
noncomputable def b_least_turn : Rho → Fl :=
  (fRet (e1 (p1 fMin1) (eFn F_turns (eCons (eVar 0) eNil))))
noncomputable def F_least_turn : Fs := lockF (runF 1 b_least_turn)
theorem F_least_turn_eq : F_least_turn = runF 1 b_least_turn := lockF_eq _
abbrev st_can_slide : Stmt := topS 20
abbrev n_can_slide : List Str := ["surface", "slide", "place", "side"]
abbrev p_can_slide : List Str := ["surface", "slide"]
theorem sc_can_slide : FnScope n_can_slide p_can_slide (defScope st_can_slide) := ⟨rfl, rfl, rfl, by decide +kernel, rfl, by decide +kernel, by decide +kernel⟩
noncomputable def b_can_slide : Rho → Fl :=
  (fSeq (fAsg (gTpU 2 (gsCons (gNm 2) (gsCons (gNm 3) gsNil))) (eVar 1))
  (fSeq (fIf (eNotT (eBl (eChain qLe qLt (eC (.int 0)) (eVar 2) (e1 (p1 fLen) (eVar 0))))) (fRet (eC (.bl false)))
  fNil)
  (fRet (e2 (p2 fNe) (e2 qIx (eVar 0) (e2 (p2 (fInts fModI)) (e2 (p2 fAdd) (eVar 2) (eVar 3)) (e1 (p1 fLen) (eVar 0)))) (eFn F_back_of (eCons (e2 qIx (eVar 0) (eVar 2)) eNil))))))
noncomputable def F_can_slide : Fs := lockF (runF 4 b_can_slide)
theorem F_can_slide_eq : F_can_slide = runF 4 b_can_slide := lockF_eq _
abbrev st__law_reduced : Stmt := topS 34
abbrev n__law_reduced : List Str := ["_law_word", "_law_found", "_law_sign"]
abbrev p__law_reduced : List Str := ["_law_word"]
theorem sc__law_reduced : FnScope n__law_reduced p__law_reduced (defScope st__law_reduced) := ⟨rfl, rfl, rfl, by decide +kernel, rfl, by decide +kernel, by decide +kernel⟩
noncomputable def fb__law_reduced_1 : Rho → Fl :=
  (fIf (eAndT (eBl (e2 (p2 fNe) (eVar 1) (eC (.str [])))) (eBl (e2 (p2 fEq) (eFn F__law_back (eCons (eVar 2) eNil)) (e2 qIx (eVar 1) (e2 (p2 (fInts fun i j => some (.fz (.int (i - j))))) (e1 (p1 fLen) (eVar 1)) (eC (.int 1))))))) (fSet 1 (eSl (eVar 1) none (some (e2 (p2 (fInts fun i j => some (.fz (.int (i - j))))) (e1 (p1 fLen) (eVar 1)) (eC (.int 1))))))
  (fSet 1 (e2 (p2 fAdd) (eVar 1) (eVar 2))))
noncomputable def b__law_reduced : Rho → Fl :=
  (fSeq (fSet 1 (eC (.str [])))
  (fSeq (fFor (eCons (eVar 0) eNil) mkSeq (gNm 2) fb__law_reduced_1)
  (fRet (eVar 1))))
noncomputable def F__law_reduced : Fs := lockF (runF 3 b__law_reduced)
theorem F__law_reduced_eq : F__law_reduced = runF 3 b__law_reduced := lockF_eq _
abbrev st__law_surface : Stmt := topS 37
abbrev n__law_surface : List Str := ["_law_feed_here", "_law_many", "_law_left", "_law_found", "_law_k"]
abbrev p__law_surface : List Str := ["_law_feed_here", "_law_many"]
theorem sc__law_surface : FnScope n__law_surface p__law_surface (defScope st__law_surface) := ⟨rfl, rfl, rfl, by decide +kernel, rfl, by decide +kernel, by decide +kernel⟩
noncomputable def fb__law_surface_1 : Rho → Fl :=
  (fSet 3 (e2 (p2 fAdd) (eVar 3) (eMut isOL (mOf fPopAt) 2 (eCons (eFn F__law_draw (eCons (eVar 0) (eCons (e1 (p1 fLen) (eVar 2)) eNil))) eNil))))
noncomputable def b__law_surface : Rho → Fl :=
  (fSeq (fSet 2 (e1 (p1 fListU) (e2 (p2 fAdd) (eSl (eC (.str [97, 98, 99, 100, 101, 102])) none (some (eVar 1))) (eSl (eC (.str [65, 66, 67, 68, 69, 70])) none (some (eVar 1))))))
  (fSeq (fSet 3 (eC (.str [])))
  (fSeq (fFor (eCons (e2 qMul (eC (.int 2)) (eVar 1)) eNil) mkR1 (gNm 4) fb__law_surface_1)
  (fRet (eVar 3)))))
noncomputable def F__law_surface : Fs := lockF (runF 5 b__law_surface)
theorem F__law_surface_eq : F__law_surface = runF 5 b__law_surface := lockF_eq _
abbrev st__law_slid : Stmt := topS 38
abbrev n__law_slid : List Str := ["_law_row", "_law_place", "_law_side", "_law_goal", "_law_found", "_law_sign"]
abbrev p__law_slid : List Str := ["_law_row", "_law_place", "_law_side"]
theorem sc__law_slid : FnScope n__law_slid p__law_slid (defScope st__law_slid) := ⟨rfl, rfl, rfl, by decide +kernel, rfl, by decide +kernel, by decide +kernel⟩
noncomputable def fb__law_slid_1 : Rho → Fl :=
  (fIf (eBl (e2 (p2 fEq) (eVar 5) (eVar 3))) (fSet 4 (e2 (p2 fAdd) (eVar 4) (e2 qIx (eLst (eCons (e2 (p2 fAdd) (e2 qIx (eVar 0) (eVar 1)) (eVar 5)) (eCons (e2 (p2 fAdd) (eVar 5) (e2 qIx (eVar 0) (eVar 1))) eNil))) (e1 (p1 fInt1) (e2 (p2 fEq) (eVar 2) (eC (.int 1)))))))
  (fIf (eBl (e2 (p2 fNe) (eVar 5) (e2 qIx (eVar 0) (eVar 1)))) (fSet 4 (e2 (p2 fAdd) (eVar 4) (eVar 5)))
  fNil))
noncomputable def b__law_slid : Rho → Fl :=
  (fSeq (fIf (eOrT (eNotT (eBl (eChain qLe qLt (eC (.int 0)) (eVar 1) (e1 (p1 fLen) (eVar 0))))) (eBl (e2 (p2 fEq) (e2 qIx (eVar 0) (e2 (p2 (fInts fModI)) (e2 (p2 fAdd) (eVar 1) (eVar 2)) (e1 (p1 fLen) (eVar 0)))) (eFn F__law_back (eCons (e2 qIx (eVar 0) (eVar 1)) eNil))))) (fRet (eC .non))
  fNil)
  (fSeq (fSet 3 (eFn F__law_back (eCons (e2 qIx (eVar 0) (e2 (p2 (fInts fModI)) (e2 (p2 fAdd) (eVar 1) (eVar 2)) (e1 (p1 fLen) (eVar 0)))) eNil)))
  (fSeq (fSet 4 (eC (.str [])))
  (fSeq (fFor (eCons (eVar 0) eNil) mkSeq (gNm 5) fb__law_slid_1)
  (fRet (eVar 4))))))
noncomputable def F__law_slid : Fs := lockF (runF 6 b__law_slid)
theorem F__law_slid_eq : F__law_slid = runF 6 b__law_slid := lockF_eq _
abbrev st__law_holes : Stmt := topS 40
abbrev n__law_holes : List Str := ["_law_row", "_law_met", "_law_found", "_law_gap", "_law_word", "_law_at", "_law_sign"]
abbrev p__law_holes : List Str := ["_law_row"]
theorem sc__law_holes : FnScope n__law_holes p__law_holes (defScope st__law_holes) := ⟨rfl, rfl, rfl, by decide +kernel, rfl, by decide +kernel, by decide +kernel⟩
noncomputable def wt__law_holes_1 : Rho → Rs Bool :=
  (eBl (e2 qNotIn (eVar 5) (eVar 1)))
noncomputable def wb__law_holes_1 : Rho → Fl :=
  (fSeq (fPut 1 mPut (eC (.bl true)) (eVar 5))
  (fSeq (fSet 6 (e2 qIx (eVar 0) (e2 (p2 (fInts fModI)) (e2 (p2 fAdd) (eVar 5) (eC (.int 1))) (e1 (p1 fLen) (eVar 0)))))
  (fSeq (fSet 4 (e2 (p2 fAdd) (eVar 4) (eVar 6)))
  (fSet 5 (eMeth isStr (p2 fFind) (eVar 0) (eCons (eFn F__law_back (eCons (eVar 6) eNil)) eNil))))))
noncomputable def fb__law_holes_2 : Rho → Fl :=
  (fSeq (fSet 4 (eC (.str [])))
  (fSeq (fSet 5 (eVar 3))
  (fSeq (fWhile wt__law_holes_1 wb__law_holes_1)
  (fIf (eBl (e2 (p2 fNe) (eVar 4) (eC (.str [])))) (fExpr (eMut isOL (mOf fApp) 2 (eCons (eVar 4) eNil)))
  fNil))))
noncomputable def b__law_holes : Rho → Fl :=
  (fSeq (fSet 1 eDic0)
  (fSeq (fSet 2 (eLst eNil))
  (fSeq (fFor (eCons (e1 (p1 fLen) (eVar 0)) eNil) mkR1 (gNm 3) fb__law_holes_2)
  (fRet (eVar 2)))))
noncomputable def F__law_holes : Fs := lockF (runF 7 b__law_holes)
theorem F__law_holes_eq : F__law_holes = runF 7 b__law_holes := lockF_eq _
abbrev st_core : Stmt := topS 10
abbrev n_core : List Str := ["word", "short", "at"]
abbrev p_core : List Str := ["word"]
theorem sc_core : FnScope n_core p_core (defScope st_core) := ⟨rfl, rfl, rfl, by decide +kernel, rfl, by decide +kernel, by decide +kernel⟩
noncomputable def wt_core_1 : Rho → Rs Bool :=
  (eAndT (eBl (e2 qGt (e2 (p2 (fInts fun i j => some (.fz (.int (i - j))))) (e1 (p1 fLen) (eVar 1)) (e2 qMul (eC (.int 2)) (eVar 2))) (eC (.int 1)))) (eBl (e2 (p2 fEq) (e2 qIx (eVar 1) (eVar 2)) (eFn F_back_of (eCons (e2 qIx (eVar 1) (e2 (p2 (fInts fun i j => some (.fz (.int (i - j))))) (e2 (p2 (fInts fun i j => some (.fz (.int (i - j))))) (e1 (p1 fLen) (eVar 1)) (eC (.int 1))) (eVar 2))) eNil)))))
noncomputable def wb_core_1 : Rho → Fl :=
  (fSet 2 (e2 (p2 fAdd) (eVar 2) (eC (.int 1))))
noncomputable def b_core : Rho → Fl :=
  (fSeq (fSet 1 (eFn F_reduced (eCons (eVar 0) eNil)))
  (fSeq (fSet 2 (eC (.int 0)))
  (fSeq (fWhile wt_core_1 wb_core_1)
  (fRet (eTup (eCons (eSl (eVar 1) none (some (eVar 2))) (eCons (eSl (eVar 1) (some (eVar 2)) (some (e2 (p2 (fInts fun i j => some (.fz (.int (i - j))))) (e1 (p1 fLen) (eVar 1)) (eVar 2)))) eNil)))))))
noncomputable def F_core : Fs := lockF (runF 3 b_core)
theorem F_core_eq : F_core = runF 3 b_core := lockF_eq _
abbrev st_became : Stmt := topS 14
abbrev n_became : List Str := ["change", "letter", "word"]
abbrev p_became : List Str := ["change", "letter"]
theorem sc_became : FnScope n_became p_became (defScope st_became) := ⟨rfl, rfl, rfl, by decide +kernel, rfl, by decide +kernel, by decide +kernel⟩
noncomputable def b_became : Rho → Fl :=
  (fSeq (fSet 2 (e2 qIx (eVar 0) (eFn F_number_of (eCons (eVar 1) eNil))))
  (fRet (eIf (eBl (e2 qIn (eVar 1) (eC (.str [97, 98, 99, 100, 101, 102])))) (eVar 2) (eFn F_back (eCons (eVar 2) eNil)))))
noncomputable def F_became : Fs := lockF (runF 3 b_became)
theorem F_became_eq : F_became = runF 3 b_became := lockF_eq _
abbrev st_ends_of : Stmt := topS 21
abbrev n_ends_of : List Str := ["surface", "slide", "number", "place", "side"]
abbrev p_ends_of : List Str := ["surface", "slide", "number"]
theorem sc_ends_of : FnScope n_ends_of p_ends_of (defScope st_ends_of) := ⟨rfl, rfl, rfl, by decide +kernel, rfl, by decide +kernel, by decide +kernel⟩
noncomputable def b_ends_of : Rho → Fl :=
  (fSeq (fIf (eNotT (eTru (eFn F_can_slide (eCons (eVar 0) (eCons (eVar 1) eNil))))) (fRaise "NoSlide" X_NoSlide (eCons (eVar 2) eNil))
  fNil)
  (fSeq (fAsg (gTpU 2 (gsCons (gNm 3) (gsCons (gNm 4) gsNil))) (eVar 1))
  (fRet (eTup (eCons (e2 qIx (eVar 0) (eVar 3)) (eCons (e2 qIx (eVar 0) (e2 (p2 (fInts fModI)) (e2 (p2 fAdd) (eVar 3) (eVar 4)) (e1 (p1 fLen) (eVar 0)))) eNil))))))
noncomputable def F_ends_of : Fs := lockF (runF 5 b_ends_of)
theorem F_ends_of_eq : F_ends_of = runF 5 b_ends_of := lockF_eq _
abbrev st_with_word : Stmt := topS 23
abbrev n_with_word : List Str := ["many", "letter", "word", "change"]
abbrev p_with_word : List Str := ["many", "letter", "word"]
theorem sc_with_word : FnScope n_with_word p_with_word (defScope st_with_word) := ⟨rfl, rfl, rfl, by decide +kernel, rfl, by decide +kernel, by decide +kernel⟩
noncomputable def b_with_word : Rho → Fl :=
  (fSeq (fSet 3 (e1 (p1 fListU) (eFn F_plain (eCons (eVar 0) eNil))))
  (fSeq (fPut 3 mPut (eIf (eBl (e2 qIn (eVar 1) (eC (.str [97, 98, 99, 100, 101, 102])))) (eVar 2) (eFn F_back (eCons (eVar 2) eNil))) (eFn F_number_of (eCons (eVar 1) eNil)))
  (fRet (e1 (p1 fTupU) (eVar 3)))))
noncomputable def F_with_word : Fs := lockF (runF 4 b_with_word)
theorem F_with_word_eq : F_with_word = runF 4 b_with_word := lockF_eq _
abbrev st_round_of : Stmt := topS 27
abbrev n_round_of : List Str := ["surface", "gap", "left", "word", "letter"]
abbrev p_round_of : List Str := ["surface", "gap", "left"]
theorem sc_round_of : FnScope n_round_of p_round_of (defScope st_round_of) := ⟨rfl, rfl, rfl, by decide +kernel, rfl, by decide +kernel, by decide +kernel⟩
noncomputable def wt_round_of_1 : Rho → Rs Bool :=
  (eTru (e2 qIx (eVar 2) (eVar 1)))
noncomputable def wb_round_of_1 : Rho → Fl :=
  (fSeq (fPut 2 mPut (eC (.bl false)) (eVar 1))
  (fSeq (fSet 4 (e2 qIx (eVar 0) (e2 (p2 (fInts fModI)) (e2 (p2 fAdd) (eVar 1) (eC (.int 1))) (e1 (p1 fLen) (eVar 0)))))
  (fSeq (fSet 3 (e2 (p2 fAdd) (eVar 3) (eVar 4)))
  (fSet 1 (eMeth isStr (p2 fSIndex) (eVar 0) (eCons (eFn F_back (eCons (eVar 4) eNil)) eNil))))))
noncomputable def b_round_of : Rho → Fl :=
  (fSeq (fSet 3 (eC (.str [])))
  (fSeq (fWhile wt_round_of_1 wb_round_of_1)
  (fRet (eVar 3))))
noncomputable def F_round_of : Fs := lockF (runF 5 b_round_of)
theorem F_round_of_eq : F_round_of = runF 5 b_round_of := lockF_eq _
abbrev st__law_middle : Stmt := topS 35
abbrev n__law_middle : List Str := ["_law_word", "_law_found"]
abbrev p__law_middle : List Str := ["_law_word"]
theorem sc__law_middle : FnScope n__law_middle p__law_middle (defScope st__law_middle) := ⟨rfl, rfl, rfl, by decide +kernel, rfl, by decide +kernel, by decide +kernel⟩
noncomputable def wt__law_middle_1 : Rho → Rs Bool :=
  (eAndT (eBl (e2 qGt (e1 (p1 fLen) (eVar 1)) (eC (.int 1)))) (eBl (e2 (p2 fEq) (e2 qIx (eVar 1) (eC (.int 0))) (eFn F__law_back (eCons (e2 qIx (eVar 1) (e2 (p2 (fInts fun i j => some (.fz (.int (i - j))))) (e1 (p1 fLen) (eVar 1)) (eC (.int 1)))) eNil)))))
noncomputable def wb__law_middle_1 : Rho → Fl :=
  (fSet 1 (eSl (eVar 1) (some (eC (.int 1))) (some (e2 (p2 (fInts fun i j => some (.fz (.int (i - j))))) (e1 (p1 fLen) (eVar 1)) (eC (.int 1))))))
noncomputable def b__law_middle : Rho → Fl :=
  (fSeq (fSet 1 (eFn F__law_reduced (eCons (eVar 0) eNil)))
  (fSeq (fWhile wt__law_middle_1 wb__law_middle_1)
  (fRet (eVar 1))))
noncomputable def F__law_middle : Fs := lockF (runF 2 b__law_middle)
theorem F__law_middle_eq : F__law_middle = runF 2 b__law_middle := lockF_eq _
abbrev st__law_slides : Stmt := topS 39
abbrev n__law_slides : List Str := ["_law_feed_here", "_law_row", "_law_most", "_law_slides_here", "_law_rows", "_law_k", "_law_place", "_law_side", "_law_after"]
abbrev p__law_slides : List Str := ["_law_feed_here", "_law_row", "_law_most"]
theorem sc__law_slides : FnScope n__law_slides p__law_slides (defScope st__law_slides) := ⟨rfl, rfl, rfl, by decide +kernel, rfl, by decide +kernel, by decide +kernel⟩
noncomputable def fb__law_slides_1 : Rho → Fl :=
  (fSeq (fSet 6 (eFn F__law_draw (eCons (eVar 0) (eCons (e1 (p1 fLen) (eVar 1)) eNil))))
  (fSeq (fSet 7 (e2 qIx (eLst (eCons (eC (.int 1)) (eCons (e1 (p1 fNeg) (eC (.int 1))) eNil))) (eFn F__law_draw (eCons (eVar 0) (eCons (eC (.int 2)) eNil)))))
  (fSeq (fSet 8 (eFn F__law_slid (eCons (e2 qIx (eVar 4) (e2 (p2 (fInts fun i j => some (.fz (.int (i - j))))) (e1 (p1 fLen) (eVar 4)) (eC (.int 1)))) (eCons (eVar 6) (eCons (eVar 7) eNil)))))
  (fIf (eBl (e2 (p2 fIsNot) (eVar 8) (eC .non))) (fSeq (fExpr (eMut isOL (mOf fApp) 3 (eCons (eTup (eCons (eVar 6) (eCons (eVar 7) eNil))) eNil)))
  (fExpr (eMut isOL (mOf fApp) 4 (eCons (eVar 8) eNil))))
  fNil))))
noncomputable def b__law_slides : Rho → Fl :=
  (fSeq (fSet 3 (eLst eNil))
  (fSeq (fSet 4 (eLst (eCons (eVar 1) eNil)))
  (fSeq (fFor (eCons (e2 qMul (eFn F__law_draw (eCons (eVar 0) (eCons (e2 (p2 fAdd) (eVar 2) (eC (.int 1))) eNil))) (e1 (p1 fInt1) (e2 qGt (e1 (p1 fLen) (eVar 1)) (eC (.int 2))))) eNil) mkR1 (gNm 5) fb__law_slides_1)
  (fRet (eTup (eCons (eVar 3) (eCons (eVar 4) eNil)))))))
noncomputable def F__law_slides : Fs := lockF (runF 9 b__law_slides)
theorem F__law_slides_eq : F__law_slides = runF 9 b__law_slides := lockF_eq _
abbrev st_mapped : Stmt := topS 15
abbrev n_mapped : List Str := ["change", "word", "sign"]
abbrev p_mapped : List Str := ["change", "word"]
theorem sc_mapped : FnScope n_mapped p_mapped (defScope st_mapped) := ⟨rfl, rfl, rfl, by decide +kernel, rfl, by decide +kernel, by decide +kernel⟩
noncomputable def ce_mapped_1 : Rho → Rs Opd :=
  (eFn F_became (eCons (eVar 0) (eCons (eVar 2) eNil)))
noncomputable def b_mapped : Rho → Fl :=
  (fRet (eFn F_reduced (eCons (eMeth isStr (p2 fJoin) (eC (.str [])) (eCons (eLc (eCons (eVar 1) eNil) mkSeq (gNm 2) eYes ce_mapped_1 [2]) eNil)) eNil)))
noncomputable def F_mapped : Fs := lockF (runF 3 b_mapped)
theorem F_mapped_eq : F_mapped = runF 3 b_mapped := lockF_eq _
abbrev st_slid : Stmt := topS 22
abbrev n_slid : List Str := ["surface", "slide", "end", "far", "left", "at"]
abbrev p_slid : List Str := ["surface", "slide"]
theorem sc_slid : FnScope n_slid p_slid (defScope st_slid) := ⟨rfl, rfl, rfl, by decide +kernel, rfl, by decide +kernel, by decide +kernel⟩
noncomputable def b_slid : Rho → Fl :=
  (fEnds 0 1 2 3 4 (eFn (endsF F_ends_of) (eCons (eVar 0) (eCons (eVar 1) (eCons (eC (.int 0)) eNil)))) (fSeq (fSet 5 (eMeth isStr (p2 fSIndex) (eVar 4) (eCons (eFn F_back_of (eCons (eVar 3) eNil)) eNil)))
  (fSeq (fIf (eBl (e2 (p2 fEq) (e2 qIx (eVar 1) (eC (.int 1))) (eC (.int 1)))) (fSet 5 (e2 (p2 fAdd) (eVar 5) (eC (.int 1))))
  fNil)
  (fRet (e2 (p2 fAdd) (e2 (p2 fAdd) (eSl (eVar 4) none (some (eVar 5))) (eVar 2)) (eSl (eVar 4) (some (eVar 5)) none))))))
noncomputable def F_slid : Fs := lockF (runF 6 b_slid)
theorem F_slid_eq : F_slid = runF 6 b_slid := lockF_eq _
abbrev st_maps_of : Stmt := topS 24
abbrev n_maps_of : List Str := ["surface", "slide", "end", "far", "many"]
abbrev p_maps_of : List Str := ["surface", "slide"]
theorem sc_maps_of : FnScope n_maps_of p_maps_of (defScope st_maps_of) := ⟨rfl, rfl, rfl, by decide +kernel, rfl, by decide +kernel, by decide +kernel⟩
noncomputable def b_maps_of : Rho → Fl :=
  (fSeq (fAsg (gTpU 2 (gsCons (gNm 2) (gsCons (gNm 3) gsNil))) (eFn F_ends_of (eCons (eVar 0) (eCons (eVar 1) (eCons (eC (.int 0)) eNil)))))
  (fSeq (fSet 4 (e2 (p2 (fInts fDivI)) (e1 (p1 fLen) (eVar 0)) (eC (.int 2))))
  (fRet (eTup (eCons (eFn F_with_word (eCons (eVar 4) (eCons (eVar 2) (eCons (e2 (p2 fAdd) (eVar 3) (eVar 2)) eNil)))) (eCons (eFn F_with_word (eCons (eVar 4) (eCons (eVar 2) (eCons (e2 (p2 fAdd) (eFn F_back_of (eCons (eVar 3) eNil)) (eVar 2)) eNil)))) eNil))))))
noncomputable def F_maps_of : Fs := lockF (runF 5 b_maps_of)
theorem F_maps_of_eq : F_maps_of = runF 5 b_maps_of := lockF_eq _
abbrev st_holes : Stmt := topS 28
abbrev n_holes : List Str := ["surface", "left", "found", "gap", "word", "end"]
abbrev p_holes : List Str := ["surface"]
theorem sc_holes : FnScope n_holes p_holes (defScope st_holes) := ⟨rfl, rfl, rfl, by decide +kernel, rfl, by decide +kernel, by decide +kernel⟩
noncomputable def fb_holes_1 : Rho → Fl :=
  (fSeq (fSet 4 (eFn F_round_of (eCons (eVar 0) (eCons (eVar 3) (eCons (eVar 1) eNil)))))
  (fIf (eBl (e2 (p2 fNe) (eVar 4) (eC (.str [])))) (fExpr (eMut isOL (mOf fApp) 2 (eCons (eVar 4) eNil)))
  fNil))
noncomputable def ce_holes_2 : Rho → Rs Opd :=
  (eC (.bl true))
noncomputable def b_holes : Rho → Fl :=
  (fSeq (fSet 1 (eLc (eCons (eVar 0) eNil) mkSeq (gNm 5) eYes ce_holes_2 [5]))
  (fSeq (fSet 2 (eLst eNil))
  (fSeq (fFor (eCons (e1 (p1 fLen) (eVar 0)) eNil) mkR1 (gNm 3) fb_holes_1)
  (fRet (eVar 2)))))
noncomputable def F_holes : Fs := lockF (runF 6 b_holes)
theorem F_holes_eq : F_holes = runF 6 b_holes := lockF_eq _
abbrev st_then : Stmt := topS 16
abbrev n_then : List Str := ["one", "other", "word"]
abbrev p_then : List Str := ["one", "other"]
theorem sc_then : FnScope n_then p_then (defScope st_then) := ⟨rfl, rfl, rfl, by decide +kernel, rfl, by decide +kernel, by decide +kernel⟩
noncomputable def ce_then_1 : Rho → Rs Opd :=
  (eFn F_mapped (eCons (eVar 1) (eCons (eVar 2) eNil)))
noncomputable def b_then : Rho → Fl :=
  (fRet (e1 (p1 fTupU) (eLc (eCons (eVar 0) eNil) mkSeq (gNm 2) eYes ce_then_1 [2])))
noncomputable def F_then : Fs := lockF (runF 3 b_then)
theorem F_then_eq : F_then = runF 3 b_then := lockF_eq _
abbrev st_way_by : Stmt := topS 18
abbrev n_way_by : List Str := ["change", "way"]
abbrev p_way_by : List Str := ["change", "way"]
theorem sc_way_by : FnScope n_way_by p_way_by (defScope st_way_by) := ⟨rfl, rfl, rfl, by decide +kernel, rfl, by decide +kernel, by decide +kernel⟩
noncomputable def b_way_by : Rho → Fl :=
  (fRet (eFn F_least_turn (eCons (e2 qIx (eFn F_core (eCons (eFn F_mapped (eCons (eVar 0) (eCons (eVar 1) eNil))) eNil)) (eC (.int 1))) eNil)))
noncomputable def F_way_by : Fs := lockF (runF 2 b_way_by)
theorem F_way_by_eq : F_way_by = runF 2 b_way_by := lockF_eq _
abbrev st_handles : Stmt := topS 29
abbrev n_handles : List Str := ["surface"]
abbrev p_handles : List Str := ["surface"]
theorem sc_handles : FnScope n_handles p_handles (defScope st_handles) := ⟨rfl, rfl, rfl, by decide +kernel, rfl, by decide +kernel, by decide +kernel⟩
noncomputable def b_handles : Rho → Fl :=
  (fRet (e2 (p2 (fInts fDivI)) (e2 (p2 (fInts fun i j => some (.fz (.int (i - j))))) (e2 (p2 fAdd) (eC (.int 1)) (e2 (p2 (fInts fDivI)) (e1 (p1 fLen) (eVar 0)) (eC (.int 2)))) (e1 (p1 fLen) (eFn F_holes (eCons (eVar 0) eNil)))) (eC (.int 2))))
noncomputable def F_handles : Fs := lockF (runF 1 b_handles)
theorem F_handles_eq : F_handles = runF 1 b_handles := lockF_eq _
abbrev st_told_by : Stmt := topS 25
abbrev n_told_by : List Str := ["surface", "slides", "now", "over", "home", "number", "slide", "there", "back_again"]
abbrev p_told_by : List Str := ["surface", "slides"]
theorem sc_told_by : FnScope n_told_by p_told_by (defScope st_told_by) := ⟨rfl, rfl, rfl, by decide +kernel, rfl, by decide +kernel, by decide +kernel⟩
noncomputable def fb_told_by_1 : Rho → Fl :=
  (fSeq (fExpr (eFn F_ends_of (eCons (eVar 2) (eCons (eVar 6) (eCons (eVar 5) eNil)))))
  (fSeq (fAsg (gTpU 2 (gsCons (gNm 7) (gsCons (gNm 8) gsNil))) (eFn F_maps_of (eCons (eVar 2) (eCons (eVar 6) eNil))))
  (fSeq (fSet 3 (eFn F_then (eCons (eVar 3) (eCons (eVar 7) eNil))))
  (fSeq (fSet 4 (eFn F_then (eCons (eVar 8) (eCons (eVar 4) eNil))))
  (fSet 2 (eFn F_slid (eCons (eVar 2) (eCons (eVar 6) eNil))))))))
noncomputable def b_told_by : Rho → Fl :=
  (fSeq (fSet 2 (eVar 0))
  (fSeq (fSet 3 (eFn F_plain (eCons (e2 (p2 (fInts fDivI)) (e1 (p1 fLen) (eVar 0)) (eC (.int 2))) eNil)))
  (fSeq (fSet 4 (eVar 3))
  (fSeq (fFor (eCons (eVar 1) eNil) mkEnumU (gTp 2 (gsCons (gNm 5) (gsCons (gNm 6) gsNil))) fb_told_by_1)
  (fRet (eTup (eCons (eVar 2) (eCons (eVar 3) (eCons (eVar 4) eNil)))))))))
noncomputable def F_told_by : Fs := lockF (runF 9 b_told_by)
theorem F_told_by_eq : F_told_by = runF 9 b_told_by := lockF_eq _
abbrev st__law_right : Stmt := topS 41
abbrev n__law_right : List Str := ["_law_row", "_law_slides_here", "_law_goal", "_law_over", "_law_home", "_law_here", "_law_there", "_law_gone", "_law_back_again", "_law_word"]
abbrev p__law_right : List Str := ["_law_row", "_law_slides_here"]
theorem sc__law_right : FnScope n__law_right p__law_right (defScope st__law_right) := ⟨rfl, rfl, rfl, by decide +kernel, rfl, by decide +kernel, by decide +kernel⟩
noncomputable def ct__law_right_1 : Rho → Rs Bool :=
  (eBl (e2 (p2 fNe) (eFn F_mapped (eCons (eVar 4) (eCons (eFn F_mapped (eCons (eVar 3) (eCons (eVar 9) eNil))) eNil))) (eVar 9)))
noncomputable def ce__law_right_1 : Rho → Rs Opd :=
  (eVar 9)
noncomputable def ce__law_right_2 : Rho → Rs Opd :=
  (eFn F__law_least (eCons (eVar 9) eNil))
noncomputable def ce__law_right_3 : Rho → Rs Opd :=
  (eFn F_way_by (eCons (eVar 4) (eCons (eVar 9) eNil)))
noncomputable def ce__law_right_4 : Rho → Rs Opd :=
  (eFn F__law_least (eCons (eFn F__law_middle (eCons (eFn F_mapped (eCons (eVar 3) (eCons (eVar 9) eNil))) eNil)) eNil))
noncomputable def ce__law_right_5 : Rho → Rs Opd :=
  (eFn F__law_least (eCons (eVar 9) eNil))
noncomputable def b__law_right : Rho → Fl :=
  (fSeq (fAsg (gTpU 3 (gsCons (gNm 2) (gsCons (gNm 3) (gsCons (gNm 4) gsNil)))) (eFn F_told_by (eCons (eVar 0) (eCons (e1 (p1 fTupU) (eVar 1)) eNil))))
  (fSeq (fSet 5 (eFn F_holes (eCons (eVar 0) eNil)))
  (fSeq (fSet 6 (eLc (eCons (eFn F_holes (eCons (eVar 2) eNil)) eNil) mkSeq (gNm 9) eYes ce__law_right_5 [9]))
  (fSeq (fIf (eOrT (eBl (e2 (p2 fNe) (eVar 5) (eFn F__law_holes (eCons (eVar 0) eNil)))) (eOrT (eBl (e2 (p2 fNe) (e1 (p1 fLen) (eVar 6)) (e1 (p1 fLen) (eVar 5)))) (eBl (e2 (p2 fNe) (eFn F_handles (eCons (eVar 2) eNil)) (eFn F_handles (eCons (eVar 0) eNil)))))) (fRet (eC (.bl false)))
  fNil)
  (fSeq (fSet 7 (eLc (eCons (eVar 5) eNil) mkSeq (gNm 9) eYes ce__law_right_4 [9]))
  (fSeq (fIf (eOrT (eBl (e2 (p2 fNe) (e1 (p1 fSrt) (eVar 7)) (e1 (p1 fSrt) (eVar 6)))) (eBl (e2 (p2 fNe) (e1 (p1 fLenSet) (eVar 7)) (e1 (p1 fLen) (eVar 7))))) (fRet (eC (.bl false)))
  fNil)
  (fSeq (fSet 8 (e1 (p1 fSrt) (eLc (eCons (eFn F_holes (eCons (eVar 2) eNil)) eNil) mkSeq (gNm 9) eYes ce__law_right_3 [9])))
  (fSeq (fIf (eBl (e2 (p2 fNe) (eVar 8) (e1 (p1 fSrt) (eLc (eCons (eVar 5) eNil) mkSeq (gNm 9) eYes ce__law_right_2 [9])))) (fRet (eC (.bl false)))
  fNil)
  (fRet (e2 (p2 fEq) (eLc (eCons (eVar 5) eNil) mkSeq (gNm 9) ct__law_right_1 ce__law_right_1 [9]) (eLst eNil)))))))))))
noncomputable def F__law_right : Fs := lockF (runF 10 b__law_right)
theorem F__law_right_eq : F__law_right = runF 10 b__law_right := lockF_eq _
abbrev st_law : Stmt := topS 42
abbrev n_law : List Str := ["_law_script", "_law_feed_here", "_law_k", "_law_row"]
abbrev p_law : List Str := ["_law_script"]
theorem sc_law : FnScope n_law p_law (defScope st_law) := ⟨rfl, rfl, rfl, by decide +kernel, rfl, by decide +kernel, by decide +kernel⟩
noncomputable def fb_law_1 : Rho → Fl :=
  (fSeq (fSet 3 (eFn F__law_surface (eCons (eVar 1) (eCons (e2 (p2 fAdd) (eC (.int 2)) (eFn F__law_draw (eCons (eVar 1) (eCons (eC (.int 5)) eNil)))) eNil))))
  (fIf (eNotT (eTru (eFn F__law_right (eCons (eVar 3) (eCons (e2 qIx (eFn F__law_slides (eCons (eVar 1) (eCons (eVar 3) (eCons (eC (.int 8)) eNil)))) (eC (.int 0))) eNil))))) (fRet (eC (.bl false)))
  fNil))
noncomputable def b_law : Rho → Fl :=
  (fSeq (fSet 1 (eFn F__law_feed (eCons (eVar 0) eNil)))
  (fSeq (fFor (eCons (eC (.int 4)) eNil) mkR1 (gNm 2) fb_law_1)
  (fRet (eC (.bl true)))))
noncomputable def F_law : Fs := lockF (runF 4 b_law)
theorem F_law_eq : F_law = runF 4 b_law := lockF_eq _
structure Top (K : PySem.W.Frag) (mg : Str → Option Value) : Prop where
  d_number_of : DefAt K mg "number_of" p_number_of st_number_of
  d_back_of : DefAt K mg "back_of" p_back_of st_back_of
  d_turns : DefAt K mg "turns" p_turns st_turns
  d_plain : DefAt K mg "plain" p_plain st_plain
  d__law_feed : DefAt K mg "_law_feed" p__law_feed st__law_feed
  d__law_draw : DefAt K mg "_law_draw" p__law_draw st__law_draw
  d__law_back : DefAt K mg "_law_back" p__law_back st__law_back
  d__law_least : DefAt K mg "_law_least" p__law_least st__law_least
  d_back : DefAt K mg "back" p_back st_back
  d_reduced : DefAt K mg "reduced" p_reduced st_reduced
  d_least_turn : DefAt K mg "least_turn" p_least_turn st_least_turn
  d_can_slide : DefAt K mg "can_slide" p_can_slide st_can_slide
  d__law_reduced : DefAt K mg "_law_reduced" p__law_reduced st__law_reduced
  d__law_surface : DefAt K mg "_law_surface" p__law_surface st__law_surface
  d__law_slid : DefAt K mg "_law_slid" p__law_slid st__law_slid
  d__law_holes : DefAt K mg "_law_holes" p__law_holes st__law_holes
  d_core : DefAt K mg "core" p_core st_core
  d_became : DefAt K mg "became" p_became st_became
  d_ends_of : DefAt K mg "ends_of" p_ends_of st_ends_of
  d_with_word : DefAt K mg "with_word" p_with_word st_with_word
  d_round_of : DefAt K mg "round_of" p_round_of st_round_of
  d__law_middle : DefAt K mg "_law_middle" p__law_middle st__law_middle
  d__law_slides : DefAt K mg "_law_slides" p__law_slides st__law_slides
  d_mapped : DefAt K mg "mapped" p_mapped st_mapped
  d_slid : DefAt K mg "slid" p_slid st_slid
  d_maps_of : DefAt K mg "maps_of" p_maps_of st_maps_of
  d_holes : DefAt K mg "holes" p_holes st_holes
  d_then : DefAt K mg "then" p_then st_then
  d_way_by : DefAt K mg "way_by" p_way_by st_way_by
  d_handles : DefAt K mg "handles" p_handles st_handles
  d_told_by : DefAt K mg "told_by" p_told_by st_told_by
  d__law_right : DefAt K mg "_law_right" p__law_right st__law_right
  x_NoSlide : XAt K mg "NoSlide" ["place"] "NoSlide.__init__" st_NoSlide
  b_RingError : BaseC K mg "RingError"
  z_enumerate : mg "enumerate" = none
  z_int : mg "int" = none
  z_len : mg "len" = none
  z_list : mg "list" = none
  z_max : mg "max" = none
  z_min : mg "min" = none
  z_range : mg "range" = none
  z_set : mg "set" = none
  z_sorted : mg "sorted" = none
  z_str : mg "str" = none
  z_tuple : mg "tuple" = none
  c_SMALL : ∃ u, mg "SMALL" = some u ∧ RelV (.str "abcdef") u
section
variable {P : Program} {w : World} {K : PySem.W.Frag} {mg : Str → Option Value} {base : Heap}
theorem x_NoSlide (T : Top K mg) : XCls P w K mg base "NoSlide" ["place"] m_NoSlide :=
  xcls_of T.x_NoSlide sc_NoSlide (by decide) (by decide) fun fI cdv A l t H E => (pss_cons (ps_expr (pe_ownInit T.b_RingError (pa_cons (pv 0) (pa_cons (x_add (x_str [110, 111, 32, 115, 108, 105, 100, 101, 32, 97, 116, 32]) (x_str1 T.z_str (x_var 1))) pa_nil)))) (pss_cons (ps_ost (pv 0) (pv 1)) pss_nil))
theorem ok_number_of (T : Top K mg) : DefOk P w K mg base 1 "number_of" p_number_of F_number_of :=
  F_number_of_eq ▸ def_at T.d_number_of sc_number_of fun f cdv A l t H E room gu => ((gs_one (gs_ret (x_sindex (x_gstr [97, 98, 99, 100, 101, 102] T.c_SMALL) (x_lower (x_var 0)) ⟨rfl, rfl, rfl, rfl, rfl⟩))))
theorem ok_back_of (T : Top K mg) : DefOk P w K mg base 1 "back_of" p_back_of F_back_of :=
  F_back_of_eq ▸ def_at T.d_back_of sc_back_of fun f cdv A l t H E room gu => ((gs_one (gs_ret (ge_if (t_in (hu64 room) (x_var 0) (x_gstr [97, 98, 99, 100, 101, 102] T.c_SMALL)) (x_upper (x_var 0)) (x_lower (x_var 0))))))
theorem ok_turns (T : Top K mg) : DefOk P w K mg base 1 "turns" p_turns F_turns :=
  F_turns_eq ▸ def_at T.d_turns sc_turns fun f cdv A l t H E room gu => ((gs_one (gs_ret (ge_lc (own := [("place", 1)]) rfl sc_turns.nd (gi_range1 rfl T.z_range (ga_cons (x_max rfl T.z_max (ga_cons x_int (ga_cons (x_len T.z_len (x_var 0)) ga_nil))) ga_nil)) (blkOk_by (N := n_turns) (sc := defScope st_turns) (own := [("place", 1)]) (by decide +kernel)) (by decide) (fun _ _ _ _ _ => (gg_name (i := 1) sc_turns.nd rfl (by first | exact Or.inl rfl | exact Or.inr rfl))) (fun _ _ _ _ _ => gts_nil) (fun _ _ _ _ _ => (x_add (x_sl (x_var 0) (gp_some (x_var 1)) gp_none) (x_sl (x_var 0) gp_none (gp_some (x_var 1)))))))))
theorem ok_plain (T : Top K mg) : DefOk P w K mg base 1 "plain" p_plain F_plain :=
  F_plain_eq ▸ def_at T.d_plain sc_plain fun f cdv A l t H E room gu => ((gs_one (gs_ret (x_tupU rfl T.z_tuple (ge_lc (own := [("letter", 1)]) rfl sc_plain.nd (gi_seq (x_sl (x_gstr [97, 98, 99, 100, 101, 102] T.c_SMALL) gp_none (gp_some (x_var 0)))) (blkOk_by (N := n_plain) (sc := defScope st_plain) (own := [("letter", 1)]) (by decide +kernel)) (by decide) (fun _ _ _ _ _ => (gg_name (i := 1) sc_plain.nd rfl (by first | exact Or.inl rfl | exact Or.inr rfl))) (fun _ _ _ _ _ => gts_nil) (fun _ _ _ _ _ => (x_var 1)))))))
theorem ok__law_feed (T : Top K mg) : DefOk P w K mg base 1 "_law_feed" p__law_feed F__law_feed :=
  F__law_feed_eq ▸ def_at T.d__law_feed sc__law_feed fun f cdv A l t H E room gu => ((gs_one (gs_ret (ge_disp (l := [((eC (.str [99, 101, 108, 108, 115])), (e2 (p2 fAdd) (e1 (p1 fListU) (eSl (eVar 0) none (some (eC (.int 63))))) (e2 qMul (eLst (eCons (eC (.int 0)) eNil)) (e1 (p1 fInt1) (e2 (p2 fEq) (e1 (p1 fLen) (eVar 0)) (eC (.int 0))))))), ((eC (.str [97, 116])), (eC (.int 0))), ((eC (.str [108, 101, 102, 116])), (eC (.int 0))), ((eC (.str [116, 117, 114, 110])), (eC (.int 0)))]) (pps_cons (x_str [99, 101, 108, 108, 115]) (x_add (x_listU rfl T.z_list (x_sl (x_var 0) gp_none (gp_some x_int))) (x_mulA (x_lst (ga_cons x_int ga_nil)) (x_int1 T.z_int (x_eq (hu64 room) (x_len T.z_len (x_var 0)) x_int)))) (pps_cons (x_str [97, 116]) x_int (pps_cons (x_str [108, 101, 102, 116]) x_int (pps_cons (x_str [116, 117, 114, 110]) x_int pps_nil)))) rfl rfl (fun z => nomatch z) (by decide)))))
theorem ok__law_draw (T : Top K mg) : DefOk P w K mg base 1 "_law_draw" p__law_draw F__law_draw :=
  F__law_draw_eq ▸ def_at T.d__law_draw sc__law_draw fun f cdv A l t H E room gu => ((gs_cons (gs_sub (i := 0) (hu1 room) rfl (by first | exact Or.inl rfl | exact Or.inr (Or.inl rfl) | exact Or.inr (Or.inr rfl)) (x_add (x_ix (hu64 room) (x_var 0) (x_str [116, 117, 114, 110])) x_int) (x_str [116, 117, 114, 110]))
  (gs_cons (gs_if (t_eq (hu64 room) (x_ix (hu64 room) (x_var 0) (x_str [108, 101, 102, 116])) x_int) (gs_cons (gs_set (i := 2) sc__law_draw.nd rfl (by first | exact Or.inl rfl | exact Or.inr rfl) (x_ix (hu64 room) (x_ix (hu64 room) (x_var 0) (x_str [99, 101, 108, 108, 115])) (x_mod (x_ix (hu64 room) (x_var 0) (x_str [97, 116])) (x_len T.z_len (x_ix (hu64 room) (x_var 0) (x_str [99, 101, 108, 108, 115]))))))
  (gs_cons (gs_sub (i := 0) (hu1 room) rfl (by first | exact Or.inl rfl | exact Or.inr (Or.inl rfl) | exact Or.inr (Or.inr rfl)) (x_add (x_ix (hu64 room) (x_var 0) (x_str [97, 116])) x_int) (x_str [97, 116]))
  (gs_cons (gs_if (t_lt (x_var 2) (x_pow x_int x_int)) (gs_cons (gs_set (i := 3) sc__law_draw.nd rfl (by first | exact Or.inl rfl | exact Or.inr rfl) (x_mod (x_mulA (x_add (x_mod (x_var 2) x_int) (x_mulA x_int (x_ix (hu64 room) (x_var 0) (x_str [116, 117, 114, 110])))) x_int) x_int))
  (gs_cons (gs_set (i := 3) sc__law_draw.nd rfl (by first | exact Or.inl rfl | exact Or.inr rfl) (x_mod (x_mulA (x_add (x_div (x_var 3) x_int) (x_mulA x_int (x_ix (hu64 room) (x_var 0) (x_str [116, 117, 114, 110])))) x_int) x_int))
  (gs_one (gs_ret (x_mod (x_div (x_var 3) x_int) (x_var 1))))))
  gs_nil)
  (gs_one (gs_sub (i := 0) (hu1 room) rfl (by first | exact Or.inl rfl | exact Or.inr (Or.inl rfl) | exact Or.inr (Or.inr rfl)) (x_var 2) (x_str [108, 101, 102, 116]))))))
  gs_nil)
  (gs_cons (gs_set (i := 4) sc__law_draw.nd rfl (by first | exact Or.inl rfl | exact Or.inr rfl) (x_mod (x_ix (hu64 room) (x_var 0) (x_str [108, 101, 102, 116])) (x_var 1)))
  (gs_cons (gs_sub (i := 0) (hu1 room) rfl (by first | exact Or.inl rfl | exact Or.inr (Or.inl rfl) | exact Or.inr (Or.inr rfl)) (x_div (x_ix (hu64 room) (x_var 0) (x_str [108, 101, 102, 116])) (x_var 1)) (x_str [108, 101, 102, 116]))
  (gs_one (gs_ret (x_var 4))))))))
theorem ok__law_back (T : Top K mg) : DefOk P w K mg base 1 "_law_back" p__law_back F__law_back :=
  F__law_back_eq ▸ def_at T.d__law_back sc__law_back fun f cdv A l t H E room gu => ((gs_cons (gs_set (i := 1) sc__law_back.nd rfl (by first | exact Or.inl rfl | exact Or.inr rfl) (x_str []))
  (gs_cons (gs_for psB rfl (gi_seq (x_var 0)) (gg_name (i := 2) sc__law_back.nd rfl (by first | exact Or.inl rfl | exact Or.inr rfl))
  (gs_one (gs_set (i := 1) sc__law_back.nd rfl (by first | exact Or.inl rfl | exact Or.inr rfl) (x_add (ge_if (t_in (hu64 room) (x_var 2) (x_str [97, 98, 99, 100, 101, 102])) (x_upper (x_var 2)) (x_lower (x_var 2))) (x_var 1)))))
  (gs_one (gs_ret (x_var 1))))))
theorem ok__law_least (T : Top K mg) : DefOk P w K mg base 1 "_law_least" p__law_least F__law_least :=
  F__law_least_eq ▸ def_at T.d__law_least sc__law_least fun f cdv A l t H E room gu => ((gs_one (gs_ret (x_min1 room rfl T.z_min (ge_lc (own := [("_law_k", 1)]) rfl sc__law_least.nd (gi_range1 rfl T.z_range (ga_cons (x_add (x_len T.z_len (x_var 0)) (x_int1 T.z_int (x_eq (hu64 room) (x_var 0) (x_str [])))) ga_nil)) (blkOk_by (N := n__law_least) (sc := defScope st__law_least) (own := [("_law_k", 1)]) (by decide +kernel)) (by decide) (fun _ _ _ _ _ => (gg_name (i := 1) sc__law_least.nd rfl (by first | exact Or.inl rfl | exact Or.inr rfl))) (fun _ _ _ _ _ => gts_nil) (fun _ _ _ _ _ => (x_add (x_sl (x_var 0) (gp_some (x_var 1)) gp_none) (x_sl (x_var 0) gp_none (gp_some (x_var 1))))))))))
theorem ok_back (T : Top K mg) (c_back_of : DefOk P w K mg base 1 "back_of" p_back_of F_back_of) : DefOk P w K mg base 2 "back" p_back F_back :=
  F_back_eq ▸ def_at T.d_back sc_back fun f cdv A l t H E room gu => ((gs_one (gs_ret (x_join (x_str []) (ge_lc (own := [("sign", 1)]) rfl sc_back.nd (gi_seq (x_rev (x_var 0))) (blkOk_by (N := n_back) (sc := defScope st_back) (own := [("sign", 1)]) (by decide +kernel)) (by decide) (fun _ _ _ _ _ => (gg_name (i := 1) sc_back.nd rfl (by first | exact Or.inl rfl | exact Or.inr rfl))) (fun _ _ _ _ _ => gts_nil) (fun _ _ _ _ _ => (x_fn c_back_of room (by decide) gu tkQ (ga_cons (x_var 1) ga_nil) (ar_cons ar_nil)))) ⟨rfl, rfl, rfl, rfl, rfl⟩))))
theorem ok_reduced (T : Top K mg) (c_back_of : DefOk P w K mg base 1 "back_of" p_back_of F_back_of) : DefOk P w K mg base 2 "reduced" p_reduced F_reduced :=
  F_reduced_eq ▸ def_at T.d_reduced sc_reduced fun f cdv A l t H E room gu => ((gs_cons (gs_set (i := 1) sc_reduced.nd rfl (by first | exact Or.inl rfl | exact Or.inr rfl) (x_lst ga_nil))
  (gs_cons (gs_for psB rfl (gi_seq (x_var 0)) (gg_name (i := 2) sc_reduced.nd rfl (by first | exact Or.inl rfl | exact Or.inr rfl))
  (gs_one (gs_if (gt_w (gw_and (t_gt (x_len T.z_len (x_var 1)) x_int) (gw_and1 (t_eq (hu64 room) (x_ix (hu64 room) (x_var 1) (x_neg x_int)) (x_fn c_back_of room (by decide) gu tkB (ga_cons (x_var 2) ga_nil) (ar_cons ar_nil)))))) (gs_one (gs_expr (x_pop (i := 1) rfl (by first | exact Or.inl rfl | exact Or.inr (Or.inl rfl) | exact Or.inr (Or.inr rfl)))))
  (gs_one (gs_expr (x_append (i := 1) rfl (by first | exact Or.inl rfl | exact Or.inr (Or.inl rfl) | exact Or.inr (Or.inr rfl)) (x_var 2) ⟨rfl, rfl, rfl, rfl, rfl⟩))))))
  (gs_one (gs_ret (x_join (x_str []) (x_var 1) ⟨rfl, rfl, rfl, rfl, rfl⟩))))))
theorem ok_least_turn (T : Top K mg) (c_turns : DefOk P w K mg base 1 "turns" p_turns F_turns) : DefOk P w K mg base 2 "least_turn" p_least_turn F_least_turn :=
  F_least_turn_eq ▸ def_at T.d_least_turn sc_least_turn fun f cdv A l t H E room gu => ((gs_one (gs_ret (x_min1 room rfl T.z_min (x_fn c_turns room (by decide) gu tkB (ga_cons (x_var 0) ga_nil) (ar_cons ar_nil))))))
theorem ok_can_slide (T : Top K mg) (c_back_of : DefOk P w K mg base 1 "back_of" p_back_of F_back_of) : DefOk P w K mg base 2 "can_slide" p_can_slide F_can_slide :=
  F_can_slide_eq ▸ def_at T.d_can_slide sc_can_slide fun f cdv A l t H E room gu => ((gs_cons (gs_asg (x_var 1) (gg_tupU rfl (ggs_cons (gg_name (i := 2) sc_can_slide.nd rfl (by first | exact Or.inl rfl | exact Or.inr rfl)) (ggs_cons (gg_name (i := 3) sc_can_slide.nd rfl (by first | exact Or.inl rfl | exact Or.inr rfl)) ggs_nil))))
  (gs_cons (gs_if (gt_not (gt_chain op_le op_lt (pn_cmpI fun i j => decide (i ≤ j)) (pn_cmpI fun i j => decide (i < j)) x_int (x_var 2) (x_len T.z_len (x_var 0)))) (gs_one (gs_ret x_bl))
  gs_nil)
  (gs_one (gs_ret (x_ne (hu64 room) (x_ix (hu64 room) (x_var 0) (x_mod (x_add (x_var 2) (x_var 3)) (x_len T.z_len (x_var 0)))) (x_fn c_back_of room (by decide) gu tkB (ga_cons (x_ix (hu64 room) (x_var 0) (x_var 2)) ga_nil) (ar_cons ar_nil))))))))
theorem ok__law_reduced (T : Top K mg) (c__law_back : DefOk P w K mg base 1 "_law_back" p__law_back F__law_back) : DefOk P w K mg base 2 "_law_reduced" p__law_reduced F__law_reduced :=
  F__law_reduced_eq ▸ def_at T.d__law_reduced sc__law_reduced fun f cdv A l t H E room gu => ((gs_cons (gs_set (i := 1) sc__law_reduced.nd rfl (by first | exact Or.inl rfl | exact Or.inr rfl) (x_str []))
  (gs_cons (gs_for psB rfl (gi_seq (x_var 0)) (gg_name (i := 2) sc__law_reduced.nd rfl (by first | exact Or.inl rfl | exact Or.inr rfl))
  (gs_one (gs_if (gt_w (gw_and (t_ne (hu64 room) (x_var 1) (x_str [])) (gw_and1 (t_eq (hu64 room) (x_fn c__law_back room (by decide) gu tkB (ga_cons (x_var 2) ga_nil) (ar_cons ar_nil)) (x_ix (hu64 room) (x_var 1) (x_sub (x_len T.z_len (x_var 1)) x_int)))))) (gs_one (gs_set (i := 1) sc__law_reduced.nd rfl (by first | exact Or.inl rfl | exact Or.inr rfl) (x_sl (x_var 1) gp_none (gp_some (x_sub (x_len T.z_len (x_var 1)) x_int)))))
  (gs_one (gs_set (i := 1) sc__law_reduced.nd rfl (by first | exact Or.inl rfl | exact Or.inr rfl) (x_add (x_var 1) (x_var 2)))))))
  (gs_one (gs_ret (x_var 1))))))
theorem ok__law_surface (T : Top K mg) (c__law_draw : DefOk P w K mg base 1 "_law_draw" p__law_draw F__law_draw) : DefOk P w K mg base 2 "_law_surface" p__law_surface F__law_surface :=
  F__law_surface_eq ▸ def_at T.d__law_surface sc__law_surface fun f cdv A l t H E room gu => ((gs_cons (gs_set (i := 2) sc__law_surface.nd rfl (by first | exact Or.inl rfl | exact Or.inr rfl) (x_listU rfl T.z_list (x_add (x_sl (x_str [97, 98, 99, 100, 101, 102]) gp_none (gp_some (x_var 1))) (x_sl (x_str [65, 66, 67, 68, 69, 70]) gp_none (gp_some (x_var 1))))))
  (gs_cons (gs_set (i := 3) sc__law_surface.nd rfl (by first | exact Or.inl rfl | exact Or.inr rfl) (x_str []))
  (gs_cons (gs_for psB rfl (gi_range1 rfl T.z_range (ga_cons (x_mulA x_int (x_var 1)) ga_nil)) (gg_name (i := 4) sc__law_surface.nd rfl (by first | exact Or.inl rfl | exact Or.inr rfl))
  (gs_one (gs_set (i := 3) sc__law_surface.nd rfl (by first | exact Or.inl rfl | exact Or.inr rfl) (x_add (x_var 3) (x_popAt (i := 2) rfl (by first | exact Or.inl rfl | exact Or.inr (Or.inl rfl) | exact Or.inr (Or.inr rfl)) (x_fn c__law_draw room (by decide) gu tkB (ga_cons (x_var 0) (ga_cons (x_len T.z_len (x_var 2)) ga_nil)) (ar_cons (ar_cons ar_nil))) ⟨rfl, rfl, rfl, rfl, rfl⟩)))))
  (gs_one (gs_ret (x_var 3)))))))
theorem ok__law_slid (T : Top K mg) (c__law_back : DefOk P w K mg base 1 "_law_back" p__law_back F__law_back) : DefOk P w K mg base 2 "_law_slid" p__law_slid F__law_slid :=
  F__law_slid_eq ▸ def_at T.d__law_slid sc__law_slid fun f cdv A l t H E room gu => ((gs_cons (gs_if (gt_w (gw_or (gt_not (gt_chain op_le op_lt (pn_cmpI fun i j => decide (i ≤ j)) (pn_cmpI fun i j => decide (i < j)) x_int (x_var 1) (x_len T.z_len (x_var 0)))) (gw_or1 (t_eq (hu64 room) (x_ix (hu64 room) (x_var 0) (x_mod (x_add (x_var 1) (x_var 2)) (x_len T.z_len (x_var 0)))) (x_fn c__law_back room (by decide) gu tkB (ga_cons (x_ix (hu64 room) (x_var 0) (x_var 1)) ga_nil) (ar_cons ar_nil)))))) (gs_one (gs_ret x_non))
  gs_nil)
  (gs_cons (gs_set (i := 3) sc__law_slid.nd rfl (by first | exact Or.inl rfl | exact Or.inr rfl) (x_fn c__law_back room (by decide) gu tkB (ga_cons (x_ix (hu64 room) (x_var 0) (x_mod (x_add (x_var 1) (x_var 2)) (x_len T.z_len (x_var 0)))) ga_nil) (ar_cons ar_nil)))
  (gs_cons (gs_set (i := 4) sc__law_slid.nd rfl (by first | exact Or.inl rfl | exact Or.inr rfl) (x_str []))
  (gs_cons (gs_for psB rfl (gi_seq (x_var 0)) (gg_name (i := 5) sc__law_slid.nd rfl (by first | exact Or.inl rfl | exact Or.inr rfl))
  (gs_one (gs_if (t_eq (hu64 room) (x_var 5) (x_var 3)) (gs_one (gs_set (i := 4) sc__law_slid.nd rfl (by first | exact Or.inl rfl | exact Or.inr rfl) (x_add (x_var 4) (x_ix (hu64 room) (x_lst (ga_cons (x_add (x_ix (hu64 room) (x_var 0) (x_var 1)) (x_var 5)) (ga_cons (x_add (x_var 5) (x_ix (hu64 room) (x_var 0) (x_var 1))) ga_nil))) (x_int1 T.z_int (x_eq (hu64 room) (x_var 2) x_int))))))
  (gs_one (gs_if (t_ne (hu64 room) (x_var 5) (x_ix (hu64 room) (x_var 0) (x_var 1))) (gs_one (gs_set (i := 4) sc__law_slid.nd rfl (by first | exact Or.inl rfl | exact Or.inr rfl) (x_add (x_var 4) (x_var 5))))
  gs_nil)))))
  (gs_one (gs_ret (x_var 4))))))))
theorem ok__law_holes (T : Top K mg) (c__law_back : DefOk P w K mg base 1 "_law_back" p__law_back F__law_back) : DefOk P w K mg base 2 "_law_holes" p__law_holes F__law_holes :=
  F__law_holes_eq ▸ def_at T.d__law_holes sc__law_holes fun f cdv A l t H E room gu => ((gs_cons (gs_set (i := 1) sc__law_holes.nd rfl (by first | exact Or.inl rfl | exact Or.inr rfl) ge_dic0)
  (gs_cons (gs_set (i := 2) sc__law_holes.nd rfl (by first | exact Or.inl rfl | exact Or.inr rfl) (x_lst ga_nil))
  (gs_cons (gs_for psB rfl (gi_range1 rfl T.z_range (ga_cons (x_len T.z_len (x_var 0)) ga_nil)) (gg_name (i := 3) sc__law_holes.nd rfl (by first | exact Or.inl rfl | exact Or.inr rfl))
  (gs_cons (gs_set (i := 4) sc__law_holes.nd rfl (by first | exact Or.inl rfl | exact Or.inr rfl) (x_str []))
  (gs_cons (gs_set (i := 5) sc__law_holes.nd rfl (by first | exact Or.inl rfl | exact Or.inr rfl) (x_var 3))
  (gs_cons (gs_while psB (t_notIn (hu64 room) (x_var 5) (x_var 1))
  (gs_cons (gs_sub (i := 1) (hu1 room) rfl (by first | exact Or.inl rfl | exact Or.inr (Or.inl rfl) | exact Or.inr (Or.inr rfl)) x_bl (x_var 5))
  (gs_cons (gs_set (i := 6) sc__law_holes.nd rfl (by first | exact Or.inl rfl | exact Or.inr rfl) (x_ix (hu64 room) (x_var 0) (x_mod (x_add (x_var 5) x_int) (x_len T.z_len (x_var 0)))))
  (gs_cons (gs_set (i := 4) sc__law_holes.nd rfl (by first | exact Or.inl rfl | exact Or.inr rfl) (x_add (x_var 4) (x_var 6)))
  (gs_one (gs_set (i := 5) sc__law_holes.nd rfl (by first | exact Or.inl rfl | exact Or.inr rfl) (x_find (x_var 0) (x_fn c__law_back room (by decide) gu tkB (ga_cons (x_var 6) ga_nil) (ar_cons ar_nil)) ⟨rfl, rfl, rfl, rfl, rfl⟩)))))))
  (gs_one (gs_if (t_ne (hu64 room) (x_var 4) (x_str [])) (gs_one (gs_expr (x_append (i := 2) rfl (by first | exact Or.inl rfl | exact Or.inr (Or.inl rfl) | exact Or.inr (Or.inr rfl)) (x_var 4) ⟨rfl, rfl, rfl, rfl, rfl⟩)))
  gs_nil))))))
  (gs_one (gs_ret (x_var 2)))))))
theorem ok_core (T : Top K mg) (c_back_of : DefOk P w K mg base 1 "back_of" p_back_of F_back_of) (c_reduced : DefOk P w K mg base 2 "reduced" p_reduced F_reduced) : DefOk P w K mg base 3 "core" p_core F_core :=
  F_core_eq ▸ def_at T.d_core sc_core fun f cdv A l t H E room gu => ((gs_cons (gs_set (i := 1) sc_core.nd rfl (by first | exact Or.inl rfl | exact Or.inr rfl) (x_fn c_reduced room (by decide) gu tkB (ga_cons (x_var 0) ga_nil) (ar_cons ar_nil)))
  (gs_cons (gs_set (i := 2) sc_core.nd rfl (by first | exact Or.inl rfl | exact Or.inr rfl) x_int)
  (gs_cons (gs_while psB (gt_w (gw_and (t_gt (x_sub (x_len T.z_len (x_var 1)) (x_mulA x_int (x_var 2))) x_int) (gw_and1 (t_eq (hu64 room) (x_ix (hu64 room) (x_var 1) (x_var 2)) (x_fn c_back_of room (by decide) gu tkB (ga_cons (x_ix (hu64 room) (x_var 1) (x_sub (x_sub (x_len T.z_len (x_var 1)) x_int) (x_var 2))) ga_nil) (ar_cons ar_nil))))))
  (gs_one (gs_set (i := 2) sc_core.nd rfl (by first | exact Or.inl rfl | exact Or.inr rfl) (x_add (x_var 2) x_int))))
  (gs_one (gs_ret (x_tup (ga_cons (x_sl (x_var 1) gp_none (gp_some (x_var 2))) (ga_cons (x_sl (x_var 1) (gp_some (x_var 2)) (gp_some (x_sub (x_len T.z_len (x_var 1)) (x_var 2)))) ga_nil)))))))))
theorem ok_became (T : Top K mg) (c_back : DefOk P w K mg base 2 "back" p_back F_back) (c_number_of : DefOk P w K mg base 1 "number_of" p_number_of F_number_of) : DefOk P w K mg base 3 "became" p_became F_became :=
  F_became_eq ▸ def_at T.d_became sc_became fun f cdv A l t H E room gu => ((gs_cons (gs_set (i := 2) sc_became.nd rfl (by first | exact Or.inl rfl | exact Or.inr rfl) (x_ix (hu64 room) (x_var 0) (x_fn c_number_of room (by decide) gu tkB (ga_cons (x_var 1) ga_nil) (ar_cons ar_nil))))
  (gs_one (gs_ret (ge_if (t_in (hu64 room) (x_var 1) (x_gstr [97, 98, 99, 100, 101, 102] T.c_SMALL)) (x_var 2) (x_fn c_back room (by decide) gu tkB (ga_cons (x_var 2) ga_nil) (ar_cons ar_nil)))))))
theorem ok_ends_of (T : Top K mg) (c_can_slide : DefOk P w K mg base 2 "can_slide" p_can_slide F_can_slide) : DefOk P w K mg base 3 "ends_of" p_ends_of F_ends_of :=
  F_ends_of_eq ▸ def_at T.d_ends_of sc_ends_of fun f cdv A l t H E room gu => (have x_NoSlide := x_NoSlide (P := P) (w := w) (base := base) T; (gs_cons (gs_if (gt_not (gt_tru (x_fn c_can_slide room (by decide) gu tkB (ga_cons (x_var 0) (ga_cons (x_var 1) ga_nil)) (ar_cons (ar_cons ar_nil))))) (gs_one (gs_raise x_NoSlide rfl room (by decide) tkB (ga_cons (x_var 2) ga_nil)))
  gs_nil)
  (gs_cons (gs_asg (x_var 1) (gg_tupU rfl (ggs_cons (gg_name (i := 3) sc_ends_of.nd rfl (by first | exact Or.inl rfl | exact Or.inr rfl)) (ggs_cons (gg_name (i := 4) sc_ends_of.nd rfl (by first | exact Or.inl rfl | exact Or.inr rfl)) ggs_nil))))
  (gs_one (gs_ret (x_tup (ga_cons (x_ix (hu64 room) (x_var 0) (x_var 3)) (ga_cons (x_ix (hu64 room) (x_var 0) (x_mod (x_add (x_var 3) (x_var 4)) (x_len T.z_len (x_var 0)))) ga_nil))))))))
theorem tk_ends_of (T : Top K mg) (c_can_slide : DefOk P w K mg base 2 "can_slide" p_can_slide F_can_slide) : DefTk P w K mg base 3 "ends_of" p_ends_of (endsF F_ends_of) := by
  rw [F_ends_of_eq]
  exact def_atT (N := n_ends_of) (st := st_ends_of) (Fc := F_can_slide) (nm := "NoSlide") (mk := X_NoSlide) T.d_ends_of sc_ends_of rfl rfl (fun f cdv A l t H E room gu => (have x_NoSlide := x_NoSlide (P := P) (w := w) (base := base) T; (gs_cons (gs_if (gt_not (gt_tru (x_fn c_can_slide room (by decide) gu tkB (ga_cons (x_var 0) (ga_cons (x_var 1) ga_nil)) (ar_cons (ar_cons ar_nil))))) (gs_one (gs_raise x_NoSlide rfl room (by decide) tkB (ga_cons (x_var 2) ga_nil)))
  gs_nil)
  (gs_cons (gs_asg (x_var 1) (gg_tupU rfl (ggs_cons (gg_name (i := 3) sc_ends_of.nd rfl (by first | exact Or.inl rfl | exact Or.inr rfl)) (ggs_cons (gg_name (i := 4) sc_ends_of.nd rfl (by first | exact Or.inl rfl | exact Or.inr rfl)) ggs_nil))))
  (gs_one (gs_ret (x_tup (ga_cons (x_ix (hu64 room) (x_var 0) (x_var 3)) (ga_cons (x_ix (hu64 room) (x_var 0) (x_mod (x_add (x_var 3) (x_var 4)) (x_len T.z_len (x_var 0)))) ga_nil)))))))))
    (fun f cdv A l t H E room gu => (have x_NoSlide := x_NoSlide (P := P) (w := w) (base := base) T; (gs_if (gt_not (gt_tru (x_fn c_can_slide room (by decide) gu tkB (ga_cons (x_var 0) (ga_cons (x_var 1) ga_nil)) (ar_cons (ar_cons ar_nil))))) (gs_one (gs_raise x_NoSlide rfl room (by decide) tkB (ga_cons (x_var 2) ga_nil)))
  gs_nil)))
    (fun f cdv A l t H E room gu => (have x_NoSlide := x_NoSlide (P := P) (w := w) (base := base) T; (gs_asg (x_var 1) (gg_tupU rfl (ggs_cons (gg_name (i := 3) sc_ends_of.nd rfl (by first | exact Or.inl rfl | exact Or.inr rfl)) (ggs_cons (gg_name (i := 4) sc_ends_of.nd rfl (by first | exact Or.inl rfl | exact Or.inr rfl)) ggs_nil))))))
    (fun f cdv A l t H E room gu => (have x_NoSlide := x_NoSlide (P := P) (w := w) (base := base) T; (x_var 0)))
    (fun f cdv A l t H E room gu => (have x_NoSlide := x_NoSlide (P := P) (w := w) (base := base) T; (x_var 3)))
    (fun f cdv A l t H E room gu => (have x_NoSlide := x_NoSlide (P := P) (w := w) (base := base) T; (x_var 0)))
    (fun f cdv A l t H E room gu => (have x_NoSlide := x_NoSlide (P := P) (w := w) (base := base) T; (x_mod (x_add (x_var 3) (x_var 4)) (x_len T.z_len (x_var 0)))))
    (fun f cdv A l t H E room gu => (have x_NoSlide := x_NoSlide (P := P) (w := w) (base := base) T; (x_ix (hu64 room) (x_var 0) (x_var 3)))) (by intro _ _; rfl) (by intro _ _; rfl)
theorem ok_with_word (T : Top K mg) (c_back : DefOk P w K mg base 2 "back" p_back F_back) (c_number_of : DefOk P w K mg base 1 "number_of" p_number_of F_number_of) (c_plain : DefOk P w K mg base 1 "plain" p_plain F_plain) : DefOk P w K mg base 3 "with_word" p_with_word F_with_word :=
  F_with_word_eq ▸ def_at T.d_with_word sc_with_word fun f cdv A l t H E room gu => ((gs_cons (gs_set (i := 3) sc_with_word.nd rfl (by first | exact Or.inl rfl | exact Or.inr rfl) (x_listU rfl T.z_list (x_fn c_plain room (by decide) gu tkB (ga_cons (x_var 0) ga_nil) (ar_cons ar_nil))))
  (gs_cons (gs_sub (i := 3) (hu1 room) rfl (by first | exact Or.inl rfl | exact Or.inr (Or.inl rfl) | exact Or.inr (Or.inr rfl)) (ge_if (t_in (hu64 room) (x_var 1) (x_gstr [97, 98, 99, 100, 101, 102] T.c_SMALL)) (x_var 2) (x_fn c_back room (by decide) gu tkB (ga_cons (x_var 2) ga_nil) (ar_cons ar_nil))) (x_fn c_number_of room (by decide) gu tkB (ga_cons (x_var 1) ga_nil) (ar_cons ar_nil)))
  (gs_one (gs_ret (x_tupU rfl T.z_tuple (x_var 3)))))))
theorem ok_round_of (T : Top K mg) (c_back : DefOk P w K mg base 2 "back" p_back F_back) : DefOk P w K mg base 3 "round_of" p_round_of F_round_of :=
  F_round_of_eq ▸ def_at T.d_round_of sc_round_of fun f cdv A l t H E room gu => ((gs_cons (gs_set (i := 3) sc_round_of.nd rfl (by first | exact Or.inl rfl | exact Or.inr rfl) (x_str []))
  (gs_cons (gs_while psB (gt_tru (x_ix (hu64 room) (x_var 2) (x_var 1)))
  (gs_cons (gs_sub (i := 2) (hu1 room) rfl (by first | exact Or.inl rfl | exact Or.inr (Or.inl rfl) | exact Or.inr (Or.inr rfl)) x_bl (x_var 1))
  (gs_cons (gs_set (i := 4) sc_round_of.nd rfl (by first | exact Or.inl rfl | exact Or.inr rfl) (x_ix (hu64 room) (x_var 0) (x_mod (x_add (x_var 1) x_int) (x_len T.z_len (x_var 0)))))
  (gs_cons (gs_set (i := 3) sc_round_of.nd rfl (by first | exact Or.inl rfl | exact Or.inr rfl) (x_add (x_var 3) (x_var 4)))
  (gs_one (gs_set (i := 1) sc_round_of.nd rfl (by first | exact Or.inl rfl | exact Or.inr rfl) (x_sindex (x_var 0) (x_fn c_back room (by decide) gu tkB (ga_cons (x_var 4) ga_nil) (ar_cons ar_nil)) ⟨rfl, rfl, rfl, rfl, rfl⟩)))))))
  (gs_one (gs_ret (x_var 3))))))
theorem ok__law_middle (T : Top K mg) (c__law_back : DefOk P w K mg base 1 "_law_back" p__law_back F__law_back) (c__law_reduced : DefOk P w K mg base 2 "_law_reduced" p__law_reduced F__law_reduced) : DefOk P w K mg base 3 "_law_middle" p__law_middle F__law_middle :=
  F__law_middle_eq ▸ def_at T.d__law_middle sc__law_middle fun f cdv A l t H E room gu => ((gs_cons (gs_set (i := 1) sc__law_middle.nd rfl (by first | exact Or.inl rfl | exact Or.inr rfl) (x_fn c__law_reduced room (by decide) gu tkB (ga_cons (x_var 0) ga_nil) (ar_cons ar_nil)))
  (gs_cons (gs_while psB (gt_w (gw_and (t_gt (x_len T.z_len (x_var 1)) x_int) (gw_and1 (t_eq (hu64 room) (x_ix (hu64 room) (x_var 1) x_int) (x_fn c__law_back room (by decide) gu tkB (ga_cons (x_ix (hu64 room) (x_var 1) (x_sub (x_len T.z_len (x_var 1)) x_int)) ga_nil) (ar_cons ar_nil))))))
  (gs_one (gs_set (i := 1) sc__law_middle.nd rfl (by first | exact Or.inl rfl | exact Or.inr rfl) (x_sl (x_var 1) (gp_some x_int) (gp_some (x_sub (x_len T.z_len (x_var 1)) x_int))))))
  (gs_one (gs_ret (x_var 1))))))
theorem ok__law_slides (T : Top K mg) (c__law_draw : DefOk P w K mg base 1 "_law_draw" p__law_draw F__law_draw) (c__law_slid : DefOk P w K mg base 2 "_law_slid" p__law_slid F__law_slid) : DefOk P w K mg base 3 "_law_slides" p__law_slides F__law_slides :=
  F__law_slides_eq ▸ def_at T.d__law_slides sc__law_slides fun f cdv A l t H E room gu => ((gs_cons (gs_set (i := 3) sc__law_slides.nd rfl (by first | exact Or.inl rfl | exact Or.inr rfl) (x_lst ga_nil))
  (gs_cons (gs_set (i := 4) sc__law_slides.nd rfl (by first | exact Or.inl rfl | exact Or.inr rfl) (x_lst (ga_cons (x_var 1) ga_nil)))
  (gs_cons (gs_for psB rfl (gi_range1 rfl T.z_range (ga_cons (x_mulA (x_fn c__law_draw room (by decide) gu tkB (ga_cons (x_var 0) (ga_cons (x_add (x_var 2) x_int) ga_nil)) (ar_cons (ar_cons ar_nil))) (x_int1 T.z_int (x_gt (x_len T.z_len (x_var 1)) x_int))) ga_nil)) (gg_name (i := 5) sc__law_slides.nd rfl (by first | exact Or.inl rfl | exact Or.inr rfl))
  (gs_cons (gs_set (i := 6) sc__law_slides.nd rfl (by first | exact Or.inl rfl | exact Or.inr rfl) (x_fn c__law_draw room (by decide) gu tkB (ga_cons (x_var 0) (ga_cons (x_len T.z_len (x_var 1)) ga_nil)) (ar_cons (ar_cons ar_nil))))
  (gs_cons (gs_set (i := 7) sc__law_slides.nd rfl (by first | exact Or.inl rfl | exact Or.inr rfl) (x_ix (hu64 room) (x_lst (ga_cons x_int (ga_cons (x_neg x_int) ga_nil))) (x_fn c__law_draw room (by decide) gu tkB (ga_cons (x_var 0) (ga_cons x_int ga_nil)) (ar_cons (ar_cons ar_nil)))))
  (gs_cons (gs_set (i := 8) sc__law_slides.nd rfl (by first | exact Or.inl rfl | exact Or.inr rfl) (x_fn c__law_slid room (by decide) gu tkB (ga_cons (x_ix (hu64 room) (x_var 4) (x_sub (x_len T.z_len (x_var 4)) x_int)) (ga_cons (x_var 6) (ga_cons (x_var 7) ga_nil))) (ar_cons (ar_cons (ar_cons ar_nil)))))
  (gs_one (gs_if (t_isNot (x_var 8) x_non) (gs_cons (gs_expr (x_append (i := 3) rfl (by first | exact Or.inl rfl | exact Or.inr (Or.inl rfl) | exact Or.inr (Or.inr rfl)) (x_tup (ga_cons (x_var 6) (ga_cons (x_var 7) ga_nil))) ⟨rfl, rfl, rfl, rfl, rfl⟩))
  (gs_one (gs_expr (x_append (i := 4) rfl (by first | exact Or.inl rfl | exact Or.inr (Or.inl rfl) | exact Or.inr (Or.inr rfl)) (x_var 8) ⟨rfl, rfl, rfl, rfl, rfl⟩))))
  gs_nil))))))
  (gs_one (gs_ret (x_tup (ga_cons (x_var 3) (ga_cons (x_var 4) ga_nil)))))))))
theorem ok_mapped (T : Top K mg) (c_reduced : DefOk P w K mg base 2 "reduced" p_reduced F_reduced) (c_became : DefOk P w K mg base 3 "became" p_became F_became) : DefOk P w K mg base 4 "mapped" p_mapped F_mapped :=
  F_mapped_eq ▸ def_at T.d_mapped sc_mapped fun f cdv A l t H E room gu => ((gs_one (gs_ret (x_fn c_reduced room (by decide) gu tkB (ga_cons (x_join (x_str []) (ge_lc (own := [("sign", 2)]) rfl sc_mapped.nd (gi_seq (x_var 1)) (blkOk_by (N := n_mapped) (sc := defScope st_mapped) (own := [("sign", 2)]) (by decide +kernel)) (by decide) (fun _ _ _ _ _ => (gg_name (i := 2) sc_mapped.nd rfl (by first | exact Or.inl rfl | exact Or.inr rfl))) (fun _ _ _ _ _ => gts_nil) (fun _ _ _ _ _ => (x_fn c_became room (by decide) gu tkQ (ga_cons (x_var 0) (ga_cons (x_var 2) ga_nil)) (ar_cons (ar_cons ar_nil))))) ⟨rfl, rfl, rfl, rfl, rfl⟩) ga_nil) (ar_cons ar_nil)))))
theorem ok_slid (T : Top K mg) (ct_ends_of : DefTk P w K mg base 3 "ends_of" p_ends_of (endsF F_ends_of)) (c_back_of : DefOk P w K mg base 1 "back_of" p_back_of F_back_of) : DefOk P w K mg base 4 "slid" p_slid F_slid :=
  F_slid_eq ▸ def_at T.d_slid sc_slid fun f cdv A l t H E room gu => ((gs_ends (i := 0) (i2 := 1) (j1 := 2) (j2 := 3) (m := 4) ct_ends_of room (by decide) gu tkB (ga_cons (x_var 0) (ga_cons (x_var 1) (ga_cons x_int ga_nil))) (ar_cons (ar_cons (ar_cons ar_nil))) (x_var 0) (x_var 1) (x_fn ct_ends_of.ok room (by decide) gu tkB (ga_cons (x_var 0) (ga_cons (x_var 1) (ga_cons x_int ga_nil))) (ar_cons (ar_cons (ar_cons ar_nil)))) (gs_asg (x_fn ct_ends_of.ok room (by decide) gu tkB (ga_cons (x_var 0) (ga_cons (x_var 1) (ga_cons x_int ga_nil))) (ar_cons (ar_cons (ar_cons ar_nil)))) (gg_tup rfl (ggs_cons (gg_name (i := 2) sc_slid.nd rfl (by first | exact Or.inl rfl | exact Or.inr rfl)) (ggs_cons (gg_name (i := 3) sc_slid.nd rfl (by first | exact Or.inl rfl | exact Or.inr rfl)) ggs_nil)))) (gs_cons (gs_set (i := 5) sc_slid.nd rfl (by first | exact Or.inl rfl | exact Or.inr rfl) (x_sindex (x_var 4) (x_fn c_back_of room (by decide) gu tkB (ga_cons (x_var 3) ga_nil) (ar_cons ar_nil)) ⟨rfl, rfl, rfl, rfl, rfl⟩))
  (gs_cons (gs_if (t_eq (hu64 room) (x_ix (hu64 room) (x_var 1) x_int) x_int) (gs_one (gs_set (i := 5) sc_slid.nd rfl (by first | exact Or.inl rfl | exact Or.inr rfl) (x_add (x_var 5) x_int)))
  gs_nil)
  (gs_one (gs_ret (x_add (x_add (x_sl (x_var 4) gp_none (gp_some (x_var 5))) (x_var 2)) (x_sl (x_var 4) (gp_some (x_var 5)) gp_none)))))) rfl sc_slid.nd rfl (by first | exact Or.inl rfl | exact Or.inr (Or.inl rfl) | exact Or.inr (Or.inr rfl)) rfl rfl rfl rfl rfl rfl (by decide) (by decide) (by decide)))
theorem ok_maps_of (T : Top K mg) (c_with_word : DefOk P w K mg base 3 "with_word" p_with_word F_with_word) (c_back_of : DefOk P w K mg base 1 "back_of" p_back_of F_back_of) (c_ends_of : DefOk P w K mg base 3 "ends_of" p_ends_of F_ends_of) : DefOk P w K mg base 4 "maps_of" p_maps_of F_maps_of :=
  F_maps_of_eq ▸ def_at T.d_maps_of sc_maps_of fun f cdv A l t H E room gu => ((gs_cons (gs_asg (x_fn c_ends_of room (by decide) gu tkB (ga_cons (x_var 0) (ga_cons (x_var 1) (ga_cons x_int ga_nil))) (ar_cons (ar_cons (ar_cons ar_nil)))) (gg_tupU rfl (ggs_cons (gg_name (i := 2) sc_maps_of.nd rfl (by first | exact Or.inl rfl | exact Or.inr rfl)) (ggs_cons (gg_name (i := 3) sc_maps_of.nd rfl (by first | exact Or.inl rfl | exact Or.inr rfl)) ggs_nil))))
  (gs_cons (gs_set (i := 4) sc_maps_of.nd rfl (by first | exact Or.inl rfl | exact Or.inr rfl) (x_div (x_len T.z_len (x_var 0)) x_int))
  (gs_one (gs_ret (x_tup (ga_cons (x_fn c_with_word room (by decide) gu tkB (ga_cons (x_var 4) (ga_cons (x_var 2) (ga_cons (x_add (x_var 3) (x_var 2)) ga_nil))) (ar_cons (ar_cons (ar_cons ar_nil)))) (ga_cons (x_fn c_with_word room (by decide) gu tkB (ga_cons (x_var 4) (ga_cons (x_var 2) (ga_cons (x_add (x_fn c_back_of room (by decide) gu tkB (ga_cons (x_var 3) ga_nil) (ar_cons ar_nil)) (x_var 2)) ga_nil))) (ar_cons (ar_cons (ar_cons ar_nil)))) ga_nil))))))))
theorem ok_holes (T : Top K mg) (c_round_of : DefOk P w K mg base 3 "round_of" p_round_of F_round_of) : DefOk P w K mg base 4 "holes" p_holes F_holes :=
  F_holes_eq ▸ def_at T.d_holes sc_holes fun f cdv A l t H E room gu => ((gs_cons (gs_setLc (i := 1) (own := [("end", 5)]) rfl sc_holes.nd rfl rfl (sw_true rfl rfl rfl (by decide +kernel)) (gi_seq (x_var 0)) (blkOk_by (N := n_holes) (sc := defScope st_holes) (own := [("end", 5)]) (by decide +kernel)) (by decide) (fun _ _ _ _ _ => (gg_name (i := 5) sc_holes.nd rfl (by first | exact Or.inl rfl | exact Or.inr rfl))) (fun _ _ _ _ _ => gts_nil) (fun _ _ _ _ _ => x_bl))
  (gs_cons (gs_set (i := 2) sc_holes.nd rfl (by first | exact Or.inl rfl | exact Or.inr rfl) (x_lst ga_nil))
  (gs_cons (gs_for psB rfl (gi_range1 rfl T.z_range (ga_cons (x_len T.z_len (x_var 0)) ga_nil)) (gg_name (i := 3) sc_holes.nd rfl (by first | exact Or.inl rfl | exact Or.inr rfl))
  (gs_cons (gs_set (i := 4) sc_holes.nd rfl (by first | exact Or.inl rfl | exact Or.inr rfl) (x_fn c_round_of room (by decide) gu tkB (ga_cons (x_var 0) (ga_cons (x_var 3) (ga_cons (x_var 1) ga_nil))) (ar_cons (ar_cons (ar_cons ar_nil)))))
  (gs_one (gs_if (t_ne (hu64 room) (x_var 4) (x_str [])) (gs_one (gs_expr (x_append (i := 2) rfl (by first | exact Or.inl rfl | exact Or.inr (Or.inl rfl) | exact Or.inr (Or.inr rfl)) (x_var 4) ⟨rfl, rfl, rfl, rfl, rfl⟩)))
  gs_nil))))
  (gs_one (gs_ret (x_var 2)))))))
theorem ok_then (T : Top K mg) (c_mapped : DefOk P w K mg base 4 "mapped" p_mapped F_mapped) : DefOk P w K mg base 5 "then" p_then F_then :=
  F_then_eq ▸ def_at T.d_then sc_then fun f cdv A l t H E room gu => ((gs_one (gs_ret (x_tupU rfl T.z_tuple (ge_lc (own := [("word", 2)]) rfl sc_then.nd (gi_seq (x_var 0)) (blkOk_by (N := n_then) (sc := defScope st_then) (own := [("word", 2)]) (by decide +kernel)) (by decide) (fun _ _ _ _ _ => (gg_name (i := 2) sc_then.nd rfl (by first | exact Or.inl rfl | exact Or.inr rfl))) (fun _ _ _ _ _ => gts_nil) (fun _ _ _ _ _ => (x_fn c_mapped room (by decide) gu tkQ (ga_cons (x_var 1) (ga_cons (x_var 2) ga_nil)) (ar_cons (ar_cons ar_nil)))))))))
theorem ok_way_by (T : Top K mg) (c_least_turn : DefOk P w K mg base 2 "least_turn" p_least_turn F_least_turn) (c_core : DefOk P w K mg base 3 "core" p_core F_core) (c_mapped : DefOk P w K mg base 4 "mapped" p_mapped F_mapped) : DefOk P w K mg base 5 "way_by" p_way_by F_way_by :=
  F_way_by_eq ▸ def_at T.d_way_by sc_way_by fun f cdv A l t H E room gu => ((gs_one (gs_ret (x_fn c_least_turn room (by decide) gu tkB (ga_cons (x_ix (hu64 room) (x_fn c_core room (by decide) gu tkB (ga_cons (x_fn c_mapped room (by decide) gu tkB (ga_cons (x_var 0) (ga_cons (x_var 1) ga_nil)) (ar_cons (ar_cons ar_nil))) ga_nil) (ar_cons ar_nil)) x_int) ga_nil) (ar_cons ar_nil)))))
theorem ok_handles (T : Top K mg) (c_holes : DefOk P w K mg base 4 "holes" p_holes F_holes) : DefOk P w K mg base 5 "handles" p_handles F_handles :=
  F_handles_eq ▸ def_at T.d_handles sc_handles fun f cdv A l t H E room gu => ((gs_one (gs_ret (x_div (x_sub (x_add x_int (x_div (x_len T.z_len (x_var 0)) x_int)) (x_len T.z_len (x_fn c_holes room (by decide) gu tkB (ga_cons (x_var 0) ga_nil) (ar_cons ar_nil)))) x_int))))
theorem ok_told_by (T : Top K mg) (c_slid : DefOk P w K mg base 4 "slid" p_slid F_slid) (c_then : DefOk P w K mg base 5 "then" p_then F_then) (c_maps_of : DefOk P w K mg base 4 "maps_of" p_maps_of F_maps_of) (c_ends_of : DefOk P w K mg base 3 "ends_of" p_ends_of F_ends_of) (c_plain : DefOk P w K mg base 1 "plain" p_plain F_plain) : DefOk P w K mg base 6 "told_by" p_told_by F_told_by :=
  F_told_by_eq ▸ def_at T.d_told_by sc_told_by fun f cdv A l t H E room gu => ((gs_cons (gs_set (i := 2) sc_told_by.nd rfl (by first | exact Or.inl rfl | exact Or.inr rfl) (x_var 0))
  (gs_cons (gs_set (i := 3) sc_told_by.nd rfl (by first | exact Or.inl rfl | exact Or.inr rfl) (x_fn c_plain room (by decide) gu tkB (ga_cons (x_div (x_len T.z_len (x_var 0)) x_int) ga_nil) (ar_cons ar_nil)))
  (gs_cons (gs_set (i := 4) sc_told_by.nd rfl (by first | exact Or.inl rfl | exact Or.inr rfl) (x_var 3))
  (gs_cons (gs_for psB rfl (gi_enumU rfl T.z_enumerate (ga_cons (x_var 1) ga_nil)) (gg_tup rfl (ggs_cons (gg_name (i := 5) sc_told_by.nd rfl (by first | exact Or.inl rfl | exact Or.inr rfl)) (ggs_cons (gg_name (i := 6) sc_told_by.nd rfl (by first | exact Or.inl rfl | exact Or.inr rfl)) ggs_nil)))
  (gs_cons (gs_expr (x_fn c_ends_of room (by decide) gu tkB (ga_cons (x_var 2) (ga_cons (x_var 6) (ga_cons (x_var 5) ga_nil))) (ar_cons (ar_cons (ar_cons ar_nil)))))
  (gs_cons (gs_asg (x_fn c_maps_of room (by decide) gu tkB (ga_cons (x_var 2) (ga_cons (x_var 6) ga_nil)) (ar_cons (ar_cons ar_nil))) (gg_tupU rfl (ggs_cons (gg_name (i := 7) sc_told_by.nd rfl (by first | exact Or.inl rfl | exact Or.inr rfl)) (ggs_cons (gg_name (i := 8) sc_told_by.nd rfl (by first | exact Or.inl rfl | exact Or.inr rfl)) ggs_nil))))
  (gs_cons (gs_set (i := 3) sc_told_by.nd rfl (by first | exact Or.inl rfl | exact Or.inr rfl) (x_fn c_then room (by decide) gu tkB (ga_cons (x_var 3) (ga_cons (x_var 7) ga_nil)) (ar_cons (ar_cons ar_nil))))
  (gs_cons (gs_set (i := 4) sc_told_by.nd rfl (by first | exact Or.inl rfl | exact Or.inr rfl) (x_fn c_then room (by decide) gu tkB (ga_cons (x_var 8) (ga_cons (x_var 4) ga_nil)) (ar_cons (ar_cons ar_nil))))
  (gs_one (gs_set (i := 2) sc_told_by.nd rfl (by first | exact Or.inl rfl | exact Or.inr rfl) (x_fn c_slid room (by decide) gu tkB (ga_cons (x_var 2) (ga_cons (x_var 6) ga_nil)) (ar_cons (ar_cons ar_nil))))))))))
  (gs_one (gs_ret (x_tup (ga_cons (x_var 2) (ga_cons (x_var 3) (ga_cons (x_var 4) ga_nil)))))))))))
theorem ok__law_right (T : Top K mg) (c_mapped : DefOk P w K mg base 4 "mapped" p_mapped F_mapped) (c__law_least : DefOk P w K mg base 1 "_law_least" p__law_least F__law_least) (c_holes : DefOk P w K mg base 4 "holes" p_holes F_holes) (c_way_by : DefOk P w K mg base 5 "way_by" p_way_by F_way_by) (c__law_middle : DefOk P w K mg base 3 "_law_middle" p__law_middle F__law_middle) (c__law_holes : DefOk P w K mg base 2 "_law_holes" p__law_holes F__law_holes) (c_handles : DefOk P w K mg base 5 "handles" p_handles F_handles) (c_told_by : DefOk P w K mg base 6 "told_by" p_told_by F_told_by) : DefOk P w K mg base 7 "_law_right" p__law_right F__law_right :=
  F__law_right_eq ▸ def_at T.d__law_right sc__law_right fun f cdv A l t H E room gu => ((gs_cons (gs_asg (x_fn c_told_by room (by decide) gu tkB (ga_cons (x_var 0) (ga_cons (x_tupU rfl T.z_tuple (x_var 1)) ga_nil)) (ar_cons (ar_cons ar_nil))) (gg_tupU rfl (ggs_cons (gg_name (i := 2) sc__law_right.nd rfl (by first | exact Or.inl rfl | exact Or.inr rfl)) (ggs_cons (gg_name (i := 3) sc__law_right.nd rfl (by first | exact Or.inl rfl | exact Or.inr rfl)) (ggs_cons (gg_name (i := 4) sc__law_right.nd rfl (by first | exact Or.inl rfl | exact Or.inr rfl)) ggs_nil)))))
  (gs_cons (gs_set (i := 5) sc__law_right.nd rfl (by first | exact Or.inl rfl | exact Or.inr rfl) (x_fn c_holes room (by decide) gu tkB (ga_cons (x_var 0) ga_nil) (ar_cons ar_nil)))
  (gs_cons (gs_setLc (i := 6) (own := [("_law_word", 9)]) rfl sc__law_right.nd rfl rfl (sw_true rfl rfl rfl (by decide +kernel)) (gi_seq (x_fn c_holes room (by decide) gu tkB (ga_cons (x_var 2) ga_nil) (ar_cons ar_nil))) (blkOk_by (N := n__law_right) (sc := defScope st__law_right) (own := [("_law_word", 9)]) (by decide +kernel)) (by decide) (fun _ _ _ _ _ => (gg_name (i := 9) sc__law_right.nd rfl (by first | exact Or.inl rfl | exact Or.inr rfl))) (fun _ _ _ _ _ => gts_nil) (fun _ _ _ _ _ => (x_fn c__law_least room (by decide) gu tkQ (ga_cons (x_var 9) ga_nil) (ar_cons ar_nil))))
  (gs_cons (gs_if (gt_w (gw_or (t_ne (hu64 room) (x_var 5) (x_fn c__law_holes room (by decide) gu tkB (ga_cons (x_var 0) ga_nil) (ar_cons ar_nil))) (gw_or (t_ne (hu64 room) (x_len T.z_len (x_var 6)) (x_len T.z_len (x_var 5))) (gw_or1 (t_ne (hu64 room) (x_fn c_handles room (by decide) gu tkB (ga_cons (x_var 2) ga_nil) (ar_cons ar_nil)) (x_fn c_handles room (by decide) gu tkB (ga_cons (x_var 0) ga_nil) (ar_cons ar_nil))))))) (gs_one (gs_ret x_bl))
  gs_nil)
  (gs_cons (gs_setLc (i := 7) (own := [("_law_word", 9)]) rfl sc__law_right.nd rfl rfl (sw_true rfl rfl rfl (by decide +kernel)) (gi_seq (x_var 5)) (blkOk_by (N := n__law_right) (sc := defScope st__law_right) (own := [("_law_word", 9)]) (by decide +kernel)) (by decide) (fun _ _ _ _ _ => (gg_name (i := 9) sc__law_right.nd rfl (by first | exact Or.inl rfl | exact Or.inr rfl))) (fun _ _ _ _ _ => gts_nil) (fun _ _ _ _ _ => (x_fn c__law_least room (by decide) gu tkQ (ga_cons (x_fn c__law_middle room (by decide) gu tkQ (ga_cons (x_fn c_mapped room (by decide) gu tkQ (ga_cons (x_var 3) (ga_cons (x_var 9) ga_nil)) (ar_cons (ar_cons ar_nil))) ga_nil) (ar_cons ar_nil)) ga_nil) (ar_cons ar_nil))))
  (gs_cons (gs_if (gt_w (gw_or (t_ne (hu64 room) (x_sorted T.z_sorted (x_var 7)) (x_sorted T.z_sorted (x_var 6))) (gw_or1 (t_ne (hu64 room) (x_lenSetN rfl T.z_len T.z_set (x_var 7)) (x_len T.z_len (x_var 7)))))) (gs_one (gs_ret x_bl))
  gs_nil)
  (gs_cons (gs_set (i := 8) sc__law_right.nd rfl (by first | exact Or.inl rfl | exact Or.inr rfl) (x_sorted T.z_sorted (ge_lc (own := [("_law_word", 9)]) rfl sc__law_right.nd (gi_seq (x_fn c_holes room (by decide) gu tkB (ga_cons (x_var 2) ga_nil) (ar_cons ar_nil))) (blkOk_by (N := n__law_right) (sc := defScope st__law_right) (own := [("_law_word", 9)]) (by decide +kernel)) (by decide) (fun _ _ _ _ _ => (gg_name (i := 9) sc__law_right.nd rfl (by first | exact Or.inl rfl | exact Or.inr rfl))) (fun _ _ _ _ _ => gts_nil) (fun _ _ _ _ _ => (x_fn c_way_by room (by decide) gu tkQ (ga_cons (x_var 4) (ga_cons (x_var 9) ga_nil)) (ar_cons (ar_cons ar_nil)))))))
  (gs_cons (gs_if (t_ne (hu64 room) (x_var 8) (x_sorted T.z_sorted (ge_lc (own := [("_law_word", 9)]) rfl sc__law_right.nd (gi_seq (x_var 5)) (blkOk_by (N := n__law_right) (sc := defScope st__law_right) (own := [("_law_word", 9)]) (by decide +kernel)) (by decide) (fun _ _ _ _ _ => (gg_name (i := 9) sc__law_right.nd rfl (by first | exact Or.inl rfl | exact Or.inr rfl))) (fun _ _ _ _ _ => gts_nil) (fun _ _ _ _ _ => (x_fn c__law_least room (by decide) gu tkQ (ga_cons (x_var 9) ga_nil) (ar_cons ar_nil)))))) (gs_one (gs_ret x_bl))
  gs_nil)
  (gs_one (gs_ret (x_eq (hu64 room) (ge_lc (own := [("_law_word", 9)]) rfl sc__law_right.nd (gi_seq (x_var 5)) (blkOk_by (N := n__law_right) (sc := defScope st__law_right) (own := [("_law_word", 9)]) (by decide +kernel)) (by decide) (fun _ _ _ _ _ => (gg_name (i := 9) sc__law_right.nd rfl (by first | exact Or.inl rfl | exact Or.inr rfl))) (fun _ _ _ _ _ => (gts_one (t_ne (hu64 room) (x_fn c_mapped room (by decide) gu tkQ (ga_cons (x_var 4) (ga_cons (x_fn c_mapped room (by decide) gu tkQ (ga_cons (x_var 3) (ga_cons (x_var 9) ga_nil)) (ar_cons (ar_cons ar_nil))) ga_nil)) (ar_cons (ar_cons ar_nil))) (x_var 9)))) (fun _ _ _ _ _ => (x_var 9))) (x_lst ga_nil)))))))))))))
theorem ok_law {f : Addr} {fd : FuncData} (F : L2.Fun K "law" "law" st_law f fd) (T : Top K mg) (c__law_right : DefOk P w K mg base 7 "_law_right" p__law_right F__law_right) (c__law_slides : DefOk P w K mg base 3 "_law_slides" p__law_slides F__law_slides) (c__law_surface : DefOk P w K mg base 2 "_law_surface" p__law_surface F__law_surface) (c__law_draw : DefOk P w K mg base 1 "_law_draw" p__law_draw F__law_draw) (c__law_feed : DefOk P w K mg base 1 "_law_feed" p__law_feed F__law_feed) : FnG P w K mg base 8 f fd p_law (spF (GB.ct0 K mg) 1 F_law) :=
  F_law_eq ▸ def_ok F sc_law fun cdv A l t H E room gu => ((gs_cons (gs_set (i := 1) sc_law.nd rfl (by first | exact Or.inl rfl | exact Or.inr rfl) (x_fn c__law_feed room (by decide) gu tkB (ga_cons (x_var 0) ga_nil) (ar_cons ar_nil)))
  (gs_cons (gs_for psB rfl (gi_range1 rfl T.z_range (ga_cons x_int ga_nil)) (gg_name (i := 2) sc_law.nd rfl (by first | exact Or.inl rfl | exact Or.inr rfl))
  (gs_cons (gs_set (i := 3) sc_law.nd rfl (by first | exact Or.inl rfl | exact Or.inr rfl) (x_fn c__law_surface room (by decide) gu tkB (ga_cons (x_var 1) (ga_cons (x_add x_int (x_fn c__law_draw room (by decide) gu tkB (ga_cons (x_var 1) (ga_cons x_int ga_nil)) (ar_cons (ar_cons ar_nil)))) ga_nil)) (ar_cons (ar_cons ar_nil))))
  (gs_one (gs_if (gt_not (gt_tru (x_fn c__law_right room (by decide) gu tkB (ga_cons (x_var 3) (ga_cons (x_ix (hu64 room) (x_fn c__law_slides room (by decide) gu tkB (ga_cons (x_var 1) (ga_cons (x_var 3) (ga_cons x_int ga_nil))) (ar_cons (ar_cons (ar_cons ar_nil)))) x_int) ga_nil)) (ar_cons (ar_cons ar_nil))))) (gs_one (gs_ret x_bl))
  gs_nil))))
  (gs_one (gs_ret x_bl)))))
theorem ok_all {f : Addr} {fd : FuncData} (F : L2.Fun K "law" "law" st_law f fd) (T : Top K mg) : FnG P w K mg base 8 f fd p_law (spF (GB.ct0 K mg) 1 F_law) := by
  have c_number_of : DefOk P w K mg base 1 "number_of" p_number_of F_number_of := ok_number_of T
  have c_back_of : DefOk P w K mg base 1 "back_of" p_back_of F_back_of := ok_back_of T
  have c_turns : DefOk P w K mg base 1 "turns" p_turns F_turns := ok_turns T
  have c_plain : DefOk P w K mg base 1 "plain" p_plain F_plain := ok_plain T
  have c__law_feed : DefOk P w K mg base 1 "_law_feed" p__law_feed F__law_feed := ok__law_feed T
  have c__law_draw : DefOk P w K mg base 1 "_law_draw" p__law_draw F__law_draw := ok__law_draw T
  have c__law_back : DefOk P w K mg base 1 "_law_back" p__law_back F__law_back := ok__law_back T
  have c__law_least : DefOk P w K mg base 1 "_law_least" p__law_least F__law_least := ok__law_least T
  have c_back : DefOk P w K mg base 2 "back" p_back F_back := ok_back T c_back_of
  have c_reduced : DefOk P w K mg base 2 "reduced" p_reduced F_reduced := ok_reduced T c_back_of
  have c_least_turn : DefOk P w K mg base 2 "least_turn" p_least_turn F_least_turn := ok_least_turn T c_turns
  have c_can_slide : DefOk P w K mg base 2 "can_slide" p_can_slide F_can_slide := ok_can_slide T c_back_of
  have c__law_reduced : DefOk P w K mg base 2 "_law_reduced" p__law_reduced F__law_reduced := ok__law_reduced T c__law_back
  have c__law_surface : DefOk P w K mg base 2 "_law_surface" p__law_surface F__law_surface := ok__law_surface T c__law_draw
  have c__law_slid : DefOk P w K mg base 2 "_law_slid" p__law_slid F__law_slid := ok__law_slid T c__law_back
  have c__law_holes : DefOk P w K mg base 2 "_law_holes" p__law_holes F__law_holes := ok__law_holes T c__law_back
  have c_core : DefOk P w K mg base 3 "core" p_core F_core := ok_core T c_back_of c_reduced
  have c_became : DefOk P w K mg base 3 "became" p_became F_became := ok_became T c_back c_number_of
  have c_ends_of : DefOk P w K mg base 3 "ends_of" p_ends_of F_ends_of := ok_ends_of T c_can_slide
  have ct_ends_of : DefTk P w K mg base 3 "ends_of" p_ends_of (endsF F_ends_of) := tk_ends_of T c_can_slide
  have c_with_word : DefOk P w K mg base 3 "with_word" p_with_word F_with_word := ok_with_word T c_back c_number_of c_plain
  have c_round_of : DefOk P w K mg base 3 "round_of" p_round_of F_round_of := ok_round_of T c_back
  have c__law_middle : DefOk P w K mg base 3 "_law_middle" p__law_middle F__law_middle := ok__law_middle T c__law_back c__law_reduced
  have c__law_slides : DefOk P w K mg base 3 "_law_slides" p__law_slides F__law_slides := ok__law_slides T c__law_draw c__law_slid
  have c_mapped : DefOk P w K mg base 4 "mapped" p_mapped F_mapped := ok_mapped T c_reduced c_became
  have c_slid : DefOk P w K mg base 4 "slid" p_slid F_slid := ok_slid T ct_ends_of c_back_of
  have c_maps_of : DefOk P w K mg base 4 "maps_of" p_maps_of F_maps_of := ok_maps_of T c_with_word c_back_of c_ends_of
  have c_holes : DefOk P w K mg base 4 "holes" p_holes F_holes := ok_holes T c_round_of
  have c_then : DefOk P w K mg base 5 "then" p_then F_then := ok_then T c_mapped
  have c_way_by : DefOk P w K mg base 5 "way_by" p_way_by F_way_by := ok_way_by T c_least_turn c_core c_mapped
  have c_handles : DefOk P w K mg base 5 "handles" p_handles F_handles := ok_handles T c_holes
  have c_told_by : DefOk P w K mg base 6 "told_by" p_told_by F_told_by := ok_told_by T c_slid c_then c_maps_of c_ends_of c_plain
  have c__law_right : DefOk P w K mg base 7 "_law_right" p__law_right F__law_right := ok__law_right T c_mapped c__law_least c_holes c_way_by c__law_middle c__law_holes c_handles c_told_by
  exact ok_law F T c__law_right c__law_slides c__law_surface c__law_draw c__law_feed
end
theorem all_mk {l : PySem.W.OpenLaw} {w : World} {K : PySem.W.Frag} {h : Heap} {mg : Str → Option Value} {fa : Addr} (X : K.In h) (G : h.Ns mainGlobals mg) (hfa : mg "law" = some (.ref fa)) {f0 : Addr} {f1 : Addr} {f2 : Addr} {f3 : Addr} {f4 : Addr} {f5 : Addr} {f6 : Addr} {f7 : Addr} {f8 : Addr} {f9 : Addr} {f10 : Addr} {f11 : Addr} {f12 : Addr} {f13 : Addr} {f14 : Addr} {f15 : Addr} {f16 : Addr} {f17 : Addr} {f18 : Addr} {f19 : Addr} {f20 : Addr} {f21 : Addr} {f22 : Addr} {f23 : Addr} {f24 : Addr} {f25 : Addr} {f26 : Addr} {f27 : Addr} {f28 : Addr} {f29 : Addr} {f30 : Addr} {f31 : Addr} {f32 : Addr}
    {od0 an0 : Option Addr} {sl0 : Array (Option Value)} {oc0 kV0 dc0 pm0 cd0 cc0 : Value}
    {od1 an1 : Option Addr} {sl1 : Array (Option Value)} {oc1 kV1 dc1 pm1 cd1 cc1 : Value}
    {od2 an2 : Option Addr} {sl2 : Array (Option Value)} {oc2 kV2 dc2 pm2 cd2 cc2 : Value}
    {od3 an3 : Option Addr} {sl3 : Array (Option Value)} {oc3 kV3 dc3 pm3 cd3 cc3 : Value}
    {od4 an4 : Option Addr} {sl4 : Array (Option Value)} {oc4 kV4 dc4 pm4 cd4 cc4 : Value}
    {od5 an5 : Option Addr} {sl5 : Array (Option Value)} {oc5 kV5 dc5 pm5 cd5 cc5 : Value}
    {od6 an6 : Option Addr} {sl6 : Array (Option Value)} {oc6 kV6 dc6 pm6 cd6 cc6 : Value}
    {od7 an7 : Option Addr} {sl7 : Array (Option Value)} {oc7 kV7 dc7 pm7 cd7 cc7 : Value}
    {od8 an8 : Option Addr} {sl8 : Array (Option Value)} {oc8 kV8 dc8 pm8 cd8 cc8 : Value}
    {od9 an9 : Option Addr} {sl9 : Array (Option Value)} {oc9 kV9 dc9 pm9 cd9 cc9 : Value}
    {od10 an10 : Option Addr} {sl10 : Array (Option Value)} {oc10 kV10 dc10 pm10 cd10 cc10 : Value}
    {od11 an11 : Option Addr} {sl11 : Array (Option Value)} {oc11 kV11 dc11 pm11 cd11 cc11 : Value}
    {od12 an12 : Option Addr} {sl12 : Array (Option Value)} {oc12 kV12 dc12 pm12 cd12 cc12 : Value}
    {od13 an13 : Option Addr} {sl13 : Array (Option Value)} {oc13 kV13 dc13 pm13 cd13 cc13 : Value}
    {od14 an14 : Option Addr} {sl14 : Array (Option Value)} {oc14 kV14 dc14 pm14 cd14 cc14 : Value}
    {od15 an15 : Option Addr} {sl15 : Array (Option Value)} {oc15 kV15 dc15 pm15 cd15 cc15 : Value}
    {od16 an16 : Option Addr} {sl16 : Array (Option Value)} {oc16 kV16 dc16 pm16 cd16 cc16 : Value}
    {od17 an17 : Option Addr} {sl17 : Array (Option Value)} {oc17 kV17 dc17 pm17 cd17 cc17 : Value}
    {od18 an18 : Option Addr} {sl18 : Array (Option Value)} {oc18 kV18 dc18 pm18 cd18 cc18 : Value}
    {od19 an19 : Option Addr} {sl19 : Array (Option Value)} {oc19 kV19 dc19 pm19 cd19 cc19 : Value}
    {od20 an20 : Option Addr} {sl20 : Array (Option Value)} {oc20 kV20 dc20 pm20 cd20 cc20 : Value}
    {od21 an21 : Option Addr} {sl21 : Array (Option Value)} {oc21 kV21 dc21 pm21 cd21 cc21 : Value}
    {od22 an22 : Option Addr} {sl22 : Array (Option Value)} {oc22 kV22 dc22 pm22 cd22 cc22 : Value}
    {od23 an23 : Option Addr} {sl23 : Array (Option Value)} {oc23 kV23 dc23 pm23 cd23 cc23 : Value}
    {od24 an24 : Option Addr} {sl24 : Array (Option Value)} {oc24 kV24 dc24 pm24 cd24 cc24 : Value}
    {od25 an25 : Option Addr} {sl25 : Array (Option Value)} {oc25 kV25 dc25 pm25 cd25 cc25 : Value}
    {od26 an26 : Option Addr} {sl26 : Array (Option Value)} {oc26 kV26 dc26 pm26 cd26 cc26 : Value}
    {od27 an27 : Option Addr} {sl27 : Array (Option Value)} {oc27 kV27 dc27 pm27 cd27 cc27 : Value}
    {od28 an28 : Option Addr} {sl28 : Array (Option Value)} {oc28 kV28 dc28 pm28 cd28 cc28 : Value}
    {od29 an29 : Option Addr} {sl29 : Array (Option Value)} {oc29 kV29 dc29 pm29 cd29 cc29 : Value}
    {od30 an30 : Option Addr} {sl30 : Array (Option Value)} {oc30 kV30 dc30 pm30 cd30 cc30 : Value}
    {od31 an31 : Option Addr} {sl31 : Array (Option Value)} {oc31 kV31 dc31 pm31 cd31 cc31 : Value}
    {od32 an32 : Option Addr} {sl32 : Array (Option Value)} {oc32 kV32 dc32 pm32 cd32 cc32 : Value}
    (a0 : PySem.W.nsIn K mainGlobals "number_of" = some (some (.ref f0))) (l0 : K.lookup f0 = some ⟨oc0, od0, .func (PySem.W.fnOf "number_of" "number_of" (defArgs st_number_of) (defBody st_number_of) (defScope st_number_of) .none kV0 dc0 pm0 an0 cd0 cc0), sl0⟩) (g0 : PySem.W.codeIn K cd0 "number_of" = true) (k0 : PySem.W.keepIn K (.ref f0) = true)
    (a1 : PySem.W.nsIn K mainGlobals "back_of" = some (some (.ref f1))) (l1 : K.lookup f1 = some ⟨oc1, od1, .func (PySem.W.fnOf "back_of" "back_of" (defArgs st_back_of) (defBody st_back_of) (defScope st_back_of) .none kV1 dc1 pm1 an1 cd1 cc1), sl1⟩) (g1 : PySem.W.codeIn K cd1 "back_of" = true) (k1 : PySem.W.keepIn K (.ref f1) = true)
    (a2 : PySem.W.nsIn K mainGlobals "turns" = some (some (.ref f2))) (l2 : K.lookup f2 = some ⟨oc2, od2, .func (PySem.W.fnOf "turns" "turns" (defArgs st_turns) (defBody st_turns) (defScope st_turns) .none kV2 dc2 pm2 an2 cd2 cc2), sl2⟩) (g2 : PySem.W.codeIn K cd2 "turns" = true) (k2 : PySem.W.keepIn K (.ref f2) = true)
    (a3 : PySem.W.nsIn K mainGlobals "plain" = some (some (.ref f3))) (l3 : K.lookup f3 = some ⟨oc3, od3, .func (PySem.W.fnOf "plain" "plain" (defArgs st_plain) (defBody st_plain) (defScope st_plain) .none kV3 dc3 pm3 an3 cd3 cc3), sl3⟩) (g3 : PySem.W.codeIn K cd3 "plain" = true) (k3 : PySem.W.keepIn K (.ref f3) = true)
    (a4 : PySem.W.nsIn K mainGlobals "_law_feed" = some (some (.ref f4))) (l4 : K.lookup f4 = some ⟨oc4, od4, .func (PySem.W.fnOf "_law_feed" "_law_feed" (defArgs st__law_feed) (defBody st__law_feed) (defScope st__law_feed) .none kV4 dc4 pm4 an4 cd4 cc4), sl4⟩) (g4 : PySem.W.codeIn K cd4 "_law_feed" = true) (k4 : PySem.W.keepIn K (.ref f4) = true)
    (a5 : PySem.W.nsIn K mainGlobals "_law_draw" = some (some (.ref f5))) (l5 : K.lookup f5 = some ⟨oc5, od5, .func (PySem.W.fnOf "_law_draw" "_law_draw" (defArgs st__law_draw) (defBody st__law_draw) (defScope st__law_draw) .none kV5 dc5 pm5 an5 cd5 cc5), sl5⟩) (g5 : PySem.W.codeIn K cd5 "_law_draw" = true) (k5 : PySem.W.keepIn K (.ref f5) = true)
    (a6 : PySem.W.nsIn K mainGlobals "_law_back" = some (some (.ref f6))) (l6 : K.lookup f6 = some ⟨oc6, od6, .func (PySem.W.fnOf "_law_back" "_law_back" (defArgs st__law_back) (defBody st__law_back) (defScope st__law_back) .none kV6 dc6 pm6 an6 cd6 cc6), sl6⟩) (g6 : PySem.W.codeIn K cd6 "_law_back" = true) (k6 : PySem.W.keepIn K (.ref f6) = true)
    (a7 : PySem.W.nsIn K mainGlobals "_law_least" = some (some (.ref f7))) (l7 : K.lookup f7 = some ⟨oc7, od7, .func (PySem.W.fnOf "_law_least" "_law_least" (defArgs st__law_least) (defBody st__law_least) (defScope st__law_least) .none kV7 dc7 pm7 an7 cd7 cc7), sl7⟩) (g7 : PySem.W.codeIn K cd7 "_law_least" = true) (k7 : PySem.W.keepIn K (.ref f7) = true)
    (a8 : PySem.W.nsIn K mainGlobals "back" = some (some (.ref f8))) (l8 : K.lookup f8 = some ⟨oc8, od8, .func (PySem.W.fnOf "back" "back" (defArgs st_back) (defBody st_back) (defScope st_back) .none kV8 dc8 pm8 an8 cd8 cc8), sl8⟩) (g8 : PySem.W.codeIn K cd8 "back" = true) (k8 : PySem.W.keepIn K (.ref f8) = true)
    (a9 : PySem.W.nsIn K mainGlobals "reduced" = some (some (.ref f9))) (l9 : K.lookup f9 = some ⟨oc9, od9, .func (PySem.W.fnOf "reduced" "reduced" (defArgs st_reduced) (defBody st_reduced) (defScope st_reduced) .none kV9 dc9 pm9 an9 cd9 cc9), sl9⟩) (g9 : PySem.W.codeIn K cd9 "reduced" = true) (k9 : PySem.W.keepIn K (.ref f9) = true)
    (a10 : PySem.W.nsIn K mainGlobals "least_turn" = some (some (.ref f10))) (l10 : K.lookup f10 = some ⟨oc10, od10, .func (PySem.W.fnOf "least_turn" "least_turn" (defArgs st_least_turn) (defBody st_least_turn) (defScope st_least_turn) .none kV10 dc10 pm10 an10 cd10 cc10), sl10⟩) (g10 : PySem.W.codeIn K cd10 "least_turn" = true) (k10 : PySem.W.keepIn K (.ref f10) = true)
    (a11 : PySem.W.nsIn K mainGlobals "can_slide" = some (some (.ref f11))) (l11 : K.lookup f11 = some ⟨oc11, od11, .func (PySem.W.fnOf "can_slide" "can_slide" (defArgs st_can_slide) (defBody st_can_slide) (defScope st_can_slide) .none kV11 dc11 pm11 an11 cd11 cc11), sl11⟩) (g11 : PySem.W.codeIn K cd11 "can_slide" = true) (k11 : PySem.W.keepIn K (.ref f11) = true)
    (a12 : PySem.W.nsIn K mainGlobals "_law_reduced" = some (some (.ref f12))) (l12 : K.lookup f12 = some ⟨oc12, od12, .func (PySem.W.fnOf "_law_reduced" "_law_reduced" (defArgs st__law_reduced) (defBody st__law_reduced) (defScope st__law_reduced) .none kV12 dc12 pm12 an12 cd12 cc12), sl12⟩) (g12 : PySem.W.codeIn K cd12 "_law_reduced" = true) (k12 : PySem.W.keepIn K (.ref f12) = true)
    (a13 : PySem.W.nsIn K mainGlobals "_law_surface" = some (some (.ref f13))) (l13 : K.lookup f13 = some ⟨oc13, od13, .func (PySem.W.fnOf "_law_surface" "_law_surface" (defArgs st__law_surface) (defBody st__law_surface) (defScope st__law_surface) .none kV13 dc13 pm13 an13 cd13 cc13), sl13⟩) (g13 : PySem.W.codeIn K cd13 "_law_surface" = true) (k13 : PySem.W.keepIn K (.ref f13) = true)
    (a14 : PySem.W.nsIn K mainGlobals "_law_slid" = some (some (.ref f14))) (l14 : K.lookup f14 = some ⟨oc14, od14, .func (PySem.W.fnOf "_law_slid" "_law_slid" (defArgs st__law_slid) (defBody st__law_slid) (defScope st__law_slid) .none kV14 dc14 pm14 an14 cd14 cc14), sl14⟩) (g14 : PySem.W.codeIn K cd14 "_law_slid" = true) (k14 : PySem.W.keepIn K (.ref f14) = true)
    (a15 : PySem.W.nsIn K mainGlobals "_law_holes" = some (some (.ref f15))) (l15 : K.lookup f15 = some ⟨oc15, od15, .func (PySem.W.fnOf "_law_holes" "_law_holes" (defArgs st__law_holes) (defBody st__law_holes) (defScope st__law_holes) .none kV15 dc15 pm15 an15 cd15 cc15), sl15⟩) (g15 : PySem.W.codeIn K cd15 "_law_holes" = true) (k15 : PySem.W.keepIn K (.ref f15) = true)
    (a16 : PySem.W.nsIn K mainGlobals "core" = some (some (.ref f16))) (l16 : K.lookup f16 = some ⟨oc16, od16, .func (PySem.W.fnOf "core" "core" (defArgs st_core) (defBody st_core) (defScope st_core) .none kV16 dc16 pm16 an16 cd16 cc16), sl16⟩) (g16 : PySem.W.codeIn K cd16 "core" = true) (k16 : PySem.W.keepIn K (.ref f16) = true)
    (a17 : PySem.W.nsIn K mainGlobals "became" = some (some (.ref f17))) (l17 : K.lookup f17 = some ⟨oc17, od17, .func (PySem.W.fnOf "became" "became" (defArgs st_became) (defBody st_became) (defScope st_became) .none kV17 dc17 pm17 an17 cd17 cc17), sl17⟩) (g17 : PySem.W.codeIn K cd17 "became" = true) (k17 : PySem.W.keepIn K (.ref f17) = true)
    (a18 : PySem.W.nsIn K mainGlobals "ends_of" = some (some (.ref f18))) (l18 : K.lookup f18 = some ⟨oc18, od18, .func (PySem.W.fnOf "ends_of" "ends_of" (defArgs st_ends_of) (defBody st_ends_of) (defScope st_ends_of) .none kV18 dc18 pm18 an18 cd18 cc18), sl18⟩) (g18 : PySem.W.codeIn K cd18 "ends_of" = true) (k18 : PySem.W.keepIn K (.ref f18) = true)
    (a19 : PySem.W.nsIn K mainGlobals "with_word" = some (some (.ref f19))) (l19 : K.lookup f19 = some ⟨oc19, od19, .func (PySem.W.fnOf "with_word" "with_word" (defArgs st_with_word) (defBody st_with_word) (defScope st_with_word) .none kV19 dc19 pm19 an19 cd19 cc19), sl19⟩) (g19 : PySem.W.codeIn K cd19 "with_word" = true) (k19 : PySem.W.keepIn K (.ref f19) = true)
    (a20 : PySem.W.nsIn K mainGlobals "round_of" = some (some (.ref f20))) (l20 : K.lookup f20 = some ⟨oc20, od20, .func (PySem.W.fnOf "round_of" "round_of" (defArgs st_round_of) (defBody st_round_of) (defScope st_round_of) .none kV20 dc20 pm20 an20 cd20 cc20), sl20⟩) (g20 : PySem.W.codeIn K cd20 "round_of" = true) (k20 : PySem.W.keepIn K (.ref f20) = true)
    (a21 : PySem.W.nsIn K mainGlobals "_law_middle" = some (some (.ref f21))) (l21 : K.lookup f21 = some ⟨oc21, od21, .func (PySem.W.fnOf "_law_middle" "_law_middle" (defArgs st__law_middle) (defBody st__law_middle) (defScope st__law_middle) .none kV21 dc21 pm21 an21 cd21 cc21), sl21⟩) (g21 : PySem.W.codeIn K cd21 "_law_middle" = true) (k21 : PySem.W.keepIn K (.ref f21) = true)
    (a22 : PySem.W.nsIn K mainGlobals "_law_slides" = some (some (.ref f22))) (l22 : K.lookup f22 = some ⟨oc22, od22, .func (PySem.W.fnOf "_law_slides" "_law_slides" (defArgs st__law_slides) (defBody st__law_slides) (defScope st__law_slides) .none kV22 dc22 pm22 an22 cd22 cc22), sl22⟩) (g22 : PySem.W.codeIn K cd22 "_law_slides" = true) (k22 : PySem.W.keepIn K (.ref f22) = true)
    (a23 : PySem.W.nsIn K mainGlobals "mapped" = some (some (.ref f23))) (l23 : K.lookup f23 = some ⟨oc23, od23, .func (PySem.W.fnOf "mapped" "mapped" (defArgs st_mapped) (defBody st_mapped) (defScope st_mapped) .none kV23 dc23 pm23 an23 cd23 cc23), sl23⟩) (g23 : PySem.W.codeIn K cd23 "mapped" = true) (k23 : PySem.W.keepIn K (.ref f23) = true)
    (a24 : PySem.W.nsIn K mainGlobals "slid" = some (some (.ref f24))) (l24 : K.lookup f24 = some ⟨oc24, od24, .func (PySem.W.fnOf "slid" "slid" (defArgs st_slid) (defBody st_slid) (defScope st_slid) .none kV24 dc24 pm24 an24 cd24 cc24), sl24⟩) (g24 : PySem.W.codeIn K cd24 "slid" = true) (k24 : PySem.W.keepIn K (.ref f24) = true)
    (a25 : PySem.W.nsIn K mainGlobals "maps_of" = some (some (.ref f25))) (l25 : K.lookup f25 = some ⟨oc25, od25, .func (PySem.W.fnOf "maps_of" "maps_of" (defArgs st_maps_of) (defBody st_maps_of) (defScope st_maps_of) .none kV25 dc25 pm25 an25 cd25 cc25), sl25⟩) (g25 : PySem.W.codeIn K cd25 "maps_of" = true) (k25 : PySem.W.keepIn K (.ref f25) = true)
    (a26 : PySem.W.nsIn K mainGlobals "holes" = some (some (.ref f26))) (l26 : K.lookup f26 = some ⟨oc26, od26, .func (PySem.W.fnOf "holes" "holes" (defArgs st_holes) (defBody st_holes) (defScope st_holes) .none kV26 dc26 pm26 an26 cd26 cc26), sl26⟩) (g26 : PySem.W.codeIn K cd26 "holes" = true) (k26 : PySem.W.keepIn K (.ref f26) = true)
    (a27 : PySem.W.nsIn K mainGlobals "then" = some (some (.ref f27))) (l27 : K.lookup f27 = some ⟨oc27, od27, .func (PySem.W.fnOf "then" "then" (defArgs st_then) (defBody st_then) (defScope st_then) .none kV27 dc27 pm27 an27 cd27 cc27), sl27⟩) (g27 : PySem.W.codeIn K cd27 "then" = true) (k27 : PySem.W.keepIn K (.ref f27) = true)
    (a28 : PySem.W.nsIn K mainGlobals "way_by" = some (some (.ref f28))) (l28 : K.lookup f28 = some ⟨oc28, od28, .func (PySem.W.fnOf "way_by" "way_by" (defArgs st_way_by) (defBody st_way_by) (defScope st_way_by) .none kV28 dc28 pm28 an28 cd28 cc28), sl28⟩) (g28 : PySem.W.codeIn K cd28 "way_by" = true) (k28 : PySem.W.keepIn K (.ref f28) = true)
    (a29 : PySem.W.nsIn K mainGlobals "handles" = some (some (.ref f29))) (l29 : K.lookup f29 = some ⟨oc29, od29, .func (PySem.W.fnOf "handles" "handles" (defArgs st_handles) (defBody st_handles) (defScope st_handles) .none kV29 dc29 pm29 an29 cd29 cc29), sl29⟩) (g29 : PySem.W.codeIn K cd29 "handles" = true) (k29 : PySem.W.keepIn K (.ref f29) = true)
    (a30 : PySem.W.nsIn K mainGlobals "told_by" = some (some (.ref f30))) (l30 : K.lookup f30 = some ⟨oc30, od30, .func (PySem.W.fnOf "told_by" "told_by" (defArgs st_told_by) (defBody st_told_by) (defScope st_told_by) .none kV30 dc30 pm30 an30 cd30 cc30), sl30⟩) (g30 : PySem.W.codeIn K cd30 "told_by" = true) (k30 : PySem.W.keepIn K (.ref f30) = true)
    (a31 : PySem.W.nsIn K mainGlobals "_law_right" = some (some (.ref f31))) (l31 : K.lookup f31 = some ⟨oc31, od31, .func (PySem.W.fnOf "_law_right" "_law_right" (defArgs st__law_right) (defBody st__law_right) (defScope st__law_right) .none kV31 dc31 pm31 an31 cd31 cc31), sl31⟩) (g31 : PySem.W.codeIn K cd31 "_law_right" = true) (k31 : PySem.W.keepIn K (.ref f31) = true)
    (a32 : PySem.W.nsIn K mainGlobals "law" = some (some (.ref f32))) (l32 : K.lookup f32 = some ⟨oc32, od32, .func (PySem.W.fnOf "law" "law" (defArgs st_law) (defBody st_law) (defScope st_law) .none kV32 dc32 pm32 an32 cd32 cc32), sl32⟩) (g32 : PySem.W.codeIn K cd32 "law" = true) (k32 : PySem.W.keepIn K (.ref f32) = true)
    (z0 : PySem.W.nsIn K mainGlobals "enumerate" = some none)
    (z1 : PySem.W.nsIn K mainGlobals "int" = some none)
    (z2 : PySem.W.nsIn K mainGlobals "len" = some none)
    (z3 : PySem.W.nsIn K mainGlobals "list" = some none)
    (z4 : PySem.W.nsIn K mainGlobals "max" = some none)
    (z5 : PySem.W.nsIn K mainGlobals "min" = some none)
    (z6 : PySem.W.nsIn K mainGlobals "range" = some none)
    (z7 : PySem.W.nsIn K mainGlobals "set" = some none)
    (z8 : PySem.W.nsIn K mainGlobals "sorted" = some none)
    (z9 : PySem.W.nsIn K mainGlobals "str" = some none)
    (z10 : PySem.W.nsIn K mainGlobals "tuple" = some none)
    {u0 : Value} (v0 : PySem.W.nsIn K mainGlobals "SMALL" = some (some u0)) (r0 : RelV (.str "abcdef") u0)
    {A_NoSlide : Addr}
    {A_RingError : Addr}
    {I_NoSlide N_NoSlide : Addr} {nm_NoSlide qn_NoSlide : Str} {bs_NoSlide : List Value} {sn_NoSlide : List Str} {su_NoSlide : List Value} {ab_NoSlide : Bool} {co_NoSlide : Option Bool} {dd_NoSlide : Option Addr} {m0_NoSlide m1_NoSlide m2_NoSlide m3_NoSlide m5_NoSlide : Option Value} {xod_NoSlide xan_NoSlide : Option Addr} {xsl_NoSlide : Array (Option Value)} {xoc_NoSlide xkV_NoSlide xdc_NoSlide xpm_NoSlide xcd_NoSlide xcc_NoSlide : Value}
    (ka_NoSlide : PySem.W.nsIn K mainGlobals "NoSlide" = some (some (.ref A_NoSlide)))
    (ka_RingError : PySem.W.nsIn K mainGlobals "RingError" = some (some (.ref A_RingError)))
    (kr_RingError : PySem.W.readsIn K A_RingError (.type "type") = true)
    (ks_RingError : PySem.W.specialIn K (.ref A_RingError) "__getattribute__" = some (some (.builtin "type.__getattribute__")))
    (ki_RingError : PySem.W.findCls K (.ref A_RingError) (.type "type") "__init__" = some (.val (.builtin "ValueError.__init__")))
    (xL_NoSlide : K.lookup A_NoSlide = some (excClassObj nm_NoSlide qn_NoSlide A_NoSlide N_NoSlide bs_NoSlide [.ref A_RingError, .type "ValueError", .type "Exception", .type "BaseException", .type "object"] true sn_NoSlide su_NoSlide ab_NoSlide co_NoSlide dd_NoSlide m0_NoSlide m1_NoSlide m2_NoSlide m3_NoSlide m5_NoSlide "ValueError.__new__"))
    (xs_NoSlide : PySem.W.findIn K (.ref A_NoSlide) "__setattr__" = some (some (.builtin "object.__setattr__")))
    (xe_NoSlide : PySem.W.subIn K (.ref A_NoSlide) (.type "BaseException") = some true)
    (xt_NoSlide : PySem.W.typeIn K (.ref A_NoSlide) = some (.type "type"))
    (xk_NoSlide : PySem.W.keepIn K (.ref A_NoSlide) = true)
    (xi_NoSlide : PySem.W.findIn K (.ref A_NoSlide) "__init__" = some (some (.ref I_NoSlide)))
    (xj_NoSlide : PySem.W.typeIn K (.ref I_NoSlide) = some (.type "function"))
    (xl_NoSlide : K.lookup I_NoSlide = some ⟨xoc_NoSlide, xod_NoSlide, .func (PySem.W.fnOf "__init__" "NoSlide.__init__" (defArgs st_NoSlide) (defBody st_NoSlide) (defScope st_NoSlide) .none xkV_NoSlide xdc_NoSlide xpm_NoSlide xan_NoSlide xcd_NoSlide xcc_NoSlide), xsl_NoSlide⟩)
    (xg_NoSlide : PySem.W.codeIn K xcd_NoSlide "NoSlide.__init__" = true)
    (xq_NoSlide : PySem.W.keepIn K (.ref I_NoSlide) = true)
    (xf_NoSlide_place : PySem.W.findIn K (.ref A_NoSlide) "place" = some none)
    : ∃ fd : FuncData, (∀ (s : Shared) (v : Value), BindsTo s fd ⟨[v], []⟩ [("_law_script", v)]) ∧ ∀ base : Heap, K.In base → base.Ns mainGlobals mg → FnG l.prog w K mg base 8 fa fd ["_law_script"] (spF (GB.ct0 K mg) 1 F_law) := by
  have e := hfa.symm.trans (PySem.W.mg_of X G a32)
  cases e
  have F0 := fun_mk (st := st_number_of) l0 g0 k0
  have b0 := F0.binds (ps := p_number_of) fun _ _ _ _ _ _ us hl => match us, hl with | [_], _ => rfl
  have F1 := fun_mk (st := st_back_of) l1 g1 k1
  have b1 := F1.binds (ps := p_back_of) fun _ _ _ _ _ _ us hl => match us, hl with | [_], _ => rfl
  have F2 := fun_mk (st := st_turns) l2 g2 k2
  have b2 := F2.binds (ps := p_turns) fun _ _ _ _ _ _ us hl => match us, hl with | [_], _ => rfl
  have F3 := fun_mk (st := st_plain) l3 g3 k3
  have b3 := F3.binds (ps := p_plain) fun _ _ _ _ _ _ us hl => match us, hl with | [_], _ => rfl
  have F4 := fun_mk (st := st__law_feed) l4 g4 k4
  have b4 := F4.binds (ps := p__law_feed) fun _ _ _ _ _ _ us hl => match us, hl with | [_], _ => rfl
  have F5 := fun_mk (st := st__law_draw) l5 g5 k5
  have b5 := F5.binds (ps := p__law_draw) fun _ _ _ _ _ _ us hl => match us, hl with | [_, _], _ => rfl
  have F6 := fun_mk (st := st__law_back) l6 g6 k6
  have b6 := F6.binds (ps := p__law_back) fun _ _ _ _ _ _ us hl => match us, hl with | [_], _ => rfl
  have F7 := fun_mk (st := st__law_least) l7 g7 k7
  have b7 := F7.binds (ps := p__law_least) fun _ _ _ _ _ _ us hl => match us, hl with | [_], _ => rfl
  have F8 := fun_mk (st := st_back) l8 g8 k8
  have b8 := F8.binds (ps := p_back) fun _ _ _ _ _ _ us hl => match us, hl with | [_], _ => rfl
  have F9 := fun_mk (st := st_reduced) l9 g9 k9
  have b9 := F9.binds (ps := p_reduced) fun _ _ _ _ _ _ us hl => match us, hl with | [_], _ => rfl
  have F10 := fun_mk (st := st_least_turn) l10 g10 k10
  have b10 := F10.binds (ps := p_least_turn) fun _ _ _ _ _ _ us hl => match us, hl with | [_], _ => rfl
  have F11 := fun_mk (st := st_can_slide) l11 g11 k11
  have b11 := F11.binds (ps := p_can_slide) fun _ _ _ _ _ _ us hl => match us, hl with | [_, _], _ => rfl
  have F12 := fun_mk (st := st__law_reduced) l12 g12 k12
  have b12 := F12.binds (ps := p__law_reduced) fun _ _ _ _ _ _ us hl => match us, hl with | [_], _ => rfl
  have F13 := fun_mk (st := st__law_surface) l13 g13 k13
  have b13 := F13.binds (ps := p__law_surface) fun _ _ _ _ _ _ us hl => match us, hl with | [_, _], _ => rfl
  have F14 := fun_mk (st := st__law_slid) l14 g14 k14
  have b14 := F14.binds (ps := p__law_slid) fun _ _ _ _ _ _ us hl => match us, hl with | [_, _, _], _ => rfl
  have F15 := fun_mk (st := st__law_holes) l15 g15 k15
  have b15 := F15.binds (ps := p__law_holes) fun _ _ _ _ _ _ us hl => match us, hl with | [_], _ => rfl
  have F16 := fun_mk (st := st_core) l16 g16 k16
  have b16 := F16.binds (ps := p_core) fun _ _ _ _ _ _ us hl => match us, hl with | [_], _ => rfl
  have F17 := fun_mk (st := st_became) l17 g17 k17
  have b17 := F17.binds (ps := p_became) fun _ _ _ _ _ _ us hl => match us, hl with | [_, _], _ => rfl
  have F18 := fun_mk (st := st_ends_of) l18 g18 k18
  have b18 := F18.binds (ps := p_ends_of) fun _ _ _ _ _ _ us hl => match us, hl with | [_, _, _], _ => rfl
  have F19 := fun_mk (st := st_with_word) l19 g19 k19
  have b19 := F19.binds (ps := p_with_word) fun _ _ _ _ _ _ us hl => match us, hl with | [_, _, _], _ => rfl
  have F20 := fun_mk (st := st_round_of) l20 g20 k20
  have b20 := F20.binds (ps := p_round_of) fun _ _ _ _ _ _ us hl => match us, hl with | [_, _, _], _ => rfl
  have F21 := fun_mk (st := st__law_middle) l21 g21 k21
  have b21 := F21.binds (ps := p__law_middle) fun _ _ _ _ _ _ us hl => match us, hl with | [_], _ => rfl
  have F22 := fun_mk (st := st__law_slides) l22 g22 k22
  have b22 := F22.binds (ps := p__law_slides) fun _ _ _ _ _ _ us hl => match us, hl with | [_, _, _], _ => rfl
  have F23 := fun_mk (st := st_mapped) l23 g23 k23
  have b23 := F23.binds (ps := p_mapped) fun _ _ _ _ _ _ us hl => match us, hl with | [_, _], _ => rfl
  have F24 := fun_mk (st := st_slid) l24 g24 k24
  have b24 := F24.binds (ps := p_slid) fun _ _ _ _ _ _ us hl => match us, hl with | [_, _], _ => rfl
  have F25 := fun_mk (st := st_maps_of) l25 g25 k25
  have b25 := F25.binds (ps := p_maps_of) fun _ _ _ _ _ _ us hl => match us, hl with | [_, _], _ => rfl
  have F26 := fun_mk (st := st_holes) l26 g26 k26
  have b26 := F26.binds (ps := p_holes) fun _ _ _ _ _ _ us hl => match us, hl with | [_], _ => rfl
  have F27 := fun_mk (st := st_then) l27 g27 k27
  have b27 := F27.binds (ps := p_then) fun _ _ _ _ _ _ us hl => match us, hl with | [_, _], _ => rfl
  have F28 := fun_mk (st := st_way_by) l28 g28 k28
  have b28 := F28.binds (ps := p_way_by) fun _ _ _ _ _ _ us hl => match us, hl with | [_, _], _ => rfl
  have F29 := fun_mk (st := st_handles) l29 g29 k29
  have b29 := F29.binds (ps := p_handles) fun _ _ _ _ _ _ us hl => match us, hl with | [_], _ => rfl
  have F30 := fun_mk (st := st_told_by) l30 g30 k30
  have b30 := F30.binds (ps := p_told_by) fun _ _ _ _ _ _ us hl => match us, hl with | [_, _], _ => rfl
  have F31 := fun_mk (st := st__law_right) l31 g31 k31
  have b31 := F31.binds (ps := p__law_right) fun _ _ _ _ _ _ us hl => match us, hl with | [_, _], _ => rfl
  have F32 := fun_mk (st := st_law) l32 g32 k32
  have T : Top K mg := {
    d_number_of := ⟨_, _, F0, PySem.W.mg_of X G a0, b0⟩
    d_back_of := ⟨_, _, F1, PySem.W.mg_of X G a1, b1⟩
    d_turns := ⟨_, _, F2, PySem.W.mg_of X G a2, b2⟩
    d_plain := ⟨_, _, F3, PySem.W.mg_of X G a3, b3⟩
    d__law_feed := ⟨_, _, F4, PySem.W.mg_of X G a4, b4⟩
    d__law_draw := ⟨_, _, F5, PySem.W.mg_of X G a5, b5⟩
    d__law_back := ⟨_, _, F6, PySem.W.mg_of X G a6, b6⟩
    d__law_least := ⟨_, _, F7, PySem.W.mg_of X G a7, b7⟩
    d_back := ⟨_, _, F8, PySem.W.mg_of X G a8, b8⟩
    d_reduced := ⟨_, _, F9, PySem.W.mg_of X G a9, b9⟩
    d_least_turn := ⟨_, _, F10, PySem.W.mg_of X G a10, b10⟩
    d_can_slide := ⟨_, _, F11, PySem.W.mg_of X G a11, b11⟩
    d__law_reduced := ⟨_, _, F12, PySem.W.mg_of X G a12, b12⟩
    d__law_surface := ⟨_, _, F13, PySem.W.mg_of X G a13, b13⟩
    d__law_slid := ⟨_, _, F14, PySem.W.mg_of X G a14, b14⟩
    d__law_holes := ⟨_, _, F15, PySem.W.mg_of X G a15, b15⟩
    d_core := ⟨_, _, F16, PySem.W.mg_of X G a16, b16⟩
    d_became := ⟨_, _, F17, PySem.W.mg_of X G a17, b17⟩
    d_ends_of := ⟨_, _, F18, PySem.W.mg_of X G a18, b18⟩
    d_with_word := ⟨_, _, F19, PySem.W.mg_of X G a19, b19⟩
    d_round_of := ⟨_, _, F20, PySem.W.mg_of X G a20, b20⟩
    d__law_middle := ⟨_, _, F21, PySem.W.mg_of X G a21, b21⟩
    d__law_slides := ⟨_, _, F22, PySem.W.mg_of X G a22, b22⟩
    d_mapped := ⟨_, _, F23, PySem.W.mg_of X G a23, b23⟩
    d_slid := ⟨_, _, F24, PySem.W.mg_of X G a24, b24⟩
    d_maps_of := ⟨_, _, F25, PySem.W.mg_of X G a25, b25⟩
    d_holes := ⟨_, _, F26, PySem.W.mg_of X G a26, b26⟩
    d_then := ⟨_, _, F27, PySem.W.mg_of X G a27, b27⟩
    d_way_by := ⟨_, _, F28, PySem.W.mg_of X G a28, b28⟩
    d_handles := ⟨_, _, F29, PySem.W.mg_of X G a29, b29⟩
    d_told_by := ⟨_, _, F30, PySem.W.mg_of X G a30, b30⟩
    d__law_right := ⟨_, _, F31, PySem.W.mg_of X G a31, b31⟩
    z_enumerate := PySem.W.mg_none_of X G z0
    z_int := PySem.W.mg_none_of X G z1
    z_len := PySem.W.mg_none_of X G z2
    z_list := PySem.W.mg_none_of X G z3
    z_max := PySem.W.mg_none_of X G z4
    z_min := PySem.W.mg_none_of X G z5
    z_range := PySem.W.mg_none_of X G z6
    z_set := PySem.W.mg_none_of X G z7
    z_sorted := PySem.W.mg_none_of X G z8
    z_str := PySem.W.mg_none_of X G z9
    z_tuple := PySem.W.mg_none_of X G z10
    c_SMALL := ⟨_, PySem.W.mg_of X G v0, r0⟩
    b_RingError := ⟨A_RingError, PySem.W.mg_of X G ka_RingError, kr_RingError, ks_RingError, ki_RingError⟩
    x_NoSlide := ⟨A_NoSlide, I_NoSlide, _, PySem.W.mg_of X G ka_NoSlide, ⟨⟨nm_NoSlide, qn_NoSlide, N_NoSlide, bs_NoSlide, _, sn_NoSlide, su_NoSlide, ab_NoSlide, co_NoSlide, dd_NoSlide, m0_NoSlide, m1_NoSlide, m2_NoSlide, m3_NoSlide, m5_NoSlide, xL_NoSlide, by show PySem.HandSPX.refsVE [.type "ValueError", .type "Exception", .type "BaseException", .type "object"] = true; decide +kernel⟩, xs_NoSlide, xe_NoSlide, xt_NoSlide, xk_NoSlide⟩, xi_NoSlide, xj_NoSlide, fun f hf => by simp only [List.mem_cons, List.not_mem_nil, or_false] at hf; subst hf <;> assumption, fun_mk (st := st_NoSlide) xl_NoSlide xg_NoSlide xq_NoSlide, (fun_mk (st := st_NoSlide) xl_NoSlide xg_NoSlide xq_NoSlide).binds (ps := n_NoSlide) fun _ _ _ _ _ _ us hl => match us, hl with | [_, _], _ => rfl⟩
  }
  refine ⟨PySem.W.fnOf "law" "law" (defArgs st_law) (defBody st_law) (defScope st_law) .none kV32 dc32 pm32 an32 cd32 cc32, fun s v => .of_eq rfl, fun base _ _ => ?_⟩
  exact ok_all (P := l.prog) (w := w) (base := base) F32 T
end W_k65
namespace W_k65
open PySem PySem.Spec PyProof.Rows L2 GB
theorem low1 {c : Nat} (h : isL c = true) : fLower (.fz (.str [c])) = some (.fz (.str [97 + num c])) := by
  have h := isL_iff.mp h
  have z1 : c < 128 := by omega
  have z2 : lo1 c = 97 + num c := by
    unfold lo1 num
    split <;> split <;> omega
  simp [fLower, lowL, z1, z2]
theorem num_lt {c : Nat} (h : isL c = true) : num c < 6 := by
  have h := isL_iff.mp h
  unfold num
  split <;> omega
theorem number_of_eq {c : Nat} (h : isL c = true) : F_number_of [.fz (.str [c])] = .ok (.fz (.int (num c : Nat))) [.fz (.str [c])] := by
  have l1 := low1 h
  have key : ∀ j, j < 6 → subIx [97 + j] [97, 98, 99, 100, 101, 102] = some j := by
    intro j hj
    rw [subIx_one]
    have : j = 0 ∨ j = 1 ∨ j = 2 ∨ j = 3 ∨ j = 4 ∨ j = 5 := by omega
    rcases this with rfl | rfl | rfl | rfl | rfl | rfl <;> rfl
  have ix : fSIndex (.fz (.str [97, 98, 99, 100, 101, 102])) (.fz (.str [97 + num c])) = some (.fz (.int (num c : Nat))) := by
    show (subIx [97 + num c] [97, 98, 99, 100, 101, 102]).map (fun n => S.fz (.int n)) = _
    rw [key _ (num_lt h)]; rfl
  rw [F_number_of_eq]
  simp only [s_runF, b_number_of]
  simp [l1, ix]
theorem back_of_eq {c : Nat} (h : isL c = true) : F_back_of [.fz (.str [c])] = .ok (.fz (.str [bk c])) [.fz (.str [c])] := by
  have h := isL_iff.mp h
  rw [F_back_of_eq]
  simp [b_back_of, fUpper, fLower, upL, lowL]
  by_cases z : 97 ≤ c ∧ c ≤ 102
  · have z1 : c = 97 ∨ c = 98 ∨ c = 99 ∨ c = 100 ∨ c = 101 ∨ c = 102 := by omega
    have z2 : c < 128 := by omega
    simp [z1, z2, bk, z, up1]
    omega
  · have z1 : ¬ (c = 97 ∨ c = 98 ∨ c = 99 ∨ c = 100 ∨ c = 101 ∨ c = 102) := by omega
    have z2 : c < 128 := by omega
    simp [z1, z2, bk, z, lo1]
    omega
theorem back_eq {w : List Nat} (h : W w) (hl : w.length ≤ 1000000) : F_back [.fz (.str w)] = .ok (.fz (.str (bkw w))) [.fz (.str w)] := by
  rw [F_back_eq]
  have hb : big w.length = true := big_of (by omega)
  have lc : cmpL (gNm 1) eYes ce_back_1 [1] (w.reverse.map sgD) [some (.fz (.str w)), none] [] = .ok ((bkw w).map sgD) [some (.fz (.str w)), none] := by
    rw [cmpL_one (fun d => match d with | .str [c] => .str [bk c] | d => d) (by simp; omega)]
    · unfold bkw
      rw [← List.map_reverse, List.map_map, List.map_map]
      rfl
    · intro d hd
      obtain ⟨c, hc, rfl⟩ := List.mem_map.mp hd
      have hc := h c (List.mem_reverse.mp hc)
      simp [cturn, ce_back_1, back_of_eq hc, sgD]
  have it : itemsOf (.fz (.str w.reverse)) = some (w.reverse.map sgD) := rfl
  have hj := join_sg (cs := bkw w) (by rw [bkw_len]; omega)
  have rv : qRev [.fz (.str w)] = some (.fz (.str w.reverse)) := by simp [qRev, s_orP, fRevS, hb]
  simp [b_back, rv, it, lc, hj, -List.map_reverse]
theorem reduced_turn {c : Nat} (hc : isL c = true) {t : List Nat} (ht : W t) (hl : t.length < 16777216) {x0 : Option S} :
    fb_reduced_1 [x0, some (.ol (t.reverse.map sgD)), some (.fz (.str [c]))] = .nx [x0, some (.ol ((step t c).reverse.map sgD)), some (.fz (.str [c]))] := by
  have bo := back_of_eq hc
  cases t with
  | nil => simp [fb_reduced_1, GB.step, sgD]
  | cons x t =>
    have e : ((x :: t).reverse.map sgD).getLast? = some (.str [x]) := by simp [sgD]
    have e2 : ((x :: t).reverse.map sgD).dropLast = t.reverse.map sgD := by simp
    have e3 : ((x :: t).reverse.map sgD).length = t.length + 1 := by simp
    rw [List.length_cons] at hl
    have e4 : (GB.step (x :: t) c).reverse.map sgD = if x = bk c then t.reverse.map sgD else (x :: t).reverse.map sgD ++ [sgD c] := by
      unfold GB.step
      dsimp only
      split
      · rfl
      · simp
    rw [e4]
    generalize (x :: t).reverse.map sgD = L at *
    by_cases z : x = bk c
    · subst z
      simp [fb_reduced_1, e3, e, e2, bo]
    · simp [fb_reduced_1, e3, e, bo, z, hl]
      rfl
theorem reduced_eq {w : List Nat} (h : W w) (hl : w.length ≤ 1000000) : F_reduced [.fz (.str w)] = .ok (.fz (.str (red w))) [.fz (.str w)] := by
  obtain ⟨r', y, x2, h2, rfl⟩ := forL_inv (fg := gNm 2) (f := fb_reduced_1) (ds := w.map sgD) (r := [some (.fz (.str w)), some (.ol []), none])
    (fun i r => ∃ x2, sf x2 ∧ r = [some (.fz (.str w)), some (.ol ((run [] (w.take i)).reverse.map sgD)), x2]) ⟨none, sf_n, by simp [GB.run]⟩ (by
      rintro i d r hd ⟨x2, h2, rfl⟩
      rw [List.getElem?_map] at hd
      cases e : w[i]? with
      | none => rw [e] at hd; cases hd
      | some c =>
        rw [e] at hd; cases hd
        have hi : i < w.length := lt_of_at e
        have hr := run_len (w.take i) []
        have hc := h c (List.mem_of_getElem? e)
        have e1 : run [] (w.take (i + 1)) = GB.step (run [] (w.take i)) c := by
          rw [List.take_add_one, e, run_app]; rfl
        refine ⟨[some (.fz (.str w)), some (.ol ((run [] (w.take i)).reverse.map sgD)), some (.fz (.str [c]))], ?_, _, .inl (reduced_turn hc (run_w .nil (h.take i)) (by rw [List.length_take] at hr; simp at hr; omega)), _, sf_f, by rw [e1]⟩
        rcases h2 with rfl | ⟨d, rfl⟩ <;> simp [sgD])
  rw [List.length_map, List.take_length] at y
  have lp : (fFor (eCons (eVar 0) eNil) mkSeq (gNm 2) fb_reduced_1) [some (.fz (.str w)), some (.ol []), none] = _ := (for_lfz (i := 0) (d := .str w) (ds := w.map sgD) rfl rfl rfl).trans y
  have hj := join_sg (cs := red w) (by have := red_len w; omega)
  rw [F_reduced_eq]
  unfold red at hj ⊢
  simp only [s_runF, b_reduced]
  simp [-s_fFor, lp, -List.map_reverse, hj]
theorem wt_core {w s : List Nat} (h : W s) (hl : s.length ≤ 1000000) (k : Nat) : wt_core_1 [some (.fz (.str w)), some (.fz (.str s)), some (.fz (.int (k : Nat)))] = .ok (endsUndo s k) [some (.fz (.str w)), some (.fz (.str s)), some (.fz (.int (k : Nat)))] := by
  have hb : big s.length = true := big_of (by omega)
  unfold endsUndo
  by_cases c : 2 * k + 1 < s.length
  · have g1 : k < s.length := by omega
    have g2 : s.length - 1 - k < s.length := by omega
    have a1 : atI s (k : Int) = some s[k] := by rw [atI_n]; exact List.getElem?_eq_getElem g1
    have a2 : atI s ((s.length : Int) - 1 - (k : Int)) = some s[s.length - 1 - k] := by
      rw [show (s.length : Int) - 1 - (k : Int) = ((s.length - 1 - k : Nat) : Int) from by omega, atI_n]
      exact List.getElem?_eq_getElem g2
    have bo := back_of_eq (h _ (List.getElem_mem g2))
    have c' : (1 : Int) < (s.length : Int) - 2 * (k : Int) := by omega
    rw [List.getElem?_eq_getElem g1, List.getElem?_eq_getElem g2]
    simp [wt_core_1, hb, a1, a2, bo, c, c']
  · have c' : ¬ (1 : Int) < (s.length : Int) - 2 * (k : Int) := by omega
    simp [wt_core_1, hb, c, c']
theorem core_while {w s : List Nat} (h : W s) (hl : s.length ≤ 1000000) : ∀ n r, (∃ k : Nat, r = [some (.fz (.str w)), some (.fz (.str s)), some (.fz (.int (k : Nat)))] ∧ coreK s n k = coreN s ∧ n + k = s.length) →
    ∃ r', fWhile wt_core_1 wb_core_1 r = .nx r' ∧ r' = [some (.fz (.str w)), some (.fz (.str s)), some (.fz (.int (coreN s : Nat)))] := by
  refine fWhile_go _ _ ?_
  rintro n r ⟨k, rfl, hk, hn⟩
  have wt := wt_core (w := w) h hl k
  cases c : endsUndo s k with
  | false =>
    rw [c] at wt
    refine .inl ⟨_, wt, ?_⟩
    have : coreK s n k = k := by
      cases n with
      | zero => rfl
      | succ n => unfold coreK; rw [c]; rfl
    rw [← hk, this]
  | true =>
    rw [c] at wt
    have lt := endsUndo_lt c
    cases n with
    | zero => omega
    | succ n =>
      refine .inr ⟨_, [some (.fz (.str w)), some (.fz (.str s)), some (.fz (.int ((k + 1 : Nat) : Nat)))], n, wt, .inl (by simp [wb_core_1]), Nat.lt_succ_self _, k + 1, rfl, ?_, by omega⟩
      rw [← hk]
      conv => rhs; unfold coreK
      rw [c]; rfl
theorem core_eq {w : List Nat} (h : W w) (hl : w.length ≤ 1000000) : F_core [.fz (.str w)] = .ok (.fz (.tup [.str ((red w).take (coreN (red w))), .str (midK (red w) (coreN (red w)))])) [.fz (.str w)] := by
  have r1 := reduced_eq h hl
  have rl := red_len w
  have rw' := red_w h
  generalize red w = s at *
  have hb : big s.length = true := big_of (by omega)
  obtain ⟨r', y, rfl⟩ := core_while (w := w) rw' (by omega) s.length _ ⟨0, rfl, rfl, rfl⟩
  have cn : coreN s ≤ s.length := by
    have key : ∀ n k, n + k = s.length → coreK s n k ≤ s.length := by
      intro n
      induction n with
      | zero => intro k e; unfold coreK; omega
      | succ n ih =>
        intro k e
        unfold coreK
        split
        · exact ih (k + 1) (by omega)
        · omega
    exact key _ _ rfl
  generalize coreN s = k at *
  have s1 := sl_to (w := s) (by omega) k
  have s2 := sl_nn (w := s) (by omega) k (s.length - k)
  have e : ((s.length - k : Nat) : Int) = (s.length : Int) - (k : Int) := by omega
  rw [e] at s2
  have y : fWhile wt_core_1 wb_core_1 [some (.fz (.str w)), some (.fz (.str s)), some (.fz (.int 0))] = _ := y
  rw [F_core_eq]; unfold midK
  simp only [s_runF, b_core]
  simp [r1, y, hb, s1, s2, -List.length_take, -List.length_drop]
theorem turns_turn {w : List Nat} (hl : w.length ≤ 1000000) (k : Nat) : cturn (gNm 1) eYes ce_turns_1 [1] (.int (k : Nat)) [some (.fz (.str w)), none] = some ([.str (rot w k)], [some (.fz (.str w)), none]) := by
  have s1 := sl_to (w := w) (by omega) k
  have s2 := sl_from (w := w) (by omega) k
  have q : big ((w.drop k).length + (w.take k).length) = true := big_of (by rw [List.length_drop, List.length_take]; omega)
  simp [cturn, ce_turns_1, s1, s2, q, rot, -List.length_take, -List.length_drop]
theorem turns_eq {w : List Nat} (hl : w.length ≤ 1000000) : F_turns [.fz (.str w)] = .ok (.ol ((turnsL w).map D.str)) [.fz (.str w)] := by
  have hb : big w.length = true := big_of (by omega)
  have lc : cmpL (gNm 1) eYes ce_turns_1 [1] (upFrom 0 (max 1 w.length)) [some (.fz (.str w)), none] [] = .ok ((turnsL w).map D.str) [some (.fz (.str w)), none] := by
    rw [cmpL_one (fun d => match d with | .int k => .str (rot w k.toNat) | d => d) (by rw [upFrom_len]; omega)]
    · unfold turnsL upFrom
      rw [List.map_map, List.map_map]
      simp
    · intro d hd
      unfold upFrom at hd
      obtain ⟨k, hk, rfl⟩ := List.mem_map.mp hd
      rw [Int.zero_add]
      exact turns_turn hl k
  have mx : (if (w.length : Int) > 1 then (w.length : Int) else 1) = ((max 1 w.length : Nat) : Int) := by split <;> omega
  have el : eLc (eCons (eCall qMax (eCons (eC (.int 1)) (eCons (e1 (p1 fLen) (eVar 0)) eNil))) eNil) mkR1 (gNm 1) eYes ce_turns_1 [1] [some (.fz (.str w)), none] = _ :=
    lc_fz (d := .int ((max 1 w.length : Nat) : Int)) (r1 := [some (.fz (.str w)), none]) (by simp [hb, mx]) (mkR1_n (by omega)) (by simp) lc
  rw [F_turns_eq]
  simp only [s_runF, b_turns]
  simp [-s_eLc, el]
theorem least_turn_eq {w : List Nat} (hl : w.length ≤ 1000000) : F_least_turn [.fz (.str w)] = .ok (.fz (.str (leastTurn w))) [.fz (.str w)] := by
  have t := turns_eq hl
  have m := min1_turns w
  rw [F_least_turn_eq]
  simp only [s_runF, b_least_turn]
  simp [t, m]
theorem feed_eq (ns : List Int) : ∃ k, Feed k ∧ F__law_feed [.fz (.scr (ns.map D.int))] = .ok (.od k) [.fz (.scr (ns.map D.int))] := by
  have fs : fSl (.fz (.scr (ns.map D.int))) (.fz .non) (.fz (.int 63)) = some (.ol ((ns.take 63).map D.int)) := by
    show (asLs (.fz (.scr (ns.map D.int)))).map (fun ds => S.ol (GB.cutD ds none (some 63))) = _
    rw [← cut63]; rfl
  have hf : ∀ n : Nat, fAdd (.ol ((ns.take 63).map D.int)) (.ol (List.replicate n [D.int 0]).flatten) = some (.ol ((ns.take 63 ++ List.replicate n 0).map D.int)) ∨ ¬ n ≤ 1 := by
    intro n
    by_cases hn : n ≤ 1
    · left
      show (if big (((ns.take 63).map D.int).length + ((List.replicate n [D.int 0]).flatten).length) then some (S.ol (((ns.take 63).map D.int) ++ (List.replicate n [D.int 0]).flatten)) else none) = _
      have hl : (ns.take 63).length ≤ 63 := List.length_take_le 63 ns
      rw [if_pos (big_of (by rw [List.length_map, rep_len, List.length_singleton]; omega))]
      have : (List.replicate n [D.int 0]).flatten = (List.replicate n (0 : Int)).map D.int := by
        match n with
        | 0 => rfl
        | 1 => rfl
        | n + 2 => omega
      rw [this, List.map_append]
    · exact .inr hn
  rw [F__law_feed_eq]
  by_cases he : ns = []
  · subst he
    refine ⟨fd [0] 0 0 0, ⟨_, _, _, _, by simp, rfl⟩, ?_⟩
    have h1 := (hf 1).resolve_right (by omega)
    simp at h1 fs
    simp [b__law_feed, eDisp, eKVs, fs, fList, asQ, asLs, asL, fInt1, h1, GB.pairD, keyD]
    rfl
  · have hl : ¬ ns.length = 0 := fun z => he (List.length_eq_zero_iff.mp z)
    have h1 := (hf 0).resolve_right (by omega)
    refine ⟨fd (ns.take 63) 0 0 0, ⟨_, _, _, _, by rw [List.length_take]; omega, rfl⟩, ?_⟩
    simp only [List.replicate_zero, List.append_nil, List.flatten_nil] at h1
    simp [b__law_feed, eDisp, eKVs, fs, fList, asQ, asLs, asL, fInt1, hl, he, GB.pairD, keyD, -List.map_take]
    rw [h1]
    simp [-List.map_take, GB.pairD, keyD]
    rfl
theorem draw_key (cells : List Int) (a b c many : Int) (h0 : 0 < cells.length) (h1 : 0 < many) (h2 : many < 1073741824) (P : FR → Prop) (hP : ∀ x a' b' c', P (.ok (.fz (.int (x % many))) [.bd (fd cells a' b' c'), .fz (.int many)])) :
    P (F__law_draw [.bd (fd cells a b c), .fz (.int many)]) := by
  rw [F__law_draw_eq]
  by_cases hb : b = 0
  · subst hb
    obtain ⟨x, hx, hm⟩ := atI_mod (l := cells.map D.int) (by simpa using h0) a
    rw [List.length_map] at hx
    obtain ⟨y, hy, rfl⟩ := List.mem_map.mp hm
    by_cases z1 : y < 1000000000000000000
    · simp [b__law_draw, h0, h1, h2, fModI, fDivI, fPowI, hx, z1]
      exact hP _ _ _ _
    · simp [b__law_draw, h0, h1, h2, fModI, fDivI, fPowI, hx, z1]
      exact hP _ _ _ _
  · simp [b__law_draw, h0, h1, h2, fModI, fDivI, fPowI, hb]
    exact hP _ _ _ _
theorem draw_eq {k : List (Key × D)} (t : Feed k) {many : Int} (h1 : 0 < many) (h2 : many < 1073741824) : ∃ v k', 0 ≤ v ∧ v < many ∧ Feed k' ∧ F__law_draw [.bd k, .fz (.int many)] = .ok (.fz (.int v)) [.bd k', .fz (.int many)] := by
  obtain ⟨cells, a, b, c, h0, rfl⟩ := t
  refine draw_key cells a b c many h0 h1 h2 (fun z => ∃ v k', 0 ≤ v ∧ v < many ∧ Feed k' ∧ z = .ok (.fz (.int v)) [.bd k', .fz (.int many)]) fun x a' b' c' => ?_
  exact ⟨_, _, Int.emod_nonneg _ (by omega), Int.emod_lt_of_pos _ h1, ⟨cells, a', b', c', h0, rfl⟩, rfl⟩
theorem law_back_turn {c : Nat} (hc : isL c = true) {x0 : Option S} {u : List Nat} (hl : u.length < 1000001) : fb__law_back_1 [x0, some (.fz (.str u)), some (.fz (.str [c]))] = .nx [x0, some (.fz (.str (bk c :: u))), some (.fz (.str [c]))] := by
  have h := isL_iff.mp hc
  have hb : big (1 + u.length) = true := big_of (by omega)
  by_cases z : 97 ≤ c ∧ c ≤ 102
  · have z1 : c = 97 ∨ c = 98 ∨ c = 99 ∨ c = 100 ∨ c = 101 ∨ c = 102 := by omega
    have z2 : c < 128 := by omega
    have z3 : up1 c = c - 32 := by unfold up1; rw [if_pos ⟨z.1, by omega⟩]
    simp [fb__law_back_1, fLower, fUpper, upL, lowL, z1, z2, z3, bk, z, hb]
  · have z1 : ¬ (c = 97 ∨ c = 98 ∨ c = 99 ∨ c = 100 ∨ c = 101 ∨ c = 102) := by omega
    have z2 : c < 128 := by omega
    have z3 : lo1 c = c + 32 := by unfold lo1; rw [if_pos (by omega)]
    simp [fb__law_back_1, fLower, fUpper, upL, lowL, z1, z2, z3, bk, z, hb]
theorem law_back_eq {w : List Nat} (h : W w) (hl : w.length ≤ 1000000) : F__law_back [.fz (.str w)] = .ok (.fz (.str (bkw w))) [.fz (.str w)] := by
  obtain ⟨r', y, x2, h2, rfl⟩ := forL_inv (fg := gNm 2) (f := fb__law_back_1) (ds := w.map sgD) (r := [some (.fz (.str w)), some (.fz (.str [])), none])
    (fun i r => ∃ x2, sf x2 ∧ r = [some (.fz (.str w)), some (.fz (.str (bkw (w.take i)))), x2]) ⟨none, sf_n, rfl⟩ (by
      rintro i d r hd ⟨x2, h2, rfl⟩
      rw [List.getElem?_map] at hd
      cases e : w[i]? with
      | none => rw [e] at hd; cases hd
      | some c =>
        rw [e] at hd; cases hd
        have hc := h c (List.mem_of_getElem? e)
        have e1 : bkw (w.take (i + 1)) = bk c :: bkw (w.take i) := by
          rw [List.take_add_one, e, bkw_app]; rfl
        refine ⟨[some (.fz (.str w)), some (.fz (.str (bkw (w.take i)))), some (.fz (.str [c]))], ?_, _, .inl (law_back_turn hc (by rw [bkw_len, List.length_take]; omega)), _, sf_f, by rw [e1]⟩
        rcases h2 with rfl | ⟨d, rfl⟩ <;> simp [sgD])
  rw [List.length_map, List.take_length] at y
  have lp : (fFor (eCons (eVar 0) eNil) mkSeq (gNm 2) fb__law_back_1) [some (.fz (.str w)), some (.fz (.str [])), none] = _ := (for_lfz (i := 0) (d := .str w) (ds := w.map sgD) rfl rfl rfl).trans y
  rw [F__law_back_eq]
  simp only [s_runF, b__law_back]
  simp [-s_fFor, lp]
end W_k65
namespace W_k65
open PySem PySem.Spec PyProof.Rows L2 GB
theorem lred_turn {c : Nat} (hc : isL c = true) {t : List Nat} (ht : W t) (hl : t.length ≤ 1000000) {x0 : Option S} :
    fb__law_reduced_1 [x0, some (.fz (.str t.reverse)), some (.fz (.str [c]))] = .nx [x0, some (.fz (.str (GB.step t c).reverse)), some (.fz (.str [c]))] := by
  have bo := law_back_eq (w := [c]) (W.cons hc .nil) (by simp)
  have bo : F__law_back [.fz (.str [c])] = .ok (.fz (.str [bk c])) [.fz (.str [c])] := bo
  cases t with
  | nil => simp [fb__law_reduced_1, GB.step]
  | cons x t =>
    rw [List.length_cons] at hl
    have lr : (x :: t).reverse.length = t.length + 1 := by simp
    have hb : big (x :: t).reverse.length = true := big_of (by omega)
    have hb2 : big ((x :: t).reverse.length + 1) = true := big_of (by omega)
    have ne : ¬ (x :: t).reverse = [] := by simp
    have ix : atI (x :: t).reverse (((x :: t).reverse.length : Int) - 1) = some x := by
      rw [show ((x :: t).reverse.length : Int) - 1 = (t.length : Int) from by rw [lr]; omega, atI_n, List.reverse_cons, List.getElem?_append_right (by simp)]
      simp
    have s1 := sl_to (w := (x :: t).reverse) (by omega) ((x :: t).reverse.length - 1)
    have e : (((x :: t).reverse.length - 1 : Nat) : Int) = ((x :: t).reverse.length : Int) - 1 := by omega
    rw [e] at s1
    have tk : (x :: t).reverse.take ((x :: t).reverse.length - 1) = t.reverse := by
      rw [lr, List.reverse_cons, List.take_append_of_le_length (by simp), List.take_of_length_le (by simp)]
    rw [tk] at s1
    have st : (GB.step (x :: t) c).reverse = if x = bk c then t.reverse else (x :: t).reverse ++ [c] := by
      unfold GB.step
      dsimp only
      split
      · rfl
      · simp
    rw [st]
    generalize (x :: t).reverse = L at *
    by_cases z : x = bk c
    · subst z
      simp [fb__law_reduced_1, ne, bo, hb, ix, s1]
    · have z' : ¬ bk c = x := fun e => z e.symm
      simp [fb__law_reduced_1, ne, bo, hb, ix, s1, z, z', hb2]
theorem law_reduced_eq {w : List Nat} (h : W w) (hl : w.length ≤ 1000000) : F__law_reduced [.fz (.str w)] = .ok (.fz (.str (red w))) [.fz (.str w)] := by
  obtain ⟨r', y, x2, h2, rfl⟩ := forL_inv (fg := gNm 2) (f := fb__law_reduced_1) (ds := w.map sgD) (r := [some (.fz (.str w)), some (.fz (.str [])), none])
    (fun i r => ∃ x2, sf x2 ∧ r = [some (.fz (.str w)), some (.fz (.str (run [] (w.take i)).reverse)), x2]) ⟨none, sf_n, by simp [GB.run]⟩ (by
      rintro i d r hd ⟨x2, h2, rfl⟩
      rw [List.getElem?_map] at hd
      cases e : w[i]? with
      | none => rw [e] at hd; cases hd
      | some c =>
        rw [e] at hd; cases hd
        have hr := run_len (w.take i) []
        have hc := h c (List.mem_of_getElem? e)
        have e1' : run [] (w.take (i + 1)) = GB.step (run [] (w.take i)) c := by
          rw [List.take_add_one, e, run_app]; rfl
        refine ⟨[some (.fz (.str w)), some (.fz (.str (run [] (w.take i)).reverse)), some (.fz (.str [c]))], ?_, _, .inl (lred_turn hc (run_w .nil (h.take i)) (by rw [List.length_take] at hr; simp at hr; omega)), _, sf_f, by rw [e1']⟩
        rcases h2 with rfl | ⟨d, rfl⟩ <;> simp [sgD])
  rw [List.length_map, List.take_length] at y
  have lp : (fFor (eCons (eVar 0) eNil) mkSeq (gNm 2) fb__law_reduced_1) [some (.fz (.str w)), some (.fz (.str [])), none] = _ := (for_lfz (i := 0) (d := .str w) (ds := w.map sgD) rfl rfl rfl).trans y
  rw [F__law_reduced_eq]; unfold red
  simp only [s_runF, b__law_reduced]
  simp [-s_fFor, lp]
/-- the map as a value -/
def mapD (cs : List (List Nat)) : D := .tup (cs.map D.str)
/-- words short enough -/
def shortL (B : Nat) (cs : List (List Nat)) : Prop := ∀ w ∈ cs, w.length ≤ B
theorem at_cs {cs : List (List Nat)} {i : Nat} (h : i < cs.length) : (cs.map D.str)[i]? = some (.str (cs.getD i [])) := by
  rw [List.getElem?_map, List.getD_eq_getElem?_getD, List.getElem?_eq_getElem h]; rfl
theorem getD_len {cs : List (List Nat)} {B : Nat} (h : shortL B cs) (i : Nat) : (cs.getD i []).length ≤ B := by
  rw [List.getD_eq_getElem?_getD]
  cases e : cs[i]? with
  | none => exact Nat.zero_le _
  | some w => exact h w (List.mem_of_getElem? e)
theorem became_eq {cs : List (List Nat)} (hw : Ws cs) (hs : shortL 1000000 cs) {c : Nat} (hc : isL c = true) (hn : num c < cs.length) : F_became [.fz (mapD cs), .fz (.str [c])] = .ok (.fz (.str (bec cs c))) [.fz (mapD cs), .fz (.str [c])] := by
  have no := number_of_eq hc
  have at' := at_cs hn
  have bo := back_eq (hw.at (num c)) (getD_len hs (num c))
  have si := small_iff hc
  rw [F_became_eq]; unfold bec mapD
  simp only [s_runF, b_became]
  generalize cs.getD (num c) [] = w at *
  generalize cs.map D.str = L at *
  by_cases z : 97 ≤ c
  · have := si.mpr z
    simp [-List.mem_cons, no, at', bo, z, this, atI_n]
  · have : ¬ c ∈ [97, 98, 99, 100, 101, 102] := fun e => z (si.mp e)
    simp [-List.mem_cons, no, at', bo, z, this, atI_n]
theorem mapped_eq {cs : List (List Nat)} (hw : Ws cs) {B : Nat} (hs : shortL B cs) {w : List Nat} (h : Wm cs.length w) (hl : w.length * B ≤ 100000) (hB : B ≤ 100000) (hlw : w.length ≤ 100000) : F_mapped [.fz (mapD cs), .fz (.str w)] = .ok (.fz (.str (red (sub cs w)))) [.fz (mapD cs), .fz (.str w)] := by
  have hs' : shortL 1000000 cs := fun w hw => by have := hs w hw; omega
  have it : itemsOf (.fz (.str w)) = some (w.map sgD) := rfl
  have lc : cmpL (gNm 2) eYes ce_mapped_1 [2] (w.map sgD) [some (.fz (mapD cs)), some (.fz (.str w)), none] [] = .ok ((w.map (bec cs)).map D.str) [some (.fz (mapD cs)), some (.fz (.str w)), none] := by
    rw [cmpL_one (fun d => match d with | .str [c] => .str (bec cs c) | d => d) (by rw [List.length_map]; omega)]
    · rw [List.map_map, List.map_map]; rfl
    · intro d hd
      obtain ⟨c, hc, rfl⟩ := List.mem_map.mp hd
      have := became_eq hw hs' (h.1 c hc) (h.2 c hc)
      simp [cturn, ce_mapped_1, this, sgD]
  have el := lc_lfz (fs := eCons (eVar 1) eNil) (mk := mkSeq) (r := [some (.fz (mapD cs)), some (.fz (.str w)), none]) (i := 1) (d := .str w) (r1 := [some (.fz (mapD cs)), some (.fz (.str w)), none]) (vs := [2]) (by simp) rfl it (by simp) lc
  have sl := sub_len hs w
  have fl : (w.map (bec cs)).flatten = sub cs w := by unfold sub; rw [List.flatMap_def]
  have jn := join_ws (ws := w.map (bec cs)) (by rw [sum_flat, fl]; omega)
  rw [fl] at jn
  have rd := reduced_eq (sub_w hw w) (by omega)
  generalize (w.map (bec cs)).map D.str = L at *
  generalize sub cs w = u at *
  rw [F_mapped_eq]
  simp only [s_runF, b_mapped]
  simp [-s_eLc, el, jn, rd]
theorem thenL_len (one other : List (List Nat)) : (thenL one other).length = one.length := by unfold thenL; rw [List.length_map]
theorem then_eq {one other : List (List Nat)} (hw : Ws other) {A B : Nat} (hs : shortL B other) (ha : shortL A one) (h1 : ∀ w ∈ one, Wm other.length w) (hl : A * B ≤ 100000) (hA : A ≤ 100000) (hB : B ≤ 100000) (hn : one.length ≤ 1000) : F_then [.fz (mapD one), .fz (mapD other)] = .ok (.fz (mapD (thenL one other))) [.fz (mapD one), .fz (mapD other)] := by
  have lc : cmpL (gNm 2) eYes ce_then_1 [2] (one.map D.str) [some (.fz (mapD one)), some (.fz (mapD other)), none] [] = .ok ((thenL one other).map D.str) [some (.fz (mapD one)), some (.fz (mapD other)), none] := by
    rw [cmpL_one (fun d => match d with | .str w => .str (red (sub other w)) | d => d) (by rw [List.length_map]; omega)]
    · unfold thenL; rw [List.map_map, List.map_map]; rfl
    · intro d hd
      obtain ⟨w, hw', rfl⟩ := List.mem_map.mp hd
      have lw := ha w hw'
      have : w.length * B ≤ A * B := Nat.mul_le_mul lw (Nat.le_refl _)
      have := mapped_eq hw hs (h1 w hw') (by omega) hB (by omega)
      simp [cturn, ce_then_1, this]
  have el := lc_lfz (fs := eCons (eVar 0) eNil) (mk := mkSeq) (r := [some (.fz (mapD one)), some (.fz (mapD other)), none]) (i := 0) (d := mapD one) (r1 := [some (.fz (mapD one)), some (.fz (mapD other)), none]) (vs := [2]) (by simp) rfl rfl (by simp) lc
  have em : mapD (thenL one other) = .tup ((thenL one other).map D.str) := rfl
  rw [em]
  generalize (thenL one other).map D.str = L at *
  generalize mapD one = d1 at *
  generalize mapD other = d2 at *
  rw [F_then_eq]
  simp only [s_runF, b_then]
  simp [-s_eLc, el]
theorem plain_eq {m : Nat} (hm : m ≤ 6) : F_plain [.fz (.int (m : Nat))] = .ok (.fz (mapD (plainL m))) [.fz (.int (m : Nat))] := by
  have s1 := sl_to (w := [97, 98, 99, 100, 101, 102]) (by simp) m
  have it : itemsOf (.fz (.str ([97, 98, 99, 100, 101, 102].take m))) = some (([97, 98, 99, 100, 101, 102].take m).map sgD) := rfl
  have lc : cmpL (gNm 1) eYes ce_plain_1 [1] (([97, 98, 99, 100, 101, 102].take m).map sgD) [some (.fz (.int (m : Nat))), none] [] = .ok ((plainL m).map D.str) [some (.fz (.int (m : Nat))), none] := by
    rw [cmpL_one (fun d => d) (by rw [List.length_map, List.length_take]; simp; omega)]
    · unfold plainL
      rw [List.map_map, List.map_map]; rfl
    · intro d hd
      obtain ⟨c, hc, rfl⟩ := List.mem_map.mp hd
      simp [cturn, ce_plain_1, sgD]
  have el := lc_fz (fs := eCons (eSl (eC (.str [97, 98, 99, 100, 101, 102])) none (some (eVar 0))) eNil) (mk := mkSeq) (r := [some (.fz (.int (m : Nat))), none]) (d := .str ([97, 98, 99, 100, 101, 102].take m)) (r1 := [some (.fz (.int (m : Nat))), none]) (vs := [1]) (by simp [s1]) it (by simp) lc
  rw [F_plain_eq]; unfold mapD
  generalize (plainL m).map D.str = L at *
  simp only [s_runF, b_plain]
  simp [-s_eLc, el]
end W_k65
namespace W_k65
open PySem PySem.Spec PyProof.Rows L2 GB
theorem lmid_turn {w s : List Nat} (h : W s) (hl : s.length ≤ 1000000) : wt__law_middle_1 [some (.fz (.str w)), some (.fz (.str s))] = .ok (endsUndo s 0) [some (.fz (.str w)), some (.fz (.str s))] ∧
    (endsUndo s 0 = true → wb__law_middle_1 [some (.fz (.str w)), some (.fz (.str s))] = .nx [some (.fz (.str w)), some (.fz (.str ((s.take (s.length - 1)).drop 1)))]) := by
  have hb : big s.length = true := big_of (by omega)
  unfold endsUndo
  by_cases c : 1 < s.length
  · have g1 : 0 < s.length := by omega
    have g2 : s.length - 1 < s.length := by omega
    have a1 : s[0]? = some s[0] := List.getElem?_eq_getElem g1
    have a2 : atI s ((s.length : Int) - 1) = some s[s.length - 1] := by
      rw [show (s.length : Int) - 1 = ((s.length - 1 : Nat) : Int) from by omega, atI_n]
      exact List.getElem?_eq_getElem g2
    have bo := law_back_eq (w := [s[s.length - 1]]) (W.cons (h _ (List.getElem_mem g2)) .nil) (by simp)
    have bo : F__law_back [.fz (.str [s[s.length - 1]])] = .ok (.fz (.str [bk s[s.length - 1]])) [.fz (.str [s[s.length - 1]])] := bo
    have c' : (1 : Int) < (s.length : Int) := by omega
    have s2 := sl_nn (w := s) (by omega) 1 (s.length - 1)
    have e : ((s.length - 1 : Nat) : Int) = (s.length : Int) - 1 := by omega
    rw [e] at s2
    have s2 : fSl (.fz (.str s)) (.fz (.int 1)) (.fz (.int ((s.length : Int) - 1))) = _ := s2
    rw [List.getElem?_eq_getElem (show s.length - 1 - 0 < s.length from by omega), a1]
    constructor
    · simp [wt__law_middle_1, hb, a1, a2, bo, c, c']
    · intro _
      simp [wb__law_middle_1, hb, a1, a2, s2, -List.length_take, -List.length_drop, -List.drop_one]
  · have c' : ¬ (1 : Int) < (s.length : Int) := by omega
    have c2 : ¬ 2 * 0 + 1 < s.length := by omega
    constructor
    · simp [wt__law_middle_1, hb, c, c', c2]
    · intro z
      rw [decide_eq_false c2] at z
      cases z
theorem undo_mid {s : List Nat} {k : Nat} (h : 2 * k ≤ s.length) : endsUndo (midK s k) 0 = endsUndo s k := by
  unfold endsUndo
  rw [midK_len]
  by_cases c : 2 * k + 1 < s.length
  · have c2 : 2 * 0 + 1 < s.length - 2 * k := by omega
    rw [midK_at (by omega), midK_at (by omega)]
    have e : k + (s.length - 2 * k - 1 - 0) = s.length - 1 - k := by omega
    rw [e, decide_eq_true c, decide_eq_true c2, Nat.add_zero]
  · have c2 : ¬ 2 * 0 + 1 < s.length - 2 * k := by omega
    rw [decide_eq_false c, decide_eq_false c2]; rfl
theorem lmid_while {w s : List Nat} (h : W s) (hl : s.length ≤ 1000000) : ∀ n r, (∃ k : Nat, r = [some (.fz (.str w)), some (.fz (.str (midK s k)))] ∧ coreK s n k = coreN s ∧ n + k = s.length ∧ 2 * k ≤ s.length) →
    ∃ r', fWhile wt__law_middle_1 wb__law_middle_1 r = .nx r' ∧ r' = [some (.fz (.str w)), some (.fz (.str (midK s (coreN s))))] := by
  refine fWhile_go _ _ ?_
  rintro n r ⟨k, rfl, hk, hn, h2⟩
  obtain ⟨wt, wb⟩ := lmid_turn (w := w) (midK_w h k) (by rw [midK_len]; omega)
  rw [undo_mid h2] at wt wb
  cases c : endsUndo s k with
  | false =>
    rw [c] at wt
    refine .inl ⟨_, wt, ?_⟩
    have : coreK s n k = k := by
      cases n with
      | zero => rfl
      | succ n => unfold coreK; rw [c]; rfl
    rw [← hk, this]
  | true =>
    rw [c] at wt
    have lt := endsUndo_lt c
    cases n with
    | zero => omega
    | succ n =>
      have wb := wb c
      rw [midK_succ] at wb
      refine .inr ⟨_, _, n, wt, .inl wb, Nat.lt_succ_self _, k + 1, rfl, ?_, by omega, by omega⟩
      rw [← hk]
      conv => rhs; unfold coreK
      rw [c]; rfl
theorem lmid_eq {w : List Nat} (h : W w) (hl : w.length ≤ 1000000) : F__law_middle [.fz (.str w)] = .ok (.fz (.str (midK (red w) (coreN (red w))))) [.fz (.str w)] := by
  have r1 := law_reduced_eq h hl
  have rl := red_len w
  have rw' := red_w h
  generalize red w = s at *
  have m0 : midK s 0 = s := by unfold midK; simp
  obtain ⟨r', y, rfl⟩ := lmid_while (w := w) rw' (by omega) s.length _ ⟨0, rfl, rfl, rfl, by omega⟩
  rw [m0] at y
  rw [F__law_middle_eq]
  simp only [s_runF, b__law_middle]
  simp [r1, y]
theorem way_by_eq {cs : List (List Nat)} (hw : Ws cs) {B : Nat} (hs : shortL B cs) {w : List Nat} (h : Wm cs.length w) (hl : w.length * B ≤ 100000) (hB : B ≤ 1000) (hlw : w.length ≤ 100000) : F_way_by [.fz (mapD cs), .fz (.str w)] = .ok (.fz (.str (leastTurn (midK (red (red (sub cs w))) (coreN (red (red (sub cs w)))))))) [.fz (mapD cs), .fz (.str w)] := by
  have sl := sub_len hs w
  have a1 := mapped_eq hw hs h hl (by omega) (by omega)
  have wu := red_w (sub_w hw w)
  have lu := red_len (sub cs w)
  generalize red (sub cs w) = u at *
  have a2 := core_eq wu (by omega)
  have lr := red_len u
  have a3 := least_turn_eq (w := midK (red u) (coreN (red u))) (by rw [midK_len]; omega)
  generalize midK (red u) (coreN (red u)) = q at *
  rw [F_way_by_eq]
  simp only [s_runF, b_way_by]
  simp [a1, a2, a3]
theorem least_run_turn {w : List Nat} (hl : w.length ≤ 1000000) (k : Nat) : cturn (gNm 1) eYes ce__law_least_1 [1] (.int (k : Nat)) [some (.fz (.str w)), none] = some ([.str (rot w k)], [some (.fz (.str w)), none]) := by
  have s1 := sl_to (w := w) (by omega) k
  have s2 := sl_from (w := w) (by omega) k
  have q : big ((w.drop k).length + (w.take k).length) = true := big_of (by rw [List.length_drop, List.length_take]; omega)
  simp [cturn, ce__law_least_1, s1, s2, q, rot, -List.length_take, -List.length_drop]
theorem law_least_eq {w : List Nat} (hl : w.length ≤ 1000000) : F__law_least [.fz (.str w)] = .ok (.fz (.str (leastTurn w))) [.fz (.str w)] := by
  have hb : big w.length = true := big_of (by omega)
  have lc : cmpL (gNm 1) eYes ce__law_least_1 [1] (upFrom 0 (max 1 w.length)) [some (.fz (.str w)), none] [] = .ok ((turnsL w).map D.str) [some (.fz (.str w)), none] := by
    rw [cmpL_one (fun d => match d with | .int k => .str (rot w k.toNat) | d => d) (by rw [upFrom_len]; omega)]
    · unfold turnsL upFrom
      rw [List.map_map, List.map_map]
      simp
    · intro d hd
      unfold upFrom at hd
      obtain ⟨k, hk, rfl⟩ := List.mem_map.mp hd
      rw [Int.zero_add]
      exact least_run_turn hl k
  have ef : eCons (e2 (p2 fAdd) (e1 (p1 fLen) (eVar 0)) (e1 (p1 fInt1) (e2 (p2 fEq) (eVar 0) (eC (.str []))))) eNil [some (.fz (.str w)), none] = .ok [.val (.fz (.int ((max 1 w.length : Nat) : Int)))] [some (.fz (.str w)), none] := by
    by_cases z : w = []
    · subst z
      simp [fInt1]
    · have : 1 ≤ w.length := List.length_pos_iff.mpr z
      have e : ((max 1 w.length : Nat) : Int) = (w.length : Int) := by omega
      rw [e]
      simp [hb, z, fInt1]
  have el := lc_fz (fs := eCons (e2 (p2 fAdd) (e1 (p1 fLen) (eVar 0)) (e1 (p1 fInt1) (e2 (p2 fEq) (eVar 0) (eC (.str []))))) eNil) (mk := mkR1) (r := [some (.fz (.str w)), none]) (r1 := [some (.fz (.str w)), none]) (vs := [1]) ef (mkR1_n (by omega)) (by simp) lc
  have m := min1_turns w
  generalize (turnsL w).map D.str = L at *
  rw [F__law_least_eq]
  simp only [s_runF, b__law_least]
  simp [-s_eLc, el, m]
end W_k65
namespace W_k65
open PySem PySem.Spec PyProof.Rows L2 GB
theorem erase_perm {l : List Nat} {j : Nat} (h : j < l.length) : (l[j] :: l.eraseIdx j).Perm l := by
  induction l generalizing j with
  | nil => simp at h
  | cons a l ih =>
    cases j with
    | zero => exact List.Perm.refl _
    | succ j =>
      have h : j < l.length := by simpa using h
      exact (List.Perm.swap a l[j] (l.eraseIdx j)).trans ((ih h).cons a)
theorem erase_map {α β : Type} (f : α → β) : ∀ (l : List α) (n : Nat), (l.map f).eraseIdx n = (l.eraseIdx n).map f
  | [], _ => rfl
  | _ :: _, 0 => rfl
  | a :: l, n + 1 => congrArg (f a :: ·) (erase_map f l n)
theorem surf_turn {k : List (Key × D)} (t : Feed k) {u left : List Nat} (hu : u.length ≤ 100) (h0 : 0 < left.length) (h1 : left.length ≤ 100) {m d : D} : ∃ k' c left', Feed k' ∧ (c :: left').Perm left ∧
    fb__law_surface_1 [some (.bd k), some (.fz m), some (.ol (left.map sgD)), some (.fz (.str u)), some (.fz d)] = .nx [some (.bd k'), some (.fz m), some (.ol (left'.map sgD)), some (.fz (.str (u ++ [c]))), some (.fz d)] := by
  obtain ⟨v, k', g0, hv, t', y⟩ := draw_eq t (many := (left.length : Int)) (by omega) (by omega)
  obtain ⟨n, rfl⟩ := Int.eq_ofNat_of_zero_le g0
  have hn : n < left.length := by omega
  refine ⟨k', left[n], left.eraseIdx n, t', erase_perm hn, ?_⟩
  have hx : ixN (left.map sgD).length (n : Int) = some n := by rw [List.length_map]; exact ixN_n hn
  have a1 : (left.map sgD)[n]? = some (sgD left[n]) := by rw [List.getElem?_map, List.getElem?_eq_getElem hn]; rfl
  have pp : fPopAt (left.map sgD) [.int (n : Nat)] = some ((left.eraseIdx n).map sgD, sgD left[n]) := by
    unfold fPopAt
    dsimp only
    rw [if_pos (by rw [List.length_map]; exact decide_eq_true (by omega)), hx]
    dsimp only
    rw [a1, erase_map]; rfl
  have hb : big (u.length + 1) = true := big_of (by omega)
  have hb2 : big left.length = true := big_of (by omega)
  simp [fb__law_surface_1, hb2, y, pp, sgD, hb]
theorem surf_go {m : Nat} (h6 : m ≤ 6) {k : List (Key × D)} (t : Feed k) {d0 : Option S} (hd0 : sf d0) : ∃ k' w x, Feed k' ∧ sf x ∧ w.Perm (sgn m) ∧
    forL (gNm 4) fb__law_surface_1 (upFrom 0 (2 * m)) [some (.bd k), some (.fz (.int (m : Nat))), some (.ol ((sgn m).map sgD)), some (.fz (.str [])), d0] = .nx [some (.bd k'), some (.fz (.int (m : Nat))), some (.ol []), some (.fz (.str w)), x] := by
  have hl := sgn_len h6
  obtain ⟨r', y, k', u, left, x, t', hx, hp, hu, hlen, rfl⟩ := forL_inv (fg := gNm 4) (f := fb__law_surface_1) (ds := upFrom 0 (2 * m)) (r := [some (.bd k), some (.fz (.int (m : Nat))), some (.ol ((sgn m).map sgD)), some (.fz (.str [])), d0])
    (fun i r => ∃ k u left x, Feed k ∧ sf x ∧ (u ++ left).Perm (sgn m) ∧ u.length = i ∧ left.length + i = 2 * m ∧ r = [some (.bd k), some (.fz (.int (m : Nat))), some (.ol (left.map sgD)), some (.fz (.str u)), x])
    ⟨k, [], sgn m, d0, t, hd0, List.Perm.refl _, rfl, by omega, rfl⟩ (by
      rintro i d r hd ⟨k, u, left, x, t, hx, hp, hu, hlen, rfl⟩
      have hi : i < 2 * m := by
        have := lt_of_at hd
        rw [upFrom_len] at this
        omega
      obtain ⟨k', c, left', t', hp', y⟩ := surf_turn (u := u) (left := left) t (by omega) (by omega) (by omega) (m := .int (m : Nat)) (d := d)
      refine ⟨_, by rcases hx with rfl | ⟨z, rfl⟩ <;> simp, _, .inl y, k', u ++ [c], left', _, t', .inr ⟨_, rfl⟩, ?_, by simp [hu], ?_, rfl⟩
      · rw [List.append_assoc]
        exact (List.Perm.append_left u hp').trans hp
      · have := hp'.length_eq
        simp at this; omega)
  rw [upFrom_len] at hlen hu
  have e0 : left = [] := List.length_eq_zero_iff.mp (by omega)
  subst e0
  rw [List.append_nil] at hp
  exact ⟨k', u, x, t', hx, hp, y⟩
theorem surf_run {k k' : List (Key × D)} {mi : Int} {a b : List Nat} {ls : List D} {w : List Nat} {x : Option S}
    (e1' : fSl (.fz (.str [97, 98, 99, 100, 101, 102])) (.fz .non) (.fz (.int mi)) = some (.fz (.str a))) (e2' : fSl (.fz (.str [65, 66, 67, 68, 69, 70])) (.fz .non) (.fz (.int mi)) = some (.fz (.str b))) (e3' : fAdd (.fz (.str a)) (.fz (.str b)) = some (.fz (.str (a ++ b)))) (e4' : fListU (.fz (.str (a ++ b))) = some (.ol ls))
    (e5' : fFor (eCons (e2 qMul (eC (.int 2)) (eVar 1)) eNil) mkR1 (gNm 4) fb__law_surface_1 [some (.bd k), some (.fz (.int mi)), some (.ol ls), some (.fz (.str [])), none] = .nx [some (.bd k'), some (.fz (.int mi)), some (.ol []), some (.fz (.str w)), x]) :
    F__law_surface [.bd k, .fz (.int mi)] = .ok (.fz (.str w)) [.bd k', .fz (.int mi)] := by
  rw [F__law_surface_eq]
  simp [b__law_surface, e1', e2', e3', e4', e5', -s_fFor, -s_addS]
theorem surface_eq {m : Nat} (h6 : m ≤ 6) {k : List (Key × D)} (t : Feed k) : ∃ k' w, Feed k' ∧ w.Perm (sgn m) ∧ F__law_surface [.bd k, .fz (.int (m : Nat))] = .ok (.fz (.str w)) [.bd k', .fz (.int (m : Nat))] := by
  obtain ⟨k', w, x, t', hx, hp, y⟩ := surf_go h6 t (d0 := none) (.inl rfl)
  have e1' : fSl (.fz (.str [97, 98, 99, 100, 101, 102])) (.fz .non) (.fz (.int (m : Nat))) = some (.fz (.str ([97, 98, 99, 100, 101, 102].take m))) := sl_to (by simp) m
  have e2' : fSl (.fz (.str [65, 66, 67, 68, 69, 70])) (.fz .non) (.fz (.int (m : Nat))) = some (.fz (.str ([65, 66, 67, 68, 69, 70].take m))) := sl_to (by simp) m
  have ea : fAdd (.fz (.str ([97, 98, 99, 100, 101, 102].take m))) (.fz (.str ([65, 66, 67, 68, 69, 70].take m))) = some (.fz (.str (sgn m))) := by
    rw [s_addS, if_pos (big_of (by simp; omega))]; rfl
  have el : fListU (.fz (.str (sgn m))) = some (.ol ((sgn m).map sgD)) := by
    show (if big (sgn m).length then some (S.ol ((sgn m).map fun c => D.str [c])) else none) = _
    rw [if_pos (big_of (by rw [sgn_len h6]; omega))]; rfl
  refine ⟨k', w, t', hp, surf_run (x := x) e1' e2' ea el ?_⟩
  rw [← y]
  exact for_r1 (n := 2 * m) (by simp) (by omega)
end W_k65
namespace W_k65
open PySem PySem.Spec PyProof.Rows L2 GB
def setL (m e : Nat) (v : List Nat) : List (List Nat) := (plainL m).set (num e) (if 97 ≤ e then v else bkw v)
theorem plainL_len {m : Nat} (h : m ≤ 6) : (plainL m).length = m := by unfold plainL; rw [List.length_map, List.length_take]; simp; omega
theorem setL_w {m e : Nat} {v : List Nat} (hv : W v) : Ws (setL m e v) := fun u hu => by
  rcases List.mem_or_eq_of_mem_set hu with h | h
  · exact plainL_w m u h
  · subst h
    split
    · exact hv
    · exact hv.bkw
theorem setL_len {m e : Nat} {v : List Nat} (h : m ≤ 6) : (setL m e v).length = m := by unfold setL; rw [List.length_set, plainL_len h]
theorem setL_short {m e : Nat} {v : List Nat} {B : Nat} (h1 : 1 ≤ B) (h2 : v.length ≤ B) : shortL B (setL m e v) := fun u hu => by
  rcases List.mem_or_eq_of_mem_set hu with h | h
  · obtain ⟨c, _, rfl⟩ := List.mem_map.mp h
    simpa using h1
  · subst h
    split
    · exact h2
    · rw [bkw_len]; exact h2
theorem in_small {e : Nat} (h : isL e = true) : (e = 97 ∨ e = 98 ∨ e = 99 ∨ e = 100 ∨ e = 101 ∨ e = 102) ↔ 97 ≤ e := by
  have h := isL_iff.mp h
  omega
theorem put_run {mi k : Int} {e : Nat} {v x : List Nat} {ls ls' : List D}
    (p1' : F_plain [.fz (.int mi)] = .ok (.fz (.tup ls)) [.fz (.int mi)]) (he : isL e = true) (e2' : F_back [.fz (.str v)] = .ok (.fz (.str x)) [.fz (.str v)])
    (e3' : F_number_of [.fz (.str [e])] = .ok (.fz (.int k)) [.fz (.str [e])]) (e4' : mPut (.ol ls) [.str (if 97 ≤ e then v else x), .int k] = some (.ol ls', .non)) :
    F_with_word [.fz (.int mi), .fz (.str [e]), .fz (.str v)] = .ok (.fz (.tup ls')) [.fz (.int mi), .fz (.str [e]), .fz (.str v)] := by
  have fl : fList (.fz (.tup ls)) = some (.ol ls) := rfl
  have hs := in_small he
  rw [F_with_word_eq]
  by_cases c : e = 97 ∨ e = 98 ∨ e = 99 ∨ e = 100 ∨ e = 101 ∨ e = 102
  · rw [if_pos (hs.mp c)] at e4'; simp [b_with_word, p1', c, e2', e3', e4', fl, -s_putO]
  · rw [if_neg (fun z => c (hs.mpr z))] at e4'; simp [b_with_word, p1', c, e2', e3', e4', fl, -s_putO]
theorem with_word_eq {m e : Nat} {v : List Nat} (hm : m ≤ 6) (he : isL e = true) (hn : num e < m) (hv : W v) (hl : v.length ≤ 1000) :
    F_with_word [.fz (.int (m : Nat)), .fz (.str [e]), .fz (.str v)] = .ok (.fz (mapD (setL m e v))) [.fz (.int (m : Nat)), .fz (.str [e]), .fz (.str v)] := by
  refine put_run (plain_eq hm) he (back_eq hv (by omega)) (number_of_eq he) ?_
  have e : ((plainL m).map D.str).length = m := by rw [List.length_map, plainL_len hm]
  rw [s_putO, e, ixN_n hn]
  show some (S.ol (((plainL m).map D.str).set (num _) _), D.non) = _
  unfold setL
  rw [List.map_set]
theorem can_eq {w : List Nat} {p q : Nat} {s : Int} {e f : Nat} (hl : w.length ≤ 1000) (hp : w[p]? = some e) (hq : ((p : Int) + s) % (w.length : Int) = (q : Nat)) (hf : w[q]? = some f) (he : isL e = true) :
    F_can_slide [.fz (.str w), .fz (.tup [.int (p : Nat), .int s])] = .ok (.fz (.bl (!decide (f = bk e)))) [.fz (.str w), .fz (.tup [.int (p : Nat), .int s])] := by
  have hb : big w.length = true := big_of (by omega)
  have hlt := lt_of_at hp
  have hw : 0 < w.length := by omega
  have a1 : atI w (p : Int) = some e := by rw [atI_n]; exact hp
  have a2 : atI w (q : Int) = some f := by rw [atI_n]; exact hf
  have b1 := back_of_eq he
  rw [F_can_slide_eq]
  have c1 : (p : Int) < (w.length : Int) := by omega
  simp [b_can_slide, hb, c1, fModI, hw, hq, a1, a2, b1]
theorem ends_eq {w : List Nat} {p q : Nat} {s n : Int} {e f : Nat} (hl : w.length ≤ 1000) (hp : w[p]? = some e) (hq : ((p : Int) + s) % (w.length : Int) = (q : Nat)) (hf : w[q]? = some f) (he : isL e = true) (hne : f ≠ bk e) :
    F_ends_of [.fz (.str w), .fz (.tup [.int (p : Nat), .int s]), .fz (.int n)] = .ok (.fz (.tup [.str [e], .str [f]])) [.fz (.str w), .fz (.tup [.int (p : Nat), .int s]), .fz (.int n)] := by
  have hb : big w.length = true := big_of (by omega)
  have hlt := lt_of_at hp
  have hw : 0 < w.length := by omega
  have a1 : atI w (p : Int) = some e := by rw [atI_n]; exact hp
  have a2 : atI w (q : Int) = some f := by rw [atI_n]; exact hf
  have b1 := can_eq hl hp hq hf he
  rw [decide_eq_false hne] at b1
  rw [F_ends_of_eq]
  simp [b_ends_of, hb, fModI, hw, hq, a1, a2, b1]
theorem maps_run {w : List Nat} {ds : List D} {mi : Int} {e f g : Nat} {x y : D} (hb : big w.length = true) (hm : (w.length : Int) / 2 = mi) (e1' : F_ends_of [.fz (.str w), .fz (.tup ds), .fz (.int 0)] = .ok (.fz (.tup [.str [e], .str [f]])) [.fz (.str w), .fz (.tup ds), .fz (.int 0)])
    (b1 : F_back_of [.fz (.str [f])] = .ok (.fz (.str [g])) [.fz (.str [f])]) (e2' : F_with_word [.fz (.int mi), .fz (.str [e]), .fz (.str [f, e])] = .ok (.fz x) [.fz (.int mi), .fz (.str [e]), .fz (.str [f, e])]) (e3' : F_with_word [.fz (.int mi), .fz (.str [e]), .fz (.str [g, e])] = .ok (.fz y) [.fz (.int mi), .fz (.str [e]), .fz (.str [g, e])]) :
    F_maps_of [.fz (.str w), .fz (.tup ds)] = .ok (.fz (.tup [x, y])) [.fz (.str w), .fz (.tup ds)] := by
  rw [F_maps_of_eq]
  simp [b_maps_of, e1', hb, fDivI, hm, b1, e2', e3']
theorem bk_L {c : Nat} (h : isL c = true) : isL (bk c) = true := by
  have h := isL_iff.mp h
  refine isL_iff.mpr ?_
  unfold bk
  split <;> omega
theorem maps_eq {w : List Nat} {p q m : Nat} {s : Int} {e f : Nat} (hm : m ≤ 6) (hl : w.length = 2 * m) (hp : w[p]? = some e) (hq : ((p : Int) + s) % (w.length : Int) = (q : Nat)) (hf : w[q]? = some f) (he : isL e = true) (hn : num e < m) (hfL : isL f = true) (hne : f ≠ bk e) :
    F_maps_of [.fz (.str w), .fz (.tup [.int (p : Nat), .int s])] = .ok (.fz (.tup [mapD (setL m e [f, e]), mapD (setL m e [bk f, e])])) [.fz (.str w), .fz (.tup [.int (p : Nat), .int s])] :=
  maps_run (mi := (m : Nat)) (big_of (by omega)) (by rw [hl]; omega) (ends_eq (by omega) hp hq hf he hne) (back_of_eq hfL) (with_word_eq hm he hn (W.cons hfL (W.cons he .nil)) (by simp)) (with_word_eq hm he hn (W.cons (bk_L hfL) (W.cons he .nil)) (by simp))
end W_k65
namespace W_k65
open PySem PySem.Spec PyProof.Rows L2 GB
theorem bk_bk {c : Nat} (h : isL c = true) : bk (bk c) = c := by
  have h := isL_iff.mp h
  unfold bk
  split <;> split <;> omega
theorem num_same {c e : Nat} (hc : isL c = true) (he : isL e = true) (h : num c = num e) : c = e ∨ c = bk e := by
  have hc := isL_iff.mp hc
  have he := isL_iff.mp he
  unfold num at h
  unfold bk
  split at h <;> split at h <;> split <;> omega
theorem bec_set {m e c : Nat} {v : List Nat} (hm : m ≤ 6) (he : isL e = true) (hn : num e < m) (hc : isL c = true) (hcn : num c < m) (hv : W v) : bec (setL m e v) c = if num c = num e then (if c = e then v else bkw v) else [c] := by
  have hc' := isL_iff.mp hc
  have he' := isL_iff.mp he
  by_cases q : num c = num e
  · rw [if_pos q]
    have at1 : (setL m e v).getD (num c) [] = if 97 ≤ e then v else bkw v := by
      unfold setL
      rw [q, List.getD_eq_getElem?_getD, List.getElem?_set_self (by rw [plainL_len hm]; exact hn)]; rfl
    unfold bec
    rw [at1]
    rcases num_same hc he q with rfl | rfl
    · rw [if_pos rfl]
      split
      · rfl
      · exact bkw_bkw hv
    · have ne : bk e ≠ e := by unfold bk; split <;> omega
      rw [if_neg ne]
      by_cases z : 97 ≤ e
      · have : ¬ 97 ≤ bk e := by unfold bk; split <;> omega
        rw [if_pos z, if_neg this]
      · have : 97 ≤ bk e := by unfold bk; split <;> omega
        rw [if_neg z, if_pos this]
  · rw [if_neg q]
    have at1 : (setL m e v).getD (num c) [] = (plainL m).getD (num c) [] := by
      unfold setL
      rw [List.getD_eq_getElem?_getD, List.getElem?_set_ne (fun z => q z.symm), ← List.getD_eq_getElem?_getD]
    have := sub_plain hm (w := [c]) ⟨W.cons hc .nil, fun d hd => by rw [List.mem_singleton] at hd; subst hd; exact hcn⟩
    rw [sub_cons, sub_nil, List.append_nil] at this
    unfold bec at this ⊢
    rw [at1]; exact this
/-- a slide's map, then the other one: each letter is what it was -/
theorem undo_letter {m e f c : Nat} (hm : m ≤ 6) (he : isL e = true) (hn : num e < m) (hf : isL f = true) (hfn : num f < m) (hne : num f ≠ num e) (hc : isL c = true) (hcn : num c < m) :
    red (sub (setL m e [bk f, e]) (bec (setL m e [f, e]) c)) = [c] := by
  have w1 : W [f, e] := W.cons hf (W.cons he .nil)
  have w2 : W [bk f, e] := W.cons (bk_L hf) (W.cons he .nil)
  have hs := setL_w (m := m) (e := e) w2
  have b1 : bec (setL m e [bk f, e]) f = [f] := by rw [bec_set hm he hn hf hfn w2, if_neg hne]
  have b2 : bec (setL m e [bk f, e]) e = [bk f, e] := by rw [bec_set hm he hn he hn w2, if_pos rfl, if_pos rfl]
  have s1 : sub (setL m e [bk f, e]) [f, e] = [f] ++ ([bk f, e] ++ []) := by rw [sub_cons, sub_cons, sub_nil, b1, b2]
  have r1 : red (sub (setL m e [bk f, e]) [f, e]) = [e] := by
    rw [s1]
    have e9 : [f] ++ ([bk f, e] ++ []) = ([f] ++ bkw [f]) ++ [e] := rfl
    rw [e9, ← red_l ((W.cons hf .nil).app (W.cons hf .nil).bkw) (W.cons he .nil), red_back (W.cons hf .nil)]
    rfl
  rw [bec_set hm he hn hc hcn w1]
  by_cases q : num c = num e
  · rw [if_pos q]
    rcases num_same hc he q with rfl | rfl
    · rw [if_pos rfl]; exact r1
    · have ne : bk e ≠ e := by
        have he' := isL_iff.mp he
        unfold bk; split <;> omega
      rw [if_neg ne, sub_bkw hs w1, ← red_bkw (sub_w hs _), r1]
      rfl
  · rw [if_neg q, sub_cons, sub_nil, List.append_nil, bec_set hm he hn hc hcn w2, if_neg q]
    rfl
theorem undo_word {A B : List (List Nat)} {m : Nat} (hA : Ws A) (hB : Ws B) (h : ∀ c, isL c = true → num c < m → red (sub B (bec A c)) = [c]) : ∀ {w : List Nat}, Wm m w → red (sub B (red (sub A w))) = red w := by
  have key : ∀ {w : List Nat}, Wm m w → red (sub B (sub A w)) = red w := by
    intro w
    induction w with
    | nil => intro _; rfl
    | cons c w ih =>
      rintro ⟨h1, h2⟩
      have hc := h c h1.head (h2 c (List.mem_cons_self ..))
      have ih := ih ⟨h1.tail, fun d hd => h2 d (List.mem_cons_of_mem _ hd)⟩
      rw [sub_cons, sub_app, ← red_l (sub_w hB _) (sub_w hB _), hc, ← red_r (W.cons h1.head .nil) (sub_w hB _), ih, red_r (W.cons h1.head .nil) h1.tail]
      rfl
  intro w hw
  rw [sub_red hB (sub_w hA w)]
  exact key hw
end W_k65
namespace W_k65
open PySem PySem.Spec PyProof.Rows L2 GB
/-- a row of signs, each with its back -/
structure Row (w : List Nat) : Prop where
  let' : w.all isL = true
  bk : ∀ c ∈ w, bk c ∈ w
  pos : 0 < w.length
  len : w.length ≤ 1000
def ch (w : List Nat) (g : Nat) : Nat := w.getD ((g + 1) % w.length) 0
def nx (w : List Nat) (g : Nat) : Nat := w.findIdx (· == bk (ch w g))
/-- a round: the ends that are left, the word -/
def rnd (w : List Nat) : Nat → List Bool → Nat → List Nat → List Bool × List Nat
  | 0, ls, _, a => (ls, a)
  | f + 1, ls, g, a => if ls.getD g false then rnd w f (ls.set g false) (nx w g) (a ++ [ch w g]) else (ls, a)
section
variable {w : List Nat} (R : Row w)
include R
theorem Row.ch_get (g : Nat) : w[(g + 1) % w.length]? = some (ch w g) := by
  have h := Nat.mod_lt (g + 1) R.pos
  unfold ch
  rw [List.getD_eq_getElem?_getD, List.getElem?_eq_getElem h]
  rfl
theorem Row.ch_mem (g : Nat) : ch w g ∈ w := List.mem_of_getElem? (R.ch_get g)
theorem Row.nx_get (g : Nat) : subIx [GB.bk (ch w g)] w = some (nx w g) ∧ nx w g < w.length := by
  have hm := R.bk _ (R.ch_mem g)
  have h : nx w g < w.length := List.findIdx_lt_length_of_exists ⟨_, hm, by simp⟩
  refine ⟨?_, h⟩
  rw [subIx_one]
  exact List.findIdx?_eq_some_of_exists ⟨_, hm, by simp⟩
theorem Row.isL (g : Nat) : isL (ch w g) = true := List.all_eq_true.mp R.let' _ (R.ch_mem g)
end
theorem cnt_set {ls : List Bool} {g : Nat} (h : ls.getD g false = true) : (ls.set g false).count true + 1 = ls.count true ∧ g < ls.length := by
  rw [List.getD_eq_getElem?_getD] at h
  have hg : g < ls.length := by
    by_cases z : g < ls.length
    · exact z
    · rw [List.getElem?_eq_none (by omega)] at h; cases h
  rw [List.getElem?_eq_getElem hg] at h
  have h : ls[g] = true := h
  have hp : 0 < ls.count true := List.count_pos_iff.mpr (h ▸ List.getElem_mem hg)
  refine ⟨?_, hg⟩
  rw [List.count_set hg]
  simp [h]
  omega
theorem round_while {w : List Nat} (R : Row w) (fin : List Bool × List Nat) : ∀ k r, (∃ ls g a x4, r = [some (.fz (.str w)), some (.fz (.int (g : Nat))), some (.br (ls.map D.bl)), some (.fz (.str a)), x4] ∧ (x4 = none ∨ ∃ d, x4 = some (.fz d)) ∧ ls.length = w.length ∧ g < w.length ∧ ls.count true < k ∧ a.length + ls.count true ≤ w.length ∧ rnd w k ls g a = fin) →
    ∃ r', fWhile wt_round_of_1 wb_round_of_1 r = .nx r' ∧ ∃ g x4, r' = [some (.fz (.str w)), some (.fz (.int (g : Nat))), some (.br (fin.1.map D.bl)), some (.fz (.str fin.2)), x4] := by
  refine fWhile_go _ _ ?_
  rintro k r ⟨ls, g, a, x4, rfl, hx, hl, hg, hk, ha, hf⟩
  have hb : big w.length = true := decide_eq_true (by have := R.len; omega)
  have hb2 : big (a.length + 1) = true := decide_eq_true (by have := R.len; omega)
  obtain ⟨k, rfl⟩ : ∃ j, k = j + 1 := ⟨k - 1, by omega⟩
  have at1 : atI (ls.map D.bl) (g : Int) = some (.bl (ls.getD g false)) := by
    rw [atI_n, List.getElem?_map, List.getD_eq_getElem?_getD, List.getElem?_eq_getElem (by omega)]
    rfl
  rw [rnd] at hf
  cases e : ls.getD g false with
  | false =>
    rw [e] at hf at1
    simp only [Bool.false_eq_true, if_false] at hf
    subst hf
    exact .inl ⟨_, by simp [wt_round_of_1, at1], g, x4, rfl⟩
  | true =>
    rw [e] at hf at1
    rw [if_pos rfl] at hf
    obtain ⟨c1, c2⟩ := cnt_set e
    obtain ⟨n1, n2⟩ := R.nx_get g
    have ix : ixN ls.length (g : Int) = some g := ixN_n (by omega)
    have hm : (((g : Int) + 1) % (w.length : Int)) = (((g + 1) % w.length : Nat) : Int) := by simp
    have hp : (0 : Int) < (w.length : Int) := by have := R.pos; omega
    have at2 : atI w (((g : Int) + 1) % (w.length : Int)) = some (ch w g) := by rw [hm, atI_n]; exact R.ch_get g
    have bq : F_back [.fz (.str [ch w g])] = .ok (.fz (.str [bk (ch w g)])) [.fz (.str [ch w g])] := back_eq (W1 (R.isL g)) (by simp)
    refine .inr ⟨_, [some (.fz (.str w)), some (.fz (.int (nx w g : Nat))), some (.br ((ls.set g false).map D.bl)), some (.fz (.str (a ++ [ch w g]))), some (.fz (.str [ch w g]))], k, by simp [wt_round_of_1, at1]; rfl, .inl ?_, Nat.lt_succ_self k, ls.set g false, nx w g, a ++ [ch w g], _, rfl, .inr ⟨_, rfl⟩, by rw [List.length_set]; exact hl, n2, by omega, by rw [List.length_append, List.length_singleton]; omega, hf⟩
    rcases hx with rfl | ⟨d, rfl⟩ <;> simp [wb_round_of_1, ix, hb, hb2, fModI, R.pos, at2, bq, fSIndex, n1, List.map_set]
theorem round_of_eq {w : List Nat} (R : Row w) {ls : List Bool} {g : Nat} (hl : ls.length = w.length) (hg : g < w.length) :
    F_round_of [.fz (.str w), .fz (.int g), .br (ls.map D.bl)] = .ok (.fz (.str (rnd w (w.length + 1) ls g []).2)) [.fz (.str w), .fz (.int g), .br ((rnd w (w.length + 1) ls g []).1.map D.bl)] := by
  rw [F_round_of_eq]
  have hc := List.count_le_length (a := true) (l := ls)
  obtain ⟨r', e1, g', x4, rfl⟩ := round_while R (rnd w (w.length + 1) ls g []) (w.length + 1) _ ⟨ls, g, [], none, rfl, .inl rfl, hl, hg, by omega, by simp; omega, rfl⟩
  simp [b_round_of, e1]
theorem rnd_len (w : List Nat) : ∀ f ls g a, (rnd w f ls g a).1.length = ls.length
  | 0, _, _, _ => rfl
  | f + 1, ls, g, a => by
    rw [rnd]
    split
    · rw [rnd_len w f, List.length_set]
    · rfl
def hstep (w : List Nat) (z : List Bool × List (List Nat)) (g : Nat) : List Bool × List (List Nat) :=
  ((rnd w (w.length + 1) z.1 g []).1, if (rnd w (w.length + 1) z.1 g []).2 = [] then z.2 else z.2 ++ [(rnd w (w.length + 1) z.1 g []).2])
def hfold (w : List Nat) (n : Nat) : List Bool × List (List Nat) := (List.range n).foldl (hstep w) (List.replicate w.length true, [])
theorem hfold_len (w : List Nat) : ∀ n, (hfold w n).1.length = w.length ∧ (hfold w n).2.length ≤ n
  | 0 => ⟨by simp [hfold], by simp [hfold]⟩
  | n + 1 => by
    have ih := hfold_len w n
    unfold hfold
    rw [range_foldl_succ]
    refine ⟨by show (rnd w _ _ _ _).1.length = _; rw [rnd_len]; exact ih.1, ?_⟩
    show (if _ then (hfold w n).2 else (hfold w n).2 ++ [_]).length ≤ n + 1
    split
    · omega
    · rw [List.length_append, List.length_singleton]; omega
theorem holes_lc {w : List Nat} (R : Row w) : cmpL (gNm 5) eYes ce_holes_2 [5] (w.map fun c => D.str [c]) [some (.fz (.str w)), none, none, none, none, none] [] = .ok ((List.replicate w.length true).map D.bl) [some (.fz (.str w)), none, none, none, none, none] := by
  rw [cmpL_one (fun _ => D.bl true) (by have := R.len; rw [List.length_map]; omega)]
  · rw [List.map_map, List.map_replicate]
    show Rs.ok (List.map (fun _ => D.bl true) w) _ = _
    rw [List.map_const']
  · intro d hd
    simp [cturn, ce_holes_2]
theorem holes_turn {w : List Nat} (R : Row w) {i : Nat} (hi : i < w.length) {x3 x4 : Option S} (h4 : sf x4) :
    fb_holes_1 [some (.fz (.str w)), some (.ol ((hfold w i).1.map D.bl)), some (.ol ((hfold w i).2.map D.str)), some (.fz (.int (i : Nat))), x4, none] =
      .nx [some (.fz (.str w)), some (.ol ((hfold w (i + 1)).1.map D.bl)), some (.ol ((hfold w (i + 1)).2.map D.str)), some (.fz (.int (i : Nat))), some (.fz (.str (rnd w (w.length + 1) (hfold w i).1 i []).2)), none] := by
  have hl := hfold_len w i
  have ro := round_of_eq R hl.1 hi
  have e1 : (hfold w (i + 1)) = hstep w (hfold w i) i := range_foldl_succ ..
  have hk : (hfold w i).2.length < 16777216 := by have := R.len; omega
  rw [e1]
  unfold hstep
  by_cases hw : (rnd w (w.length + 1) (hfold w i).1 i []).2 = []
  · rcases h4 with rfl | ⟨d, rfl⟩ <;> simp [fb_holes_1, ro, hw]
  · rcases h4 with rfl | ⟨d, rfl⟩ <;> simp [fb_holes_1, ro, hw, fApp, hk]
theorem holes_for {w : List Nat} (R : Row w) : ∃ r', forL (gNm 3) fb_holes_1 (upFrom 0 w.length) [some (.fz (.str w)), some (.ol ((List.replicate w.length true).map D.bl)), some (.ol []), none, none, none] = .nx r' ∧
    ∃ x3 x4, r' = [some (.fz (.str w)), some (.ol ((hfold w w.length).1.map D.bl)), some (.ol ((hfold w w.length).2.map D.str)), x3, x4, none] := by
  obtain ⟨r', e, x3, x4, h3, h4, h5⟩ := forL_inv (fg := gNm 3) (f := fb_holes_1) (ds := upFrom 0 w.length) (r := [some (.fz (.str w)), some (.ol ((List.replicate w.length true).map D.bl)), some (.ol []), none, none, none])
    (fun i r => ∃ x3 x4, sf x3 ∧ sf x4 ∧ r = [some (.fz (.str w)), some (.ol ((hfold w i).1.map D.bl)), some (.ol ((hfold w i).2.map D.str)), x3, x4, none]) ⟨none, none, sf_n, sf_n, rfl⟩ (by
      rintro i d r hd ⟨x3, x4, h3, h4, rfl⟩
      obtain ⟨hi, rfl⟩ := upFrom_get hd
      refine ⟨_, ?_, _, .inl (holes_turn R hi (x3 := x3) h4), _, _, sf_f, sf_f, rfl⟩
      rcases h3 with rfl | ⟨d, rfl⟩ <;> simp)
  rw [upFrom_len] at h5
  exact ⟨r', e, x3, x4, h5⟩
theorem holes_eq {w : List Nat} (R : Row w) : F_holes [.fz (.str w)] = .ok (.ol ((hfold w w.length).2.map D.str)) [.fz (.str w)] := by
  rw [F_holes_eq]
  have hb : big w.length = true := big_of (by have := R.len; omega)
  obtain ⟨r', e, x3, x4, rfl⟩ := holes_for R
  have lc := holes_lc R
  have lp : (fFor (eCons (e1 (GB.p1 fLen) (eVar 0)) eNil) mkR1 (gNm 3) fb_holes_1) [some (.fz (.str w)), some (.ol ((List.replicate w.length true).map D.bl)), some (.ol []), none, none, none] = _ := (for_r1 (n := w.length) (by simp [hb]) (by have := R.len; omega)).trans e
  simp [b_holes, itemsOf, lc, -s_fFor, -List.map_replicate, lp]
end W_k65
namespace W_k65
open PySem PySem.Spec PyProof.Rows L2 GB
/-- a row of signs, each once, with its back -/
structure RowN (w : List Nat) : Prop where
  row : Row w
  nd : w.Nodup
  two : 2 ≤ w.length
/-- what follows a sign round the row; what follows a letter round a hole -/
def sc (w : List Nat) (c : Nat) : Nat := ch w (w.findIdx (· == c))
def ph (w : List Nat) (c : Nat) : Nat := sc w (GB.bk c)
theorem ph_ch (w : List Nat) (g : Nat) : ph w (ch w g) = ch w (nx w g) := rfl
section
variable {w : List Nat} (R : RowN w)
include R
theorem RowN.find {c : Nat} (hc : c ∈ w) : w.findIdx (· == c) < w.length ∧ w[w.findIdx (· == c)]? = some c := by
  have h : w.findIdx (· == c) < w.length := List.findIdx_lt_length_of_exists ⟨_, hc, by simp⟩
  refine ⟨h, ?_⟩
  rw [List.getElem?_eq_getElem h]
  have : (w[w.findIdx (· == c)] == c) = true := List.findIdx_getElem (w := h)
  exact congrArg some (eq_of_beq this)
theorem RowN.at_nx (g : Nat) : w[nx w g]? = some (GB.bk (ch w g)) := (R.find (R.row.bk _ (R.row.ch_mem g))).2
theorem RowN.next_lt {g : Nat} (hg : g < w.length) : (g + 1) % w.length = if g + 1 = w.length then 0 else g + 1 := by
  split
  · rename_i e; rw [e, Nat.mod_self]
  · exact Nat.mod_eq_of_lt (by omega)
theorem RowN.ch_inj {g x : Nat} (hg : g < w.length) (hx : x < w.length) (e : ch w g = ch w x) : g = x := by
  have c1 := R.row.ch_get g
  have c2 := R.row.ch_get x
  rw [e, ← c2] at c1
  have := (List.getElem?_inj (Nat.mod_lt _ R.row.pos) R.nd).mp c1
  rw [R.next_lt hg, R.next_lt hx] at this
  split at this <;> split at this <;> omega
theorem RowN.inj {g x : Nat} (hg : g < w.length) (hx : x < w.length) (e : nx w g = nx w x) : g = x := by
  have h1 := R.at_nx g
  have h2 := R.at_nx x
  rw [e, h2] at h1
  exact (R.ch_inj hx hg (bk_inj (R.row.isL x) (R.row.isL g) (by injection h1))).symm
/-- behind a letter no letter stands that is its back -/
theorem RowN.ph_ne {c : Nat} (hc : c ∈ w) : ph w c ≠ GB.bk c := by
  intro e
  obtain ⟨hn, h1⟩ := R.find (R.row.bk c hc)
  have h2 := R.row.ch_get (w.findIdx (· == GB.bk c))
  have two := R.two
  rw [show ch w (w.findIdx (· == GB.bk c)) = GB.bk c from e, ← h1] at h2
  have := (List.getElem?_inj (Nat.mod_lt _ R.row.pos) R.nd).mp h2
  rw [R.next_lt hn] at this
  split at this <;> omega
end
theorem lk_ix {f : Nat → Nat} : ∀ {s : List Nat} {x e : Nat}, (∀ (i a b : Nat), (x :: s)[i]? = some a → (s ++ [e])[i]? = some b → f a = b) → Lk f x s e
  | [], x, e, h => h 0 x e rfl rfl
  | y :: s, x, e, h => ⟨h 0 x y rfl rfl, lk_ix fun i a b ha hb => h (i + 1) a b (by simpa using ha) (by simpa using hb)⟩
theorem RowN.sc_at {w : List Nat} (R : RowN w) {i : Nat} {a : Nat} (h : w[i]? = some a) : sc w a = ch w i := by
  have hi : i < w.length := lt_of_at h
  obtain ⟨h1, h2⟩ := R.find (List.mem_of_getElem? h)
  have : w.findIdx (· == a) = i := (List.getElem?_inj h1 R.nd).mp (h2.trans h.symm)
  unfold sc
  rw [this]
theorem RowN.ring {w : List Nat} (R : RowN w) : CD (sc w) w [w] := by
  refine ⟨fun u hu => ?_, by simp⟩
  rw [List.mem_singleton] at hu
  subst hu
  cases u with
  | nil => exact absurd R.two (by simp)
  | cons x s =>
    refine ⟨x, s, rfl, lk_ix fun i a b ha hb => ?_⟩
    rw [R.sc_at ha]
    have hi : i < (x :: s).length := lt_of_at ha
    have c := R.row.ch_get i
    rw [R.next_lt hi] at c
    rw [List.length_cons] at hi c
    split at c
    · rename_i e
      have : i = s.length := by omega
      subst this
      rw [List.getElem?_append_right (by omega)] at hb
      simp at hb c
      rw [← hb, ← c]
    · rw [List.getElem?_cons_succ] at c
      rw [List.getElem?_append_left (by omega), c] at hb
      exact Option.some.inj hb
end W_k65
namespace W_k65
open PySem PySem.Spec PyProof.Rows L2 GB
theorem filter_gain {p q : Nat → Bool} {g : Nat} : ∀ {l : List Nat}, l.Nodup → g ∈ l → p g = false → q g = true → (∀ x, x ≠ g → q x = p x) → (l.filter q).Perm (g :: l.filter p)
  | [], _, h, _, _, _ => nomatch h
  | a :: l, nd, h, pg, qg, ho => by
    obtain ⟨na, nl⟩ := List.nodup_cons.mp nd
    by_cases e : a = g
    · subst e
      rw [List.filter_cons_of_pos qg, List.filter_cons_of_neg (by rw [pg]; simp)]
      have : l.filter q = l.filter p := by
        have : ∀ m : List Nat, a ∉ m → m.filter q = m.filter p := fun m => by
          induction m with
          | nil => intro _; rfl
          | cons b m ih =>
            intro hb
            have nb : b ≠ a := fun z => hb (by rw [z]; exact List.mem_cons_self ..)
            rw [List.filter_cons, List.filter_cons, ho b nb, ih fun z => hb (List.mem_cons_of_mem _ z)]
        exact this l na
      rw [this]
    · have hg : g ∈ l := (List.mem_cons.mp h).resolve_left fun z => e z.symm
      have ih := filter_gain nl hg pg qg ho
      cases c : p a with
      | true =>
        rw [List.filter_cons_of_pos (by rw [ho a e, c]), List.filter_cons_of_pos c]
        exact (ih.cons a).trans (List.Perm.swap ..)
      | false =>
        rw [List.filter_cons_of_neg (by rw [ho a e, c]; simp), List.filter_cons_of_neg (by rw [c]; simp)]
        exact ih
/-- the letters that were met -/
def Vis (w : List Nat) (ls : List Bool) (fl : List Nat) : Prop := fl.Perm (((List.range w.length).filter fun g => !ls.getD g false).map (ch w))
theorem getD_set {ls : List Bool} {g x : Nat} (hg : g < ls.length) : (ls.set g false).getD x false = if g = x then false else ls.getD x false := by
  rw [List.getD_eq_getElem?_getD, List.getD_eq_getElem?_getD]
  by_cases z : g = x
  · subst z; rw [List.getElem?_set_self hg, if_pos rfl]; rfl
  · rw [List.getElem?_set_ne z, if_neg z]
theorem Vis.step {w : List Nat} {ls : List Bool} {fl : List Nat} (h : Vis w ls fl) (hl : ls.length = w.length) {g : Nat} (hg : g < w.length) (e : ls.getD g false = true) : Vis w (ls.set g false) (fl ++ [ch w g]) := by
  have f := filter_gain (p := fun g => !ls.getD g false) (q := fun x => !(ls.set g false).getD x false) (g := g) (l := List.range w.length) List.nodup_range (List.mem_range.mpr hg) (by rw [e]; rfl) (by rw [getD_set (by omega), if_pos rfl]; rfl) (fun x hx => by rw [getD_set (by omega), if_neg fun z => hx z.symm])
  have f2 := f.map (ch w)
  unfold Vis at *
  refine List.Perm.trans ?_ f2.symm
  rw [List.map_cons]
  exact (List.perm_append_comm (l₁ := fl) (l₂ := [ch w g])).trans (h.cons _)
def ShutB (w : List Nat) (ls : List Bool) (g0 : Nat) : Prop := ∀ x, x < w.length → ls.getD x false = true → nx w x ≠ g0 → ls.getD (nx w x) false = true
def Shut (w : List Nat) (ls : List Bool) : Prop := ∀ x, x < w.length → ls.getD x false = true → ls.getD (nx w x) false = true
/-- a round so far -/
def Way (w : List Nat) (ls : List Bool) (g0 g : Nat) (a : List Nat) : Prop :=
  (a = [] ∧ g = g0) ∨ ∃ s, a = ch w g0 :: s ∧ Lk (ph w) (ch w g0) s (ch w g) ∧ ∃ p, p < w.length ∧ nx w p = g ∧ ls.getD p false = false
theorem rnd_way {w : List Nat} (R : RowN w) {g0 : Nat} (h0 : g0 < w.length) (F : List Nat) : ∀ (f : Nat) (ls : List Bool) (g : Nat) (a : List Nat), ls.length = w.length → g < w.length → ShutB w ls g0 → (g ≠ g0 → ls.getD g false = true) → Way w ls g0 g a → Vis w ls (F ++ a) → ls.count true < f →
    ShutB w (rnd w f ls g a).1 g0 ∧ Way w (rnd w f ls g a).1 g0 g0 (rnd w f ls g a).2 ∧ Vis w (rnd w f ls g a).1 (F ++ (rnd w f ls g a).2) ∧ (∀ x, ls.getD x false = false → (rnd w f ls g a).1.getD x false = false) ∧ (rnd w f ls g a).1.getD g false = false
  | 0, _, _, _, _, _, _, _, _, _, hf => absurd hf (by omega)
  | f + 1, ls, g, a, hl, hg, hA, hC, hP, hV, hf => by
    rw [rnd]
    by_cases e : ls.getD g false = true
    · rw [if_pos e]
      obtain ⟨c1, c2⟩ := cnt_set e
      have hn := (R.row.nx_get g).2
      have pred : g = g0 ∨ ∃ p, p < w.length ∧ nx w p = g ∧ ls.getD p false = false := by
        rcases hP with ⟨_, h⟩ | ⟨_, _, _, h⟩
        · exact .inl h
        · exact .inr h
      have sA : ShutB w (ls.set g false) g0 := fun x hx lx nx0 => by
        rw [getD_set c2] at lx ⊢
        split at lx
        · cases lx
        · have := hA x hx lx nx0
          rw [if_neg, this]
          intro z
          rcases pred with rfl | ⟨p, hp, np, lp⟩
          · exact nx0 z.symm
          · have : p = x := R.inj hp hx (np.trans z)
            subst this
            rw [lp] at lx; cases lx
      have sC : nx w g ≠ g0 → (ls.set g false).getD (nx w g) false = true := fun ne => by
        have := hA g hg e ne
        rw [getD_set c2, if_neg, this]
        intro z
        rcases pred with rfl | ⟨p, hp, np, lp⟩
        · exact ne z.symm
        · have : p = g := R.inj hp hg (np.trans z)
          subst this
          rw [lp] at e; cases e
      have lg : (ls.set g false).getD g false = false := by rw [getD_set c2, if_pos rfl]
      have sP : Way w (ls.set g false) g0 (nx w g) (a ++ [ch w g]) := by
        rcases hP with ⟨rfl, rfl⟩ | ⟨s, rfl, l, _⟩
        · exact .inr ⟨[], rfl, ph_ch w g, g, hg, rfl, lg⟩
        · exact .inr ⟨s ++ [ch w g], rfl, lk_app.mpr ⟨l, ph_ch w g⟩, g, hg, rfl, lg⟩
      have sV : Vis w (ls.set g false) (F ++ (a ++ [ch w g])) := by rw [← List.append_assoc]; exact hV.step hl hg e
      have ih := rnd_way R h0 F f (ls.set g false) (nx w g) (a ++ [ch w g]) (by rw [List.length_set]; exact hl) hn sA sC sP sV (by omega)
      exact ⟨ih.1, ih.2.1, ih.2.2.1, fun x hx => ih.2.2.2.1 x (by rw [getD_set c2]; split <;> first | rfl | exact hx), ih.2.2.2.1 g lg⟩
    · rw [if_neg e]
      have eg : g = g0 := by
        by_cases z : g = g0
        · exact z
        · exact absurd (hC z) e
      subst eg
      exact ⟨hA, hP, hV, fun _ h => h, by simpa using e⟩
theorem hfold_way {w : List Nat} (R : RowN w) : ∀ n, n ≤ w.length → Shut w (hfold w n).1 ∧ (∀ u ∈ (hfold w n).2, Orb (ph w) u) ∧ (hfold w n).1.length = w.length ∧ Vis w (hfold w n).1 (hfold w n).2.flatten ∧ ∀ g, g < n → (hfold w n).1.getD g false = false
  | 0, _ => by
    refine ⟨fun x hx h => ?_, (fun u hu => nomatch hu), by simp [hfold], ?_, fun g hg => absurd hg (by omega)⟩
    · have hn := (R.row.nx_get x).2
      show (List.replicate w.length true).getD (nx w x) false = true
      rw [List.getD_eq_getElem?_getD, List.getElem?_replicate, if_pos hn]; rfl
    · have : (List.range w.length).filter (fun g => !(List.replicate w.length true).getD g false) = [] := by
        rw [List.filter_eq_nil_iff]
        intro g hg
        rw [List.getD_eq_getElem?_getD, List.getElem?_replicate, if_pos (List.mem_range.mp hg)]
        simp
      show ([] : List Nat).Perm (((List.range w.length).filter (fun g => !(List.replicate w.length true).getD g false)).map (ch w))
      rw [this]
      exact List.Perm.refl _
  | n + 1, hn => by
    obtain ⟨s1, s2, s3, s4, s5⟩ := hfold_way R n (by omega)
    have e1' : (hfold w (n + 1)) = hstep w (hfold w n) n := range_foldl_succ ..
    have hc := List.count_le_length (a := true) (l := (hfold w n).1)
    obtain ⟨c1, c2, c3, c4, c5⟩ := rnd_way R (g0 := n) (by omega) (hfold w n).2.flatten (w.length + 1) (hfold w n).1 n [] s3 (by omega) (fun x hx lx _ => s1 x hx lx) (fun z => absurd rfl z) (.inl ⟨rfl, rfl⟩) (by rw [List.append_nil]; exact s4) (by omega)
    have rl := rnd_len w (w.length + 1) (hfold w n).1 n []
    have same : (rnd w (w.length + 1) (hfold w n).1 n []).2 = [] → (hfold w n).1.getD n false ≠ true := fun z e => by
      have ge : ∀ (f : Nat) (ls : List Bool) (g : Nat) (a : List Nat), a.length ≤ (rnd w f ls g a).2.length := fun f => by
        induction f with
        | zero => intro ls g a; exact Nat.le_refl _
        | succ f ih =>
          intro ls g a
          rw [rnd]
          split
          · have := ih (ls.set g false) (nx w g) (a ++ [ch w g])
            rw [List.length_append] at this
            omega
          · exact Nat.le_refl _
      rw [rnd, if_pos e] at z
      have := ge w.length ((hfold w n).1.set n false) (nx w n) ([] ++ [ch w n])
      rw [z] at this
      simp at this
    have keep : (hfold w n).1.getD n false ≠ true → (rnd w (w.length + 1) (hfold w n).1 n []).1 = (hfold w n).1 := fun e => by rw [rnd, if_neg e]
    rw [e1']
    unfold hstep
    dsimp only
    by_cases hz : (rnd w (w.length + 1) (hfold w n).1 n []).2 = []
    · rw [if_pos hz]
      have k := keep (same hz)
      rw [hz, List.append_nil] at c3
      rw [k] at c3 c4 c5 ⊢
      refine ⟨s1, s2, s3, s4, fun g hg => ?_⟩
      by_cases z : g = n
      · rw [z]; exact c5
      · exact s5 g (by omega)
    · rw [if_neg hz]
      generalize rnd w (w.length + 1) (hfold w n).1 n [] = z at *
      obtain ⟨ls, u⟩ := z
      dsimp only at *
      rcases c2 with ⟨z, _⟩ | ⟨s, rfl, l, p, hp, np, lp⟩
      · exact absurd z hz
      · refine ⟨fun x hx lx => ?_, fun v hv => ?_, by rw [rl]; exact s3, ?_, fun g hg => ?_⟩
        · refine c1 x hx lx fun e => ?_
          have : p = x := R.inj hp hx (np.trans e.symm)
          subst this
          rw [lp] at lx; cases lx
        · rcases List.mem_append.mp hv with hv | hv
          · exact s2 v hv
          · rw [List.mem_singleton] at hv
            subst hv
            exact ⟨_, s, rfl, l⟩
        · rw [List.flatten_append, List.flatten_cons, List.flatten_nil, List.append_nil]
          exact c3
        · by_cases z : g = n
          · rw [z]; exact c5
          · exact c4 g (s5 g (by omega))
theorem RowN.all_ch {w : List Nat} (R : RowN w) : ((List.range w.length).map (ch w)).Perm w := by
  have nd : ((List.range w.length).map (ch w)).Nodup := List.Pairwise.map _ (fun a b h => h) (by
    refine List.Pairwise.imp_of_mem ?_ (List.nodup_range (n := w.length))
    intro a b ha hb ne e
    exact ne (R.ch_inj (List.mem_range.mp ha) (List.mem_range.mp hb) e))
  refine (List.perm_ext_iff_of_nodup nd R.nd).mpr fun c => ⟨fun h => ?_, fun h => ?_⟩
  · obtain ⟨g, _, rfl⟩ := List.mem_map.mp h
    exact R.row.ch_mem g
  · obtain ⟨i, hi⟩ := List.getElem?_of_mem h
    have hl : i < w.length := lt_of_at hi
    refine List.mem_map.mpr ⟨if i = 0 then w.length - 1 else i - 1, List.mem_range.mpr (by split <;> omega), ?_⟩
    have c0 := R.row.ch_get (if i = 0 then w.length - 1 else i - 1)
    rw [R.next_lt (by split <;> omega)] at c0
    have : (if (if i = 0 then w.length - 1 else i - 1) + 1 = w.length then 0 else (if i = 0 then w.length - 1 else i - 1) + 1) = i := by
      by_cases z : i = 0
      · rw [if_pos z, if_pos (by omega)]; exact z.symm
      · rw [if_neg z, if_neg (by omega)]; omega
    rw [this, hi] at c0
    exact (Option.some.inj c0).symm
/-- the words round the holes -/
abbrev hol (w : List Nat) : List (List Nat) := (hfold w w.length).2
theorem RowN.holes {w : List Nat} (R : RowN w) : CD (ph w) w (hol w) := by
  obtain ⟨_, s2, s3, s4, s5⟩ := hfold_way R w.length (Nat.le_refl _)
  refine ⟨s2, ?_⟩
  have : (List.range w.length).filter (fun g => !(hfold w w.length).1.getD g false) = List.range w.length := by
    rw [List.filter_eq_self]
    intro g hg
    rw [s5 g (List.mem_range.mp hg)]; rfl
  unfold Vis at s4
  rw [this] at s4
  exact s4.trans R.all_ch
end W_k65
namespace W_k65
open PySem PySem.Spec PyProof.Rows L2 GB
theorem sort_alike {A B : List (List Nat)} (h : A.Perm B) : sortT A = sortT B := sortT_of ((sortT_perm A).trans h) (sortT_pw A)
theorem cd_perm {f : Nat → Nat} {X Y : List Nat} {A : List (List Nat)} (c : CD f X A) (h : X.Perm Y) : CD f Y A := ⟨c.1, c.2.trans h⟩
theorem RowN.orb {w : List Nat} (R : RowN w) : Orb (sc w) w := R.ring.1 w (List.mem_singleton.mpr rfl)
theorem RowN.hol_W {w : List Nat} (R : RowN w) {u : List Nat} (hu : u ∈ hol w) : (∀ c ∈ u, c ∈ w) ∧ u ≠ [] ∧ u.length ≤ w.length := by
  have inW : ∀ c ∈ u, c ∈ w := fun c hc => R.holes.2.mem_iff.mp (List.mem_flatten.mpr ⟨_, hu, hc⟩)
  obtain ⟨x, s, rfl, _⟩ := R.holes.1 u hu
  refine ⟨inW, by simp, ?_⟩
  have : ∀ A : List (List Nat), ∀ u ∈ A, u.length ≤ A.flatten.length := fun A => by
    induction A with
    | nil => intro u h; cases h
    | cons a A ih =>
      intro u h
      rw [List.flatten_cons, List.length_append]
      rcases List.mem_cons.mp h with rfl | h
      · omega
      · have := ih u h; omega
  have := this _ _ hu
  rw [R.holes.2.length_eq] at this
  exact this
end W_k65
namespace W_k65
open PySem PySem.Spec PyProof.Rows L2 GB
theorem ne_self {ds : List D} (h : ∀ d ∈ ds, eqT d) : fNe (.ol ds) (.ol ds) = some (.fz (.bl false)) := by
  have e := GB.eq_self h
  unfold fEq at e
  unfold fNe
  cases c : eqS (.ol ds) (.ol ds) with
  | none => rw [c] at e; cases e
  | some b =>
    rw [c] at e
    have : b = true := by injection e with e; injection e with e; injection e
    subst this
    rfl
theorem eqT_ws {ws : List (List Nat)} (h : ∀ u ∈ ws, W u) : ∀ d ∈ ws.map D.str, eqT d := fun d hd => by
  obtain ⟨u, hu, rfl⟩ := List.mem_map.mp hd
  exact (eqL_w (h u hu)).T
def hands (k n : Nat) : Int := (1 + (k : Int) - (n : Int)) / 2
theorem hd_gen {fh : Fs} {w : List Nat} {HW : List D} {n k m r1 : Int} (ln : fLen (.fz (.str w)) = some (.fz (.int n))) (d1 : fDivI n 2 = some (.fz (.int k))) (ho : fh [.fz (.str w)] = .ok (.ol HW) [.fz (.str w)]) (lh : fLen (.ol HW) = some (.fz (.int m))) (d2 : fDivI (1 + k - m) 2 = some (.fz (.int r1))) :
    fRet (e2 (p2 (fInts fDivI)) (e2 (p2 (fInts fun i j => some (.fz (.int (i - j))))) (e2 (p2 fAdd) (eC (.int 1)) (e2 (p2 (fInts fDivI)) (e1 (p1 fLen) (eVar 0)) (eC (.int 2)))) (e1 (p1 fLen) (eFn fh (eCons (eVar 0) eNil)))) (eC (.int 2))) [some (.fz (.str w))] = .rt (.fz (.int r1)) [some (.fz (.str w))] := by
  simp [ln, d1, ho, lh, d2, -s_lenS, -s_lenO]
theorem fdiv2 (i : Int) : fDivI i 2 = some (.fz (.int (i / 2))) := by
  unfold fDivI
  rw [if_pos (by omega)]
theorem handles_eq {w : List Nat} (R : Row w) {k : Nat} (hl : w.length = 2 * k) : F_handles [.fz (.str w)] = .ok (.fz (.int (hands k (hol w).length))) [.fz (.str w)] := by
  have hb : big w.length = true := big_of (by have := R.len; omega)
  have hh := (hfold_len w w.length).2
  have hb2 : big (hol w).length = true := big_of (by show (hfold w w.length).2.length ≤ 16777216; have := R.len; omega)
  have ln : fLen (.fz (.str w)) = some (.fz (.int (w.length : Nat))) := by simp [hb]
  have lh : fLen (.ol ((hol w).map D.str)) = some (.fz (.int ((hol w).length : Nat))) := by simp
  have d1 : fDivI ((w.length : Nat) : Int) 2 = some (.fz (.int (k : Nat))) := by
    rw [fdiv2]
    congr 3
    omega
  have h := hd_gen ln d1 (holes_eq R) lh (fdiv2 _)
  rw [F_handles_eq]
  exact runF_rt rfl h rfl
end W_k65
namespace W_k65
open PySem PySem.Spec PyProof.Rows L2 GB
def MetD (w : List Nat) (ls : List Bool) (kvs : List (Key × D)) : Prop := ls.length = w.length ∧ (∀ g, g < w.length → ls.getD g false = !(getD kvs (.inl ((g : Nat) : Int))).isSome) ∧ kvs.length + ls.count true ≤ w.length
theorem MetD.step {w : List Nat} {ls : List Bool} {kvs : List (Key × D)} (h : MetD w ls kvs) {g : Nat} (e : ls.getD g false = true) : MetD w (ls.set g false) (putD kvs (.inl ((g : Nat) : Int)) (.bl true)) := by
  obtain ⟨c1, c2⟩ := cnt_set e
  refine ⟨by rw [List.length_set]; exact h.1, fun x hx => ?_, ?_⟩
  · rw [getD_set c2, getD_put]
    by_cases z : g = x
    · subst z; rw [if_pos rfl, if_pos rfl]; rfl
    · rw [if_neg z, if_neg, h.2.1 x hx]
      intro q
      exact z (by have := Sum.inl.inj q; omega)
  · have := putD_len kvs (.inl ((g : Nat) : Int)) (.bl true)
    have := h.2.2
    omega
theorem lm_while {w : List Nat} (R : Row w) (fin : List Bool × List Nat) {x2 x3 : Option S} : ∀ k r, (∃ ls kvs g a x6, r = [some (.fz (.str w)), some (.od kvs), x2, x3, some (.fz (.str a)), some (.fz (.int (g : Nat))), x6] ∧ sf x6 ∧ MetD w ls kvs ∧ g < w.length ∧ ls.count true < k ∧ a.length + ls.count true ≤ w.length ∧ rnd w k ls g a = fin) →
    ∃ r', fWhile wt__law_holes_1 wb__law_holes_1 r = .nx r' ∧ ∃ kvs g x6, r' = [some (.fz (.str w)), some (.od kvs), x2, x3, some (.fz (.str fin.2)), some (.fz (.int (g : Nat))), x6] ∧ sf x6 ∧ MetD w fin.1 kvs := by
  refine fWhile_go _ _ ?_
  rintro k r ⟨ls, kvs, g, a, x6, rfl, h6, hM, hg, hk, ha, hf⟩
  have hb : big w.length = true := big_of (by have := R.len; omega)
  have hb2 : big (a.length + 1) = true := big_of (by have := R.len; omega)
  obtain ⟨k, rfl⟩ : ∃ j, k = j + 1 := ⟨k - 1, by omega⟩
  rw [rnd] at hf
  have hd := hM.2.1 g hg
  have ni := notIn_di ((g : Nat) : Int) kvs
  rw [← hd] at ni
  cases e : ls.getD g false with
  | false =>
    rw [e] at hf ni
    simp only [Bool.false_eq_true, if_false] at hf
    subst hf
    exact .inl ⟨_, by simp [wt__law_holes_1, ni], kvs, g, x6, rfl, h6, hM⟩
  | true =>
    rw [e] at hf ni
    rw [if_pos rfl] at hf
    obtain ⟨c1, c2⟩ := cnt_set e
    obtain ⟨n1, n2⟩ := R.nx_get g
    have hm : (((g : Int) + 1) % (w.length : Int)) = (((g + 1) % w.length : Nat) : Int) := by simp
    have hp : (0 : Int) < (w.length : Int) := by have := R.pos; omega
    have at2 : atI w (((g : Int) + 1) % (w.length : Int)) = some (ch w g) := by rw [hm, atI_n]; exact R.ch_get g
    have bq : F__law_back [.fz (.str [ch w g])] = .ok (.fz (.str [GB.bk (ch w g)])) [.fz (.str [ch w g])] := law_back_eq (W1 (R.isL g)) (by simp)
    have hl : kvs.length < 16777216 := by have := hM.2.2; have := R.len; omega
    refine .inr ⟨_, [some (.fz (.str w)), some (.od (putD kvs (.inl ((g : Nat) : Int)) (.bl true))), x2, x3, some (.fz (.str (a ++ [ch w g]))), some (.fz (.int (nx w g : Nat))), some (.fz (.str [ch w g]))], k, by simp [wt__law_holes_1, ni]; rfl, .inl ?_, Nat.lt_succ_self k, ls.set g false, _, nx w g, a ++ [ch w g], _, rfl, sf_f, hM.step e, n2, by omega, by rw [List.length_append, List.length_singleton]; omega, hf⟩
    rcases h6 with rfl | ⟨d, rfl⟩ <;> simp [wb__law_holes_1, hl, hb, hb2, fModI, R.pos, at2, bq, fFind, n1]
theorem MetD.nil {w : List Nat} : MetD w (List.replicate w.length true) [] :=
  ⟨by simp, fun g hg => by rw [List.getD_eq_getElem?_getD, List.getElem?_replicate, if_pos hg]; rfl, by simp⟩
theorem lh_turn {w : List Nat} (R : Row w) {i : Nat} (hi : i < w.length) {kvs : List (Key × D)} (hM : MetD w (hfold w i).1 kvs) {x4 x5 x6 : Option S} (h4 : sf x4) (h5 : sf x5) (h6 : sf x6) :
    ∃ kvs' x4' x5' x6', MetD w (hfold w (i + 1)).1 kvs' ∧ sf x4' ∧ sf x5' ∧ sf x6' ∧ fb__law_holes_2 [some (.fz (.str w)), some (.od kvs), some (.ol ((hfold w i).2.map D.str)), some (.fz (.int (i : Nat))), x4, x5, x6] =
      .nx [some (.fz (.str w)), some (.od kvs'), some (.ol ((hfold w (i + 1)).2.map D.str)), some (.fz (.int (i : Nat))), x4', x5', x6'] := by
  have hc := List.count_le_length (a := true) (l := (hfold w i).1)
  have hl := hfold_len w i
  obtain ⟨r', e, kvs', g', y6, rfl, g6, hM'⟩ := lm_while R (rnd w (w.length + 1) (hfold w i).1 i []) (x2 := some (.ol ((hfold w i).2.map D.str))) (x3 := some (.fz (.int (i : Nat)))) (w.length + 1) _ ⟨(hfold w i).1, kvs, i, [], x6, rfl, h6, hM, hi, by omega, by simp; omega, rfl⟩
  have e1' : (hfold w (i + 1)) = hstep w (hfold w i) i := range_foldl_succ ..
  have hk : (hfold w i).2.length < 16777216 := by have := R.len; omega
  refine ⟨kvs', some (.fz (.str (rnd w (w.length + 1) (hfold w i).1 i []).2)), some (.fz (.int (g' : Nat))), y6, by rw [e1']; exact hM', sf_f, sf_f, g6, ?_⟩
  rw [e1']
  unfold hstep
  dsimp only
  generalize rnd w (w.length + 1) (hfold w i).1 i [] = z at *
  obtain ⟨zl, zu⟩ := z
  dsimp only at *
  generalize (hfold w i).2 = us at *
  have st : fSeq (fSet 4 (eC (.str []))) (fSeq (fSet 5 (eVar 3)) (fSeq (fWhile wt__law_holes_1 wb__law_holes_1) (fIf (eBl (e2 (p2 fNe) (eVar 4) (eC (.str [])))) (fExpr (eMut isOL (mOf fApp) 2 (eCons (eVar 4) eNil))) fNil))) [some (.fz (.str w)), some (.od kvs), some (.ol (us.map D.str)), some (.fz (.int (i : Nat))), x4, x5, x6] =
      (fSeq (fWhile wt__law_holes_1 wb__law_holes_1) (fIf (eBl (e2 (p2 fNe) (eVar 4) (eC (.str [])))) (fExpr (eMut isOL (mOf fApp) 2 (eCons (eVar 4) eNil))) fNil)) [some (.fz (.str w)), some (.od kvs), some (.ol (us.map D.str)), some (.fz (.int (i : Nat))), some (.fz (.str [])), some (.fz (.int (i : Nat))), x6] := by
    rcases h4 with rfl | ⟨d, rfl⟩ <;> rcases h5 with rfl | ⟨d', rfl⟩ <;> simp
  unfold fb__law_holes_2
  rw [st, s_fSeq, e]
  dsimp only
  by_cases hw : zu = []
  · simp [hw]
  · simp [hw, fApp, hk]
theorem lholes_eq {w : List Nat} (R : Row w) : F__law_holes [.fz (.str w)] = .ok (.ol ((hfold w w.length).2.map D.str)) [.fz (.str w)] := by
  obtain ⟨r', e, kvs, x3, x4, x5, x6, h3, h4, h5, h6, hM, h7⟩ := forL_inv (fg := gNm 3) (f := fb__law_holes_2) (ds := upFrom 0 w.length) (r := [some (.fz (.str w)), some (.od []), some (.ol []), none, none, none, none])
    (fun i r => ∃ kvs x3 x4 x5 x6, sf x3 ∧ sf x4 ∧ sf x5 ∧ sf x6 ∧ MetD w (hfold w i).1 kvs ∧ r = [some (.fz (.str w)), some (.od kvs), some (.ol ((hfold w i).2.map D.str)), x3, x4, x5, x6]) ⟨[], none, none, none, none, sf_n, sf_n, sf_n, sf_n, MetD.nil, rfl⟩ (by
      rintro i d r hd ⟨kvs, x3, x4, x5, x6, h3, h4, h5, h6, hM, rfl⟩
      obtain ⟨hi, rfl⟩ := upFrom_get hd
      obtain ⟨kvs', y4, y5, y6, hM', g4, g5, g6, y⟩ := lh_turn R hi hM h4 h5 h6
      have ez : (0 : Int) + (i : Nat) = ((i : Nat) : Int) := by omega
      rw [ez]
      refine ⟨[some (.fz (.str w)), some (.od kvs), some (.ol ((hfold w i).2.map D.str)), some (.fz (.int (i : Nat))), x4, x5, x6], ?_, _, .inl y, kvs', _, y4, y5, y6, sf_f, g4, g5, g6, hM', rfl⟩
      rcases h3 with rfl | ⟨d, rfl⟩ <;> simp)
  rw [upFrom_len] at h7
  subst h7
  have hb : big w.length = true := big_of (by have := R.len; omega)
  have hn : w.length ≤ 16777216 := by have := R.len; omega
  have l1 : (fFor (eCons (e1 (p1 fLen) (eVar 0)) eNil) mkR1 (gNm 3) fb__law_holes_2) [some (.fz (.str w)), some (.od []), some (.ol []), none, none, none, none] = _ := (for_r1 (n := w.length) (by simp [hb]) hn).trans e
  have d0 : ∀ r, eDic0 r = .ok (.val (.od [])) r := fun _ => rfl
  rw [F__law_holes_eq]
  simp [b__law_holes, -s_fFor, l1, d0]
end W_k65
namespace W_k65
open PySem PySem.Spec PyProof.Rows L2 GB
theorem slG_len (e g : Nat) (b : Bool) (c : Nat) : (slG e g b c).length ≤ 2 := by
  unfold slG
  split
  · split <;> simp
  · split <;> simp
theorem slL_len (e g : Nat) (b : Bool) : ∀ w : List Nat, (slL e g b w).length ≤ 2 * w.length
  | [] => Nat.le_refl _
  | c :: w => by
    have := slL_len e g b w
    have := slG_len e g b c
    show ((c :: w).flatMap (slG e g b)).length ≤ _
    rw [List.flatMap_cons, List.length_append, List.length_cons]
    unfold slL at *
    omega
theorem slid_run {w u : List Nat} {p s : Int} {e g c : Nat} (hw : big w.length = true) (hb : ∀ k, k ≤ 4 → big (u.length + k) = true) (a1 : atI w p = some e) (hs : s = 1 ∨ s = -1) :
    fb__law_slid_1 [some (.fz (.str w)), some (.fz (.int p)), some (.fz (.int s)), some (.fz (.str [g])), some (.fz (.str u)), some (.fz (.str [c]))] =
      .nx [some (.fz (.str w)), some (.fz (.int p)), some (.fz (.int s)), some (.fz (.str [g])), some (.fz (.str (u ++ slG e g (decide (s = 1)) c))), some (.fz (.str [c]))] := by
  have b1 := hb 1 (by omega)
  have b2 := hb 2 (by omega)
  have i1 : fInt1 (.fz (.bl true)) = some (.fz (.int 1)) := rfl
  have i2 : fInt1 (.fz (.bl false)) = some (.fz (.int 0)) := rfl
  by_cases c1 : c = g
  · rcases hs with rfl | rfl
    · simp [fb__law_slid_1, slG, c1, a1, b1, b2, hw, i1, i2]
    · simp [fb__law_slid_1, slG, c1, a1, b1, b2, hw, i1, i2]
  · by_cases c2 : c = e
    · subst c2
      simp [fb__law_slid_1, slG, c1, a1, b1, b2, hw, i1, i2]
    · simp [fb__law_slid_1, slG, c1, a1, b1, b2, hw, i1, i2, c2]
theorem slid_for {w : List Nat} {p s : Int} {e g : Nat} (hl : w.length ≤ 1000) (a1 : atI w p = some e) (hs : s = 1 ∨ s = -1) : ∃ x, forL (gNm 5) fb__law_slid_1 (w.map sgD) [some (.fz (.str w)), some (.fz (.int p)), some (.fz (.int s)), some (.fz (.str [g])), some (.fz (.str [])), none] =
    .nx [some (.fz (.str w)), some (.fz (.int p)), some (.fz (.int s)), some (.fz (.str [g])), some (.fz (.str (slL e g (decide (s = 1)) w))), x] := by
  obtain ⟨r', y, x, hx, rfl⟩ := forL_inv (fg := gNm 5) (f := fb__law_slid_1) (ds := w.map sgD) (r := [some (.fz (.str w)), some (.fz (.int p)), some (.fz (.int s)), some (.fz (.str [g])), some (.fz (.str [])), none])
    (fun i r => ∃ x, sf x ∧ r = [some (.fz (.str w)), some (.fz (.int p)), some (.fz (.int s)), some (.fz (.str [g])), some (.fz (.str (slL e g (decide (s = 1)) (w.take i)))), x]) ⟨none, .inl rfl, rfl⟩ (by
      rintro i d r hd ⟨x, hx, rfl⟩
      have hi := lt_of_at hd
      rw [List.length_map] at hi
      rw [List.getElem?_map, List.getElem?_eq_getElem hi] at hd
      have hd := Option.some.inj hd
      subst hd
      have hu := slL_len e g (decide (s = 1)) (w.take i)
      rw [List.length_take] at hu
      have y := slid_run (u := slL e g (decide (s = 1)) (w.take i)) (g := g) (c := w[i]) (big_of (n := w.length) (by omega)) (fun k hk => big_of (by omega)) a1 hs
      have e1 : slL e g (decide (s = 1)) (w.take i) ++ slG e g (decide (s = 1)) w[i] = slL e g (decide (s = 1)) (w.take (i + 1)) := by
        unfold slL
        rw [List.take_succ, List.getElem?_eq_getElem hi, List.flatMap_append]
        simp
      rw [e1] at y
      exact ⟨_, by rcases hx with rfl | ⟨z, rfl⟩ <;> simp [sgD], _, .inl y, _, .inr ⟨_, rfl⟩, rfl⟩)
  rw [List.length_map, List.take_length] at y
  exact ⟨x, y⟩
theorem law_slid_eq {w : List Nat} {p q : Nat} {s : Int} {e f : Nat} (hl : w.length ≤ 1000) (hp : w[p]? = some e) (hq : ((p : Int) + s) % (w.length : Int) = (q : Nat)) (hf : w[q]? = some f) (he : isL e = true) (hfL : isL f = true) (hs : s = 1 ∨ s = -1) :
    F__law_slid [.fz (.str w), .fz (.int (p : Nat)), .fz (.int s)] = .ok (.fz (if f = bk e then .non else .str (slL e (bk f) (decide (s = 1)) w))) [.fz (.str w), .fz (.int (p : Nat)), .fz (.int s)] := by
  have hb : big w.length = true := big_of (by omega)
  have hlt := lt_of_at hp
  have hw : 0 < w.length := by omega
  have a1 : atI w (p : Int) = some e := by rw [atI_n]; exact hp
  have a2 : atI w (q : Int) = some f := by rw [atI_n]; exact hf
  have c1 : (p : Int) < (w.length : Int) := by omega
  have lb : F__law_back [.fz (.str [e])] = .ok (.fz (.str [bk e])) [.fz (.str [e])] := law_back_eq (w := [e]) (W.cons he .nil) (by simp)
  have lf : F__law_back [.fz (.str [f])] = .ok (.fz (.str [bk f])) [.fz (.str [f])] := law_back_eq (w := [f]) (W.cons hfL .nil) (by simp)
  rw [F__law_slid_eq]
  by_cases c : f = bk e
  · rw [if_pos c]
    simp [b__law_slid, hb, c1, fModI, hw, hq, a1, a2, lb, c]
  · rw [if_neg c]
    obtain ⟨x, y⟩ := slid_for (g := bk f) hl a1 hs
    have lp : fFor (eCons (eVar 0) eNil) mkSeq (gNm 5) fb__law_slid_1 [some (.fz (.str w)), some (.fz (.int (p : Nat))), some (.fz (.int s)), some (.fz (.str [bk f])), some (.fz (.str [])), none] = _ := (for_lfz (i := 0) (d := .str w) (ds := w.map sgD) rfl rfl rfl).trans y
    generalize slL e (bk f) (decide (s = 1)) w = u at *
    simp [b__law_slid, hb, c1, fModI, hw, hq, a1, a2, lb, lf, c, lp, -s_fFor]
theorem slL_filter {e g : Nat} {b : Bool} (h : g ≠ e) : ∀ w : List Nat, slL e g b w = (w.filter (· != e)).flatMap (slG e g b)
  | [] => rfl
  | c :: w => by
    show slG e g b c ++ slL e g b w = _
    rw [slL_filter h w, List.filter_cons]
    by_cases z : c = e
    · subst z
      have : slG c g b c = [] := by unfold slG; rw [if_neg (fun q => h q.symm), if_pos rfl]
      rw [this]
      simp
    · have : (c != e) = true := by simp [z]
      rw [if_pos this, List.flatMap_cons]
theorem slL_parts {e g : Nat} {b : Bool} {w : List Nat} (nd : w.Nodup) (h : g ≠ e) (hg : g ∈ w) : ∃ L1 L2, w.filter (· != e) = L1 ++ g :: L2 ∧ g ∉ L1 ∧ slL e g b w = L1 ++ (if b then [g, e] else [e, g]) ++ L2 := by
  have hm : g ∈ w.filter (· != e) := List.mem_filter.mpr ⟨hg, by simpa using h⟩
  obtain ⟨L1, L2, e1⟩ := List.append_of_mem hm
  have nf : (L1 ++ g :: L2).Nodup := by rw [← e1]; exact nd.sublist List.filter_sublist
  obtain ⟨n1, n2, _, _, _⟩ := nd_mid nf
  have ne : ∀ c ∈ L1 ++ g :: L2, c ≠ e := fun c hc z => by
    rw [← e1] at hc
    have := (List.mem_filter.mp hc).2
    simp [z] at this
  refine ⟨L1, L2, e1, n1, ?_⟩
  rw [slL_filter h, e1, List.flatMap_append, List.flatMap_cons, slG_id (fun q => ne e (List.mem_append_left _ q) rfl) n1, slG_id (fun q => ne e (List.mem_append_right _ (List.mem_cons_of_mem _ q)) rfl) n2]
  simp [slG]
end W_k65
namespace W_k65
open PySem PySem.Spec PyProof.Rows L2 GB
theorem sub_one {L1 L2 : List Nat} {g : Nat} (h : g ∉ L1) : subIx [g] (L1 ++ g :: L2) = some L1.length := by
  rw [subIx_one, List.findIdx?_append]
  have : L1.findIdx? (· == g) = none := List.findIdx?_eq_none_iff.mpr fun c hc => by
    have : c ≠ g := fun z => h (z ▸ hc)
    simp [this]
  rw [this]
  simp [List.findIdx?_cons]
section
variable {w l L1 L2 : List Nat} {p s : Int} {e f g : Nat} {x4 : Option S}
theorem sd_tail {k : Int} (bq : F_back_of [.fz (.str [f])] = .ok (.fz (.str [g])) [.fz (.str [f])]) (ix : fSIndex (.fz (.str l)) (.fz (.str [g])) = some (.fz (.int k))) (hs : s = 1 ∨ s = -1) {a b : List Nat} (h1 : fSl (.fz (.str l)) (.fz .non) (.fz (.int (if s = 1 then k + 1 else k))) = some (.fz (.str a))) (h2 : fSl (.fz (.str l)) (.fz (.int (if s = 1 then k + 1 else k))) (.fz .non) = some (.fz (.str b)))
    (a1 : fAdd (.fz (.str a)) (.fz (.str [e])) = some (.fz (.str (a ++ [e])))) (a2 : fAdd (.fz (.str (a ++ [e]))) (.fz (.str b)) = some (.fz (.str (a ++ [e] ++ b)))) :
    (fSeq (fSet 5 (eMeth isStr (p2 fSIndex) (eVar 4) (eCons (eFn F_back_of (eCons (eVar 3) eNil)) eNil)))
  (fSeq (fIf (eBl (e2 (p2 fEq) (e2 qIx (eVar 1) (eC (.int 1))) (eC (.int 1)))) (fSet 5 (e2 (p2 fAdd) (eVar 5) (eC (.int 1))))
  fNil)
  (fRet (e2 (p2 fAdd) (e2 (p2 fAdd) (eSl (eVar 4) none (some (eVar 5))) (eVar 2)) (eSl (eVar 4) (some (eVar 5)) none))))) [some (.fz (.str w)), some (.fz (.tup [.int p, .int s])), some (.fz (.str [e])), some (.fz (.str [f])), some (.fz (.str l)), none] =
      .rt (.fz (.str (a ++ [e] ++ b))) [some (.fz (.str w)), some (.fz (.tup [.int p, .int s])), some (.fz (.str [e])), some (.fz (.str [f])), some (.fz (.str l)), some (.fz (.int (if s = 1 then k + 1 else k)))] := by
  have ii : atI [D.int p, D.int s] 1 = some (.int s) := rfl
  rcases hs with rfl | rfl
  · rw [if_pos rfl] at *
    generalize a ++ [e] ++ b = u at *
    generalize a ++ [e] = v at *
    simp [bq, ix, ii, h1, h2, a1, a2]
  · rw [if_neg (by decide)] at *
    generalize a ++ [e] ++ b = u at *
    generalize a ++ [e] = v at *
    simp [bq, ix, ii, h1, h2, a1, a2]
end
theorem slidF_eq {w : List Nat} {p q : Nat} {s : Int} {e f : Nat} (hl : w.length ≤ 1000) (hp : w[p]? = some e) (hq : ((p : Int) + s) % (w.length : Int) = (q : Nat)) (hf : w[q]? = some f) (he : isL e = true) (hfL : isL f = true) (hne : f ≠ bk e) (nd : w.Nodup) (hg : bk f ∈ w) (hs : s = 1 ∨ s = -1) :
    F_slid [.fz (.str w), .fz (.tup [.int (p : Nat), .int s])] = .ok (.fz (.str (slL e (bk f) (decide (s = 1)) w))) [.fz (.str w), .fz (.tup [.int (p : Nat), .int s])] := by
  have ge : bk f ≠ e := fun z => hne (by rw [← z, bk_bk hfL])
  obtain ⟨L1, L2, e1, n1, e2⟩ := slL_parts (b := decide (s = 1)) nd ge hg
  have ye := ends_eq (n := 0) hl hp hq hf he hne
  have y' : endsF F_ends_of [.fz (.str w), .fz (.tup [.int (p : Nat), .int s]), .fz (.int 0)] = _ := (endsF_at hl).trans ye
  have fl : (w.filter (· != e)).length ≤ w.length := List.length_filter_le _ _
  rw [e1] at fl
  rw [List.length_append, List.length_cons] at fl
  have ix : fSIndex (.fz (.str (L1 ++ bk f :: L2))) (.fz (.str [bk f])) = some (.fz (.int (L1.length : Nat))) := by
    have z := sub_one (L2 := L2) n1
    simp [fSIndex, z]
  rw [F_slid_eq]
  refine runF_rt (r := [some (.fz (.str w)), some (.fz (.tup [.int (p : Nat), .int s])), some (.fz (.str [e])), some (.fz (.str [f])), some (.fz (.str (L1 ++ bk f :: L2))), some (.fz (.int (if s = 1 then ((L1.length : Nat) : Int) + 1 else (L1.length : Nat))))]) rfl ?_ rfl
  have hd : fAsg (gTp 2 (gsCons (gNm 2) (gsCons (gNm 3) gsNil))) (eFn (endsF F_ends_of) (eCons (eVar 0) (eCons (eVar 1) (eCons (eC (.int 0)) eNil)))) [some (.fz (.str w)), some (.fz (.tup [.int (p : Nat), .int s])), none, none, none, none] = .nx [some (.fz (.str w)), some (.fz (.tup [.int (p : Nat), .int s])), some (.fz (.str [e])), some (.fz (.str [f])), none, none] := by
    generalize endsF F_ends_of = FE at *
    simp [fAsg, ofR, y']
  have rp : fRep 4 0 2 [some (.fz (.str w)), some (.fz (.tup [.int (p : Nat), .int s])), some (.fz (.str [e])), some (.fz (.str [f])), none, none] = .nx [some (.fz (.str w)), some (.fz (.tup [.int (p : Nat), .int s])), some (.fz (.str [e])), some (.fz (.str [f])), some (.fz (.str (L1 ++ bk f :: L2))), none] := by
    rw [← e1]
    show (if free _ 4 && decide (w.length ≤ 1000) then _ else Fl.st) = _
    rw [decide_eq_true hl]
    rfl
  have e0 : startR 6 [S.fz (.str w), .fz (.tup [.int (p : Nat), .int s])] = [some (.fz (.str w)), some (.fz (.tup [.int (p : Nat), .int s])), none, none, none, none] := rfl
  rw [e0]
  unfold b_slid fEnds
  show fSeq _ _ _ = _
  rw [s_fSeq, hd]; dsimp only
  rw [s_fSeq, rp]; dsimp only
  have bg : ∀ {a b : List Nat}, a.length + b.length ≤ 2000 → fAdd (.fz (.str a)) (.fz (.str b)) = some (.fz (.str (a ++ b))) := fun h => by rw [s_addS, if_pos (big_of (by omega))]
  have tl := sd_tail (w := w) (p := (p : Nat)) (e := e) (k := (L1.length : Nat)) (back_of_eq hfL) ix hs (a := (L1 ++ bk f :: L2).take (if s = 1 then L1.length + 1 else L1.length)) (b := (L1 ++ bk f :: L2).drop (if s = 1 then L1.length + 1 else L1.length))
    (by
      have := sl_to (w := L1 ++ bk f :: L2) (by rw [List.length_append, List.length_cons]; omega) (if s = 1 then L1.length + 1 else L1.length)
      rw [← this]
      split <;> rfl)
    (by
      have := sl_from (w := L1 ++ bk f :: L2) (by rw [List.length_append, List.length_cons]; omega) (if s = 1 then L1.length + 1 else L1.length)
      rw [← this]
      split <;> rfl)
    (bg (by rw [List.length_take, List.length_append, List.length_cons, List.length_singleton]; omega)) (bg (by rw [List.length_append, List.length_take, List.length_drop, List.length_append, List.length_cons, List.length_singleton]; omega))
  refine tl.trans ?_
  congr 2
  rw [e2]
  rcases hs with rfl | rfl
  · rw [if_pos rfl, decide_eq_true rfl]
    have a1 : (L1 ++ bk f :: L2).take (L1.length + 1) = L1 ++ [bk f] := by
      rw [show L1 ++ bk f :: L2 = (L1 ++ [bk f]) ++ L2 by simp]
      exact List.take_left' (by simp)
    have a2 : (L1 ++ bk f :: L2).drop (L1.length + 1) = L2 := by
      rw [show L1 ++ bk f :: L2 = (L1 ++ [bk f]) ++ L2 by simp]
      exact List.drop_left' (by simp)
    rw [a1, a2]
    simp
  · rw [if_neg (by decide), decide_eq_false (by decide), List.take_left' rfl, List.drop_left' rfl]
    simp
end W_k65
namespace W_k65
open PySem PySem.Spec PyProof.Rows L2 GB
abbrev Sld := Nat × Int
def edS (w : List Nat) (z : Sld) : Nat := w.getD z.1 0
def nbI (w : List Nat) (z : Sld) : Nat := (((z.1 : Int) + z.2) % (w.length : Int)).toNat
def nbS (w : List Nat) (z : Sld) : Nat := w.getD (nbI w z) 0
def canS (w : List Nat) (z : Sld) : Prop := z.1 < w.length ∧ (z.2 = 1 ∨ z.2 = -1) ∧ nbS w z ≠ bk (edS w z)
def slS (w : List Nat) (z : Sld) : List Nat := slL (edS w z) (bk (nbS w z)) (decide (z.2 = 1)) w
def ovM (m : Nat) (w : List Nat) (z : Sld) : List (List Nat) := setL m (edS w z) [nbS w z, edS w z]
def hmM (m : Nat) (w : List Nat) (z : Sld) : List (List Nat) := setL m (edS w z) [bk (nbS w z), edS w z]
def sldD (z : Sld) : D := .tup [.int (z.1 : Nat), .int z.2]
def allCan : List Nat → List Sld → Prop
  | _, [] => True
  | w, z :: zs => canS w z ∧ allCan (slS w z) zs
/-- the row, the map over, the map home -/
abbrev Tld := List Nat × List (List Nat) × List (List Nat)
def tStep (m : Nat) (t : Tld) (z : Sld) : Tld := (slS t.1 z, thenL t.2.1 (ovM m t.1 z), thenL (hmM m t.1 z) t.2.2)
def told (m : Nat) (w : List Nat) (zs : List Sld) : Tld := zs.foldl (tStep m) (w, plainL m, plainL m)
/-- a row of ends -/
structure Surf (m : Nat) (w : List Nat) : Prop where
  pm : w.Perm (sgn m)
  m1 : 1 ≤ m
  m6 : m ≤ 6
section
variable {m : Nat} {w : List Nat} (S : Surf m w)
include S
theorem Surf.len : w.length = 2 * m := by
  have := S.pm.length_eq
  have h6 := S.m6
  unfold sgn at this
  rw [List.length_append, List.length_take, List.length_take] at this
  simp at this
  omega
theorem Surf.mem {c : Nat} : c ∈ w ↔ isL c = true ∧ num c < m := by rw [S.pm.mem_iff]; exact sgn_mem S.m6
theorem Surf.lt {c : Nat} (h : c ∈ w) : isL c = true := (S.mem.mp h).1
theorem Surf.bkm {c : Nat} (h : c ∈ w) : GB.bk c ∈ w := S.mem.mpr ⟨bk_L (S.lt h), by rw [num_bk (S.lt h)]; exact (S.mem.mp h).2⟩
theorem Surf.nd : w.Nodup := by
  have h6 := S.m6
  have all : ∀ m, m ≤ 6 → (sgn m).Nodup := by decide
  exact S.pm.nodup_iff.mpr (all m h6)
theorem Surf.rowN : RowN w := by
  have l := S.len
  have := S.m1
  have := S.m6
  exact ⟨⟨List.all_eq_true.mpr fun c hc => S.lt hc, fun c hc => S.bkm hc, by omega, by omega⟩, S.nd, by omega⟩
theorem Surf.at {i : Nat} (h : i < w.length) : w[i]? = some (w.getD i 0) ∧ w.getD i 0 ∈ w := by
  have e : w.getD i 0 = w[i] := by simp [List.getD, h]
  rw [e]
  exact ⟨List.getElem?_eq_getElem h, List.getElem_mem h⟩
theorem Surf.nbI_lt (z : Sld) : nbI w z < w.length ∧ ((z.1 : Int) + z.2) % (w.length : Int) = (nbI w z : Nat) := by
  have l := S.len
  have := S.m1
  have h0 : (0 : Int) < (w.length : Int) := by omega
  have h1 := Int.emod_nonneg ((z.1 : Int) + z.2) (show (w.length : Int) ≠ 0 by omega)
  have h2 := Int.emod_lt_of_pos ((z.1 : Int) + z.2) h0
  unfold nbI
  omega
theorem Surf.ed {z : Sld} (h : z.1 < w.length) : w[z.1]? = some (edS w z) ∧ edS w z ∈ w := S.at h
theorem Surf.nb (z : Sld) : w[nbI w z]? = some (nbS w z) ∧ nbS w z ∈ w := S.at (S.nbI_lt z).1
end
theorem im_up {p n : Nat} (h : p < n) : ((p : Int) + 1) % (n : Int) = ((if p + 1 = n then 0 else p + 1 : Nat) : Int) := by
  by_cases e : p + 1 = n
  · rw [if_pos e, show ((p : Int) + 1) = (n : Int) by omega, Int.emod_self]; rfl
  · rw [if_neg e, Int.emod_eq_of_lt (by omega) (by omega)]; omega
theorem im_dn {p n : Nat} (h : p < n) : ((p : Int) + -1) % (n : Int) = ((if p = 0 then n - 1 else p - 1 : Nat) : Int) := by
  by_cases e : p = 0
  · subst e
    have e : ((0 : Nat) : Int) + -1 = ((n : Int) - 1) + (n : Int) * (-1) := by omega
    rw [if_pos rfl, e, Int.add_mul_emod_self_left, Int.emod_eq_of_lt (by omega) (by omega)]; omega
  · rw [if_neg e, Int.emod_eq_of_lt (by omega) (by omega)]; omega
/-- what follows: a slide's end and its neighbour -/
theorem Surf.next {m : Nat} {w : List Nat} (S : Surf m w) {z : Sld} (h : z.1 < w.length) : (z.2 = 1 → sc w (edS w z) = nbS w z) ∧ (z.2 = -1 → sc w (nbS w z) = edS w z) := by
  have l := S.len
  have m1 := S.m1
  obtain ⟨n1, n2⟩ := S.nbI_lt z
  refine ⟨fun e => ?_, fun e => ?_⟩
  · rw [S.rowN.sc_at (S.ed h).1]
    have : (z.1 + 1) % w.length = nbI w z := by
      rw [e, im_up h] at n2
      by_cases q : z.1 + 1 = w.length
      · rw [if_pos q] at n2
        rw [q, Nat.mod_self]; omega
      · rw [if_neg q] at n2
        rw [Nat.mod_eq_of_lt (by omega)]; omega
    unfold ch
    rw [this]; rfl
  · rw [S.rowN.sc_at (S.nb z).1]
    have : (nbI w z + 1) % w.length = z.1 := by
      rw [e, im_dn h] at n2
      rcases Nat.eq_zero_or_pos z.1 with q | q
      · have : nbI w z = w.length - 1 := by
          rw [if_pos q] at n2
          omega
        rw [this, q, show w.length - 1 + 1 = w.length by omega, Nat.mod_self]
      · have : nbI w z = z.1 - 1 := by
          rw [if_neg (by omega)] at n2
          omega
        rw [this, show z.1 - 1 + 1 = z.1 by omega, Nat.mod_eq_of_lt h]
    unfold ch
    rw [this]; rfl
theorem Surf.ne {m : Nat} {w : List Nat} (S : Surf m w) {z : Sld} (h : canS w z) : edS w z ≠ nbS w z := fun e => by
  obtain ⟨h1, h2, _⟩ := h
  obtain ⟨n1, n2⟩ := S.nbI_lt z
  have l := S.len
  have m1 := S.m1
  have i : z.1 = nbI w z := by
    have a := (S.ed h1).1
    have b := (S.nb z).1
    rw [← e] at b
    obtain ⟨ha, ea⟩ := List.getElem?_eq_some_iff.mp a
    obtain ⟨hb, eb⟩ := List.getElem?_eq_some_iff.mp b
    exact (List.getElem_inj S.nd).mp (ea.trans eb.symm)
  rcases h2 with q | q
  · rw [q, im_up h1] at n2
    by_cases r : z.1 + 1 = w.length
    · rw [if_pos r] at n2; omega
    · rw [if_neg r] at n2; omega
  · rw [q, im_dn h1] at n2
    by_cases r : z.1 = 0
    · rw [if_pos r] at n2; omega
    · rw [if_neg r] at n2; omega
/-- the rounds of the row behind a slide -/
def tauS (w : List Nat) (z : Sld) (u : List Nat) : List Nat :=
  if z.2 = 1 then (u.filter (· != nbS w z)).flatMap (gAhead (edS w z) (nbS w z))
  else (u.filter (· != bk (nbS w z))).flatMap (gBehind (bk (edS w z)) (bk (nbS w z)))
theorem slL_perm {e g : Nat} {b : Bool} {w : List Nat} (nd : w.Nodup) (h : g ≠ e) (hg : g ∈ w) (he : e ∈ w) : (slL e g b w).Perm w := by
  obtain ⟨L1, L2, e1', _, e2'⟩ := slL_parts (b := b) nd h hg
  have p := cons_filter nd he
  rw [e1'] at p
  rw [e2']
  refine List.Perm.trans ?_ p
  cases b with
  | true =>
    show (L1 ++ [g, e] ++ L2).Perm _
    have a : L1 ++ [g, e] ++ L2 = (L1 ++ [g]) ++ e :: L2 := by simp
    have c : e :: (L1 ++ g :: L2) = e :: ((L1 ++ [g]) ++ L2) := by simp
    rw [a, c]
    exact List.perm_middle
  | false =>
    show (L1 ++ [e, g] ++ L2).Perm _
    have a : L1 ++ [e, g] ++ L2 = L1 ++ e :: (g :: L2) := by simp
    rw [a]
    exact List.perm_middle
theorem Surf.slid {m : Nat} {w : List Nat} (S : Surf m w) {z : Sld} (h : canS w z) : Surf m (slS w z) := by
  have hn := (S.nb z).2
  refine ⟨(slL_perm S.nd (fun q => h.2.2 ?_) (S.bkm hn) (S.ed h.1).2).trans S.pm, S.m1, S.m6⟩
  rw [← q, bk_bk (S.lt hn)]
theorem Surf.rounds {m : Nat} {w : List Nat} (S : Surf m w) {z : Sld} (h : canS w z) {A : List (List Nat)} (c : CD (ph w) w A) : CD (ph (slS w z)) (slS w z) (A.map (tauS w z)) := by
  have S' := S.slid h
  have hx := (S.ed h.1).2
  have hy := (S.nb z).2
  have nx := S.next h.1
  have ne := S.ne h
  have o := S.rowN.orb
  have o' := S'.rowN.orb
  rcases h.2.1 with e | e
  · have e' : slS w z = slL (edS w z) (bk (nbS w z)) true w := by unfold slS; rw [decide_eq_true e]
    have t : tauS w z = fun u => (u.filter (· != nbS w z)).flatMap (gAhead (edS w z) (nbS w z)) := by
      funext u
      unfold tauS
      rw [if_pos e]
    rw [e'] at o' ⊢
    rw [t]
    obtain ⟨r, pm⟩ := slide_on S.nd (fun c hc => S.lt hc) (fun c hc => S.bkm hc) o hx (nx.1 e) h.2.2 ne o' c
    exact cd_perm r pm.symm
  · have n1 : ¬ z.2 = 1 := by omega
    have e' : slS w z = slL (edS w z) (bk (nbS w z)) false w := by unfold slS; rw [decide_eq_false n1]
    have t : tauS w z = fun u => (u.filter (· != bk (nbS w z))).flatMap (gBehind (bk (edS w z)) (bk (nbS w z))) := by
      funext u
      unfold tauS
      rw [if_neg n1]
    rw [e'] at o' ⊢
    rw [t]
    obtain ⟨r, pm⟩ := slide_back S.nd (fun c hc => S.lt hc) (fun c hc => S.bkm hc) o hy (nx.2 e) h.2.2 ne o' c
    exact cd_perm r pm.symm
end W_k65
namespace W_k65
open PySem PySem.Spec PyProof.Rows L2 GB
section
variable {m : Nat} {w : List Nat} (S : Surf m w) {z : Sld} (h : canS w z)
include S h
theorem ov_at {c : Nat} (hc : c ∈ w) : bec (ovM m w z) c = if c = edS w z then [nbS w z, edS w z] else if c = bk (edS w z) then [bk (edS w z), bk (nbS w z)] else [c] := by
  have he := S.mem.mp (S.ed h.1).2
  have hf := S.mem.mp (S.nb z).2
  have hm := S.mem.mp hc
  unfold ovM
  rw [bec_set S.m6 he.1 he.2 hm.1 hm.2 (W.cons hf.1 (W.cons he.1 .nil))]
  by_cases n : num c = num (edS w z)
  · rw [if_pos n]
    by_cases q : c = edS w z
    · rw [if_pos q, if_pos q]
    · rw [if_neg q, if_neg q]
      rcases num_same hm.1 he.1 n with r | r
      · exact absurd r q
      · rw [if_pos r]; rfl
  · rw [if_neg n, if_neg (fun q => n (by rw [q])), if_neg (fun q => n (by rw [q, num_bk he.1]))]
theorem ov_ws : Ws (ovM m w z) := setL_w (W.cons (S.lt (S.nb z).2) (W.cons (S.lt (S.ed h.1).2) .nil))
theorem ph_inj {a b : Nat} (ha : a ∈ w) (hb : b ∈ w) (e : ph w a = ph w b) : a = b := by
  have R := S.rowN
  obtain ⟨a1, a2⟩ := R.find (S.bkm ha)
  obtain ⟨b1, b2⟩ := R.find (S.bkm hb)
  have : w.findIdx (· == bk a) = w.findIdx (· == bk b) := R.ch_inj a1 b1 e
  rw [this, b2] at a2
  have a2 := Option.some.inj a2
  rw [← bk_bk (S.lt ha), ← a2, bk_bk (S.lt hb)]
/-- the map told letter by letter, for any letter -/
def ovF (x y : Nat) (d : Nat) : List Nat := if d = x then [y, x] else if d = bk x then [bk x, bk y] else if isL d = true then [d] else []
omit S h in
theorem ovF_w {x y : Nat} (hx : isL x = true) (hy : isL y = true) (d : Nat) : W (ovF x y d) := by
  unfold ovF
  split
  · exact W.cons hy (W1 hx)
  · split
    · exact W.cons (bk_L hx) (W1 (bk_L hy))
    · split
      · rename_i q
        exact W1 q
      · exact .nil
theorem ov_sub {L : List Nat} (hL : ∀ d ∈ L, d ∈ w) : sub (ovM m w z) L = L.flatMap (ovF (edS w z) (nbS w z)) := by
  unfold sub
  induction L with
  | nil => rfl
  | cons d L ih =>
    rw [List.flatMap_cons, List.flatMap_cons, ih fun c hc => hL c (List.mem_cons_of_mem _ hc), ov_at S h (hL d (List.mem_cons_self ..))]
    congr 1
    unfold ovF
    rw [if_pos (S.lt (hL d (List.mem_cons_self ..)))]
theorem ov_cls {A : List (List Nat)} (c : CD (ph w) w A) {u : List Nat} (hu : u ∈ A) : clsW (sub (ovM m w z) u) = leastTurn (tauS w z u) := by
  have hx := (S.ed h.1).2
  have hy := (S.nb z).2
  have lx := S.lt hx
  have ly := S.lt hy
  have ne := S.ne h
  have nx := S.next h.1
  have uw : ∀ d ∈ u, d ∈ w := fun d hd => c.sub hu hd
  have wu : W u := fun d hd => S.lt (uw d hd)
  have S' := S.slid h
  have c' := S.rounds h c
  have ht : tauS w z u ∈ A.map (tauS w z) := List.mem_map_of_mem hu
  have mem : ∀ d ∈ tauS w z u, isL d = true := fun d hd => S'.lt (c'.sub ht hd)
  have rt : clsW (tauS w z u) = leastTurn (tauS w z u) :=
    cls_round (orb_rd mem (c'.1 _ ht) fun d hd => S'.rowN.ph_ne (c'.sub ht hd))
  have ny : nbS w z ≠ bk (edS w z) := h.2.2
  have ow := ovF_w lx ly
  have n0 : nbS w z ≠ edS w z := fun q => ne q.symm
  have n3 : bk (nbS w z) ≠ edS w z := fun q => ny (by rw [← q, bk_bk ly])
  have n4 : bk (nbS w z) ≠ bk (edS w z) := fun q => n0 (by rw [← bk_bk ly, q, bk_bk lx])
  have n5 : bk (edS w z) ≠ edS w z := bk_ne lx
  rw [← rt]
  rcases h.2.1 with e | e
  · have hp : ph w (bk (edS w z)) = nbS w z := by
      show sc w (bk (bk (edS w z))) = _
      rw [bk_bk lx]
      exact nx.1 e
    have hv : ph w (nbS w z) ≠ nbS w z := fun q => ny (ph_inj S h (S.bkm hx) hy (hp.trans q.symm)).symm
    obtain ⟨L, r, p⟩ := pr_rot (c.1 u hu) hp (fun d hd q => ph_inj S h (uw d hd) (S.bkm hx) (q.trans hp.symm)) hv
    have wL : W L := wu.of_rt r
    have mL : ∀ d ∈ L, d ∈ w := fun d hd => uw d (r.perm.mem_iff.mpr hd)
    have e1' : clsW (sub (ovM m w z) u) = clsW (sub (ovM m w z) L) := cls_rt (sub_w (ov_ws S h) u) (flat_rt r)
    have e2' : tauS w z u = (u.filter (· != nbS w z)).flatMap (gAhead (edS w z) (nbS w z)) := by unfold tauS; rw [if_pos e]
    have e3 : clsW (tauS w z u) = clsW ((L.filter (· != nbS w z)).flatMap (gAhead (edS w z) (nbS w z))) := by
      rw [e2'] at mem ⊢
      exact cls_rt mem (move_rt r)
    rw [e1', e3, ov_sub S h mL]
    refine cls_eq (red_ahead lx ly ny (fun d hd h1 h2 => ?_) ?_ ?_ ow p wL)
    · unfold ovF gAhead
      by_cases q : d = edS w z
      · rw [if_pos q, if_pos q, q]
      · rw [if_neg q, if_neg q, if_neg h1, if_pos hd]
    · unfold ovF; rw [if_neg n5, if_pos rfl]
    · unfold ovF; rw [if_neg n0, if_neg ny, if_pos ly]
  · have e1 : ¬ z.2 = 1 := by omega
    have hp : ph w (bk (nbS w z)) = edS w z := by
      show sc w (bk (bk (nbS w z))) = _
      rw [bk_bk ly]
      exact nx.2 e
    have hv : ph w (edS w z) ≠ edS w z := fun q => n3 (ph_inj S h (S.bkm hy) hx (hp.trans q.symm))
    obtain ⟨L, r, p⟩ := pr_rot (c.1 u hu) hp (fun d hd q => ph_inj S h (uw d hd) (S.bkm hy) (q.trans hp.symm)) hv
    have wL : W L := wu.of_rt r
    have mL : ∀ d ∈ L, d ∈ w := fun d hd => uw d (r.perm.mem_iff.mpr hd)
    have e1' : clsW (sub (ovM m w z) u) = clsW (sub (ovM m w z) L) := cls_rt (sub_w (ov_ws S h) u) (flat_rt r)
    have e2' : tauS w z u = (u.filter (· != bk (nbS w z))).flatMap (gBehind (bk (edS w z)) (bk (nbS w z))) := by unfold tauS; rw [if_neg e1]
    have e3 : clsW (tauS w z u) = clsW ((L.filter (· != bk (nbS w z))).flatMap (gBehind (bk (edS w z)) (bk (nbS w z)))) := by
      rw [e2'] at mem ⊢
      exact cls_rt mem (move_rt r)
    rw [e1', e3, ov_sub S h mL]
    refine cls_eq (red_behind lx ly ny (fun d hd h1 h2 => ?_) ?_ ?_ ow p wL)
    · unfold ovF gBehind
      rw [if_neg h2]
      by_cases q : d = bk (edS w z)
      · rw [if_pos q, if_pos q, q]
      · rw [if_neg q, if_neg q, if_pos hd]
    · unfold ovF; rw [if_pos rfl]
    · unfold ovF; rw [if_neg n3, if_neg n4, if_pos (bk_L ly)]
/-- one slide: the classes of the words that go over are the holes of the row behind it -/
theorem slide_holes : ((hol w).map fun u => clsW (sub (ovM m w z) u)).Perm ((hol (slS w z)).map leastTurn) := by
  have c := S.rowN.holes
  have S' := S.slid h
  have c' := S.rounds h c
  have e : ((hol w).map fun u => clsW (sub (ovM m w z) u)) = ((hol w).map (tauS w z)).map leastTurn := by
    rw [List.map_map]
    exact List.map_congr_left fun u hu => ov_cls S h c hu
  rw [e]
  exact CD.one S'.nd c' S'.rowN.holes
end
end W_k65
namespace W_k65
open PySem PySem.Spec PyProof.Rows L2 GB
theorem allCan_snoc {m : Nat} : ∀ {zs : List Sld} {w : List Nat} {o h : List (List Nat)} {z : Sld}, allCan w (zs ++ [z]) ↔ allCan w zs ∧ canS (zs.foldl (tStep m) (w, o, h)).1 z
  | [], w, o, h, z => by simp [allCan]
  | y :: zs, w, o, h, z => by
    show canS w y ∧ allCan (slS w y) (zs ++ [z]) ↔ (canS w y ∧ allCan (slS w y) zs) ∧ _
    rw [allCan_snoc (m := m) (zs := zs) (o := thenL o (ovM m w y)) (h := thenL (hmM m w y) h), and_assoc]
    rfl
def clsS (one : List (List Nat)) (u : List Nat) : List Nat := clsW (sub one u)
structure ToldOk (m n : Nat) (w : List Nat) (t : Tld) : Prop where
  surf : Surf m t.1
  wo : ∀ v ∈ t.2.1, Wm m v
  wh : ∀ v ∈ t.2.2, Wm m v
  lo : t.2.1.length = m
  lh : t.2.2.length = m
  so : shortL (2 ^ n) t.2.1
  sh : shortL (2 ^ n) t.2.2
  per : ((hol w).map (clsS t.2.1)).Perm ((hol t.1).map leastTurn)
  undo : ∀ {u : List Nat}, Wm m u → red (sub t.2.2 (red (sub t.2.1 u))) = red u
theorem plain_Wm {m : Nat} (h6 : m ≤ 6) : ∀ v ∈ plainL m, Wm m v := fun v hv => by
  unfold plainL at hv
  obtain ⟨c, hc, rfl⟩ := List.mem_map.mp hv
  have := sgn_Wm h6 (c := c) (by unfold sgn; exact List.mem_append_left _ hc)
  exact ⟨W1 this.1, fun d hd => by rw [List.mem_singleton.mp hd]; exact this.2⟩
theorem ws_of {m : Nat} {cs : List (List Nat)} (h : ∀ v ∈ cs, Wm m v) : Ws cs := fun v hv => (h v hv).1
theorem sub_WmB {m : Nat} {cs : List (List Nat)} (h : ∀ w ∈ cs, Wm m w) (u : List Nat) : Wm m (sub cs u) := by
  refine ⟨sub_w (fun w hw => (h w hw).1) u, fun c hc => ?_⟩
  obtain ⟨d, _, hd⟩ := List.mem_flatMap.mp hc
  have key : ∀ c ∈ cs.getD (num d) [], isL c = true ∧ num c < m := by
    rw [List.getD_eq_getElem?_getD]
    cases e : cs[num d]? with
    | none => intro c hc; cases hc
    | some w => exact fun c hc => ⟨(h w (List.mem_of_getElem? e)).1 c hc, (h w (List.mem_of_getElem? e)).2 c hc⟩
  unfold bec at hd
  split at hd
  · exact (key c hd).2
  · obtain ⟨x, hx, rfl⟩ := List.mem_map.mp (List.mem_reverse.mp hd)
    rw [num_bk (key x hx).1]
    exact (key x hx).2
theorem red_short (w : List Nat) : (red w).length ≤ w.length := red_len w
theorem setL_Wm {m e : Nat} {v : List Nat} (hm : m ≤ 6) (hv : Wm m v) : ∀ w ∈ setL m e v, Wm m w := fun w hw => by
  rcases List.mem_or_eq_of_mem_set hw with h | h
  · obtain ⟨c, hc, rfl⟩ := List.mem_map.mp h
    obtain ⟨i, hi, hc⟩ := List.getElem_of_mem hc
    have hi' : i < m ∧ i < 6 := by rw [List.length_take] at hi; simp at hi; omega
    rw [List.getElem_take] at hc
    have hc2 : c = 97 + i := by
      have key : ∀ i, (h : i < 6) → ([97, 98, 99, 100, 101, 102] : List Nat)[i]'(by simpa using h) = 97 + i := by decide
      rw [← hc]; exact key i hi'.2
    subst hc2
    exact ⟨W.cons (isL_iff.mpr (by omega)) .nil, fun d hd => by rw [List.mem_singleton] at hd; subst hd; unfold num; rw [if_pos (by omega)]; omega⟩
  · subst h
    split
    · exact hv
    · refine ⟨hv.1.bkw, fun c hc => ?_⟩
      obtain ⟨x, hx, rfl⟩ := List.mem_map.mp (List.mem_reverse.mp hc)
      rw [num_bk (hv.1 x hx)]
      exact hv.2 x hx
theorem then_Wm {m : Nat} {a b : List (List Nat)} (hb : ∀ v ∈ b, Wm m v) : ∀ v ∈ thenL a b, Wm m v := fun v hv => by
  obtain ⟨u, _, rfl⟩ := List.mem_map.mp hv
  exact red_Wm (sub_WmB hb u)
theorem then_short {a b : List (List Nat)} {A B : Nat} (ha : shortL A a) (hb : shortL B b) : shortL (A * B) (thenL a b) := fun v hv => by
  obtain ⟨u, hu, rfl⟩ := List.mem_map.mp hv
  exact Nat.le_trans (red_short _) (Nat.le_trans (sub_len hb u) (Nat.mul_le_mul_right _ (ha u hu)))
section
variable {m : Nat} {w : List Nat} (S : Surf m w) {z : Sld} (h : canS w z)
include S h
theorem can_num : num (nbS w z) ≠ num (edS w z) := fun q => by
  have he := S.lt (S.ed h.1).2
  have hf := S.lt (S.nb z).2
  rcases num_same hf he q with r | r
  · exact S.ne h r.symm
  · exact h.2.2 r
theorem ov_Wm : ∀ v ∈ ovM m w z, Wm m v := by
  have he := S.mem.mp (S.ed h.1).2
  have hf := S.mem.mp (S.nb z).2
  refine setL_Wm S.m6 ⟨W.cons hf.1 (W1 he.1), fun c hc => ?_⟩
  simp at hc
  rcases hc with rfl | rfl
  · exact hf.2
  · exact he.2
theorem hm_Wm : ∀ v ∈ hmM m w z, Wm m v := by
  have he := S.mem.mp (S.ed h.1).2
  have hf := S.mem.mp (S.nb z).2
  refine setL_Wm S.m6 ⟨W.cons (bk_L hf.1) (W1 he.1), fun c hc => ?_⟩
  simp at hc
  rcases hc with rfl | rfl
  · rw [num_bk hf.1]; exact hf.2
  · exact he.2
theorem slide_undo {u : List Nat} (hu : Wm m u) : red (sub (hmM m w z) (red (sub (ovM m w z) u))) = red u := by
  have he := S.mem.mp (S.ed h.1).2
  have hf := S.mem.mp (S.nb z).2
  exact undo_word (ws_of (ov_Wm S h)) (ws_of (hm_Wm S h)) (fun c hc hn => undo_letter S.m6 he.1 he.2 hf.1 hf.2 (can_num S h) hc hn) hu
end
theorem cls_leastT {t : List (List Nat)} (ht : Ws t) (u : List Nat) : clsW (sub t (leastTurn u)) = clsW (sub t u) := cls_rt (sub_w ht _) (flat_rt (least_rt u).symm)
theorem step_cls {one ov : List (List Nat)} (h1 : Ws one) (h2 : Ws ov) {u : List Nat} (wu : W u) : clsW (sub (thenL one ov) u) = clsW (sub ov (clsW (sub one u))) := by
  have w1 := sub_w h1 u
  have a1 : clsW (sub (thenL one ov) u) = clsW (sub ov (red (sub one u))) := cls_eq (then_word h1 h2 wu)
  have a2 : clsW (sub ov (red (sub one u))) = clsW (sub ov (clsW (red (sub one u)))) := sub_cls h2 (red_w w1)
  rw [a1, a2, cls_red w1]
theorem map_two {α β γ : Type} {f : α → γ} {g : α → β} {h : β → γ} : ∀ {H : List α}, (∀ u ∈ H, f u = h (g u)) → H.map f = (H.map g).map h
  | [], _ => rfl
  | u :: H, e => by rw [List.map_cons, List.map_cons, List.map_cons, map_two fun v hv => e v (List.mem_cons_of_mem _ hv), e u (List.mem_cons_self ..)]
theorem per_two {f g : List Nat → List Nat} {h k l : List Nat → List Nat} {H H1 H2 : List (List Nat)} (a : ∀ u ∈ H, f u = h (g u)) (p : (H.map g).Perm (H1.map l)) (b : ∀ u ∈ H1, k u = h (l u)) (q : (H1.map k).Perm (H2.map l)) : (H.map f).Perm (H2.map l) := by
  rw [map_two a]
  refine (p.map h).trans ?_
  rw [← map_two b]
  exact q
theorem step_per {one ov : List (List Nat)} {H H1 H2 : List (List Nat)} (h1 : Ws one) (h2 : Ws ov) (hw : ∀ u ∈ H, W u) (p : (H.map (clsS one)).Perm (H1.map leastTurn)) (q : (H1.map (clsS ov)).Perm (H2.map leastTurn)) : (H.map (clsS (thenL one ov))).Perm (H2.map leastTurn) :=
  per_two (h := clsS ov) (fun u hu => step_cls h1 h2 (hw u hu)) p (fun u _ => (cls_leastT h2 u).symm) q
theorem step_undo {m : Nat} {one ov hm home : List (List Nat)} (h1 : ∀ v ∈ one, Wm m v) (h2 : ∀ v ∈ ov, Wm m v) (h3 : Ws hm) (h4 : Ws home) (un : ∀ {u : List Nat}, Wm m u → red (sub hm (red (sub ov u))) = red u) (ih : ∀ {u : List Nat}, Wm m u → red (sub home (red (sub one u))) = red u) {u : List Nat} (hu : Wm m u) : red (sub (thenL hm home) (red (sub (thenL one ov) u))) = red u := by
  have w1 : Wm m (sub one u) := sub_WmB h1 u
  rw [then_word h3 h4 (red_w (sub_w (ws_of (then_Wm h2)) u)), then_word (ws_of h1) (ws_of h2) hu.1, un (red_Wm w1), red_red w1.1]
  exact ih hu
theorem told_ok {m : Nat} {w : List Nat} (S : Surf m w) : ∀ (n : Nat) {zs : List Sld}, zs.length = n → allCan w zs → ToldOk m n w (told m w zs)
  | 0, zs, hn, _ => by
    have e : zs = [] := List.length_eq_zero_iff.mp hn
    subst e
    have pw := plain_Wm S.m6
    refine ⟨S, pw, pw, plainL_len S.m6, plainL_len S.m6, ?_, ?_, ?_, ?_⟩
    · intro v hv
      unfold told plainL at hv
      obtain ⟨c, _, rfl⟩ := List.mem_map.mp hv
      exact Nat.le_refl _
    · intro v hv
      unfold told plainL at hv
      obtain ⟨c, _, rfl⟩ := List.mem_map.mp hv
      exact Nat.le_refl _
    · have e : ((hol w).map (clsS (plainL m))) = (hol w).map leastTurn := List.map_congr_left fun u hu => by
        have mu : ∀ d ∈ u, d ∈ w := fun d hd => S.rowN.holes.sub hu hd
        have wu : Wm m u := ⟨fun d hd => S.lt (mu d hd), fun d hd => (S.mem.mp (mu d hd)).2⟩
        unfold clsS
        rw [sub_plain S.m6 wu]
        exact cls_round (orb_rd wu.1 (S.rowN.holes.1 u hu) fun d hd => S.rowN.ph_ne (mu d hd))
      show ((hol w).map (clsS (plainL m))).Perm ((hol w).map leastTurn)
      rw [e]
    · intro u hu
      show red (sub (plainL m) (red (sub (plainL m) u))) = red u
      rw [sub_plain S.m6 hu, sub_plain S.m6 (red_Wm hu)]
      exact (red_self (red_w hu.1)).mpr ((red_self (red_w hu.1)).mp (red_red hu.1))
  | n + 1, zs, hn, hc => by
    have ne : zs ≠ [] := fun z => by subst z; cases hn
    obtain ⟨ys, z, rfl⟩ : ∃ ys z, zs = ys ++ [z] := ⟨zs.dropLast, zs.getLast ne, (List.dropLast_concat_getLast ne).symm⟩
    have ln : ys.length = n := by rw [List.length_append] at hn; simpa using hn
    obtain ⟨c1, c2⟩ := (allCan_snoc (m := m) (o := plainL m) (h := plainL m)).mp hc
    have T := told_ok S n ln c1
    have e : told m w (ys ++ [z]) = tStep m (told m w ys) z := by unfold told; rw [List.foldl_append]; rfl
    rw [e]
    have c2 : canS (told m w ys).1 z := c2
    generalize told m w ys = t at *
    have S' := T.surf
    have ow := ov_Wm S' c2
    have hw := hm_Wm S' c2
    refine ⟨S'.slid c2, then_Wm ow, then_Wm T.wh, by show (thenL _ _).length = m; rw [thenL_len]; exact T.lo, by show (thenL _ _).length = m; rw [thenL_len]; exact setL_len S'.m6, ?_, ?_, ?_, ?_⟩
    · have := then_short T.so (B := 2) (b := ovM m t.1 z) (setL_short (by omega) (by simp))
      rw [Nat.pow_succ]; exact this
    · have := then_short (A := 2) (a := hmM m t.1 z) (setL_short (by omega) (by simp)) T.sh
      rw [Nat.pow_succ, Nat.mul_comm]; exact this
    · exact step_per (ws_of T.wo) (ws_of ow) (fun u hu d hd => S.lt (S.rowN.holes.sub hu hd)) T.per (slide_holes S' c2)
    · intro u hu
      exact step_undo T.wo ow (ws_of hw) (ws_of T.wh) (fun hu => slide_undo S' c2 hu) T.undo hu
end W_k65
namespace W_k65
open PySem PySem.Spec PyProof.Rows L2 GB
theorem tb_run {nw ov hm zd ovz hmz ov' hm' nw' pr : D} {n : Int} {x0 x1 x7 x8 : Option S} (h7 : sf x7) (h8 : sf x8)
    (y1 : F_ends_of [.fz nw, .fz zd, .fz (.int n)] = .ok (.fz pr) [.fz nw, .fz zd, .fz (.int n)]) (y2 : F_maps_of [.fz nw, .fz zd] = .ok (.fz (.tup [ovz, hmz])) [.fz nw, .fz zd])
    (y3 : F_then [.fz ov, .fz ovz] = .ok (.fz ov') [.fz ov, .fz ovz]) (y4 : F_then [.fz hmz, .fz hm] = .ok (.fz hm') [.fz hmz, .fz hm]) (y5 : F_slid [.fz nw, .fz zd] = .ok (.fz nw') [.fz nw, .fz zd]) :
    fb_told_by_1 [x0, x1, some (.fz nw), some (.fz ov), some (.fz hm), some (.fz (.int n)), some (.fz zd), x7, x8] = .nx [x0, x1, some (.fz nw'), some (.fz ov'), some (.fz hm'), some (.fz (.int n)), some (.fz zd), some (.fz ovz), some (.fz hmz)] := by
  rcases h7 with rfl | ⟨z, rfl⟩ <;> rcases h8 with rfl | ⟨z', rfl⟩ <;> simp [fb_told_by_1, fAsg, ofR, gTpU, y1, y2, y3, y4, y5]
theorem Surf.ends {m : Nat} {w : List Nat} (S : Surf m w) {z : Sld} (h : canS w z) (n : Int) : F_ends_of [.fz (.str w), .fz (sldD z), .fz (.int n)] = .ok (.fz (.tup [.str [edS w z], .str [nbS w z]])) [.fz (.str w), .fz (sldD z), .fz (.int n)] := by
  have l := S.len
  have := S.m6
  exact ends_eq (by omega) (S.ed h.1).1 (S.nbI_lt z).2 (S.nb z).1 (S.lt (S.ed h.1).2) h.2.2
theorem Surf.maps {m : Nat} {w : List Nat} (S : Surf m w) {z : Sld} (h : canS w z) : F_maps_of [.fz (.str w), .fz (sldD z)] = .ok (.fz (.tup [mapD (ovM m w z), mapD (hmM m w z)])) [.fz (.str w), .fz (sldD z)] :=
  maps_eq S.m6 S.len (S.ed h.1).1 (S.nbI_lt z).2 (S.nb z).1 (S.lt (S.ed h.1).2) (S.mem.mp (S.ed h.1).2).2 (S.lt (S.nb z).2) h.2.2
theorem Surf.slidF {m : Nat} {w : List Nat} (S : Surf m w) {z : Sld} (h : canS w z) : F_slid [.fz (.str w), .fz (sldD z)] = .ok (.fz (.str (slS w z))) [.fz (.str w), .fz (sldD z)] := by
  have l := S.len
  have := S.m6
  exact slidF_eq (by omega) (S.ed h.1).1 (S.nbI_lt z).2 (S.nb z).1 (S.lt (S.ed h.1).2) (S.lt (S.nb z).2) h.2.2 S.nd (S.bkm (S.nb z).2) h.2.1
theorem pow_le {n : Nat} (h : n ≤ 16) : 2 ^ n ≤ 65536 := Nat.pow_le_pow_right (n := 2) (by omega) h
theorem tb_turn {m n : Nat} {w : List Nat} {t : Tld} (T : ToldOk m n w t) (hn : n < 16) {z : Sld} (h : canS t.1 z) {k : Int} {x0 x1 x7 x8 : Option S} (h7 : sf x7) (h8 : sf x8) :
    fb_told_by_1 [x0, x1, some (.fz (.str t.1)), some (.fz (mapD t.2.1)), some (.fz (mapD t.2.2)), some (.fz (.int k)), some (.fz (sldD z)), x7, x8] = .nx [x0, x1, some (.fz (.str (tStep m t z).1)), some (.fz (mapD (tStep m t z).2.1)), some (.fz (mapD (tStep m t z).2.2)), some (.fz (.int k)), some (.fz (sldD z)), some (.fz (mapD (ovM m t.1 z))), some (.fz (mapD (hmM m t.1 z)))] := by
  have S := T.surf
  have m6 := S.m6
  have pn := pow_le (n := n) (by omega)
  have pn2 : 2 ^ n * 2 ≤ 65536 := by
    have := pow_le (n := n + 1) (by omega)
    rwa [Nat.pow_succ] at this
  have so : shortL 2 (ovM m t.1 z) := setL_short (by omega) (by simp)
  have sh : shortL 2 (hmM m t.1 z) := setL_short (by omega) (by simp)
  have lo : (ovM m t.1 z).length = m := setL_len m6
  have lh : (hmM m t.1 z).length = m := setL_len m6
  have y3 := then_eq (one := t.2.1) (other := ovM m t.1 z) (ws_of (ov_Wm S h)) so T.so (by rw [lo]; exact T.wo) (by omega) (by omega) (by omega) (by rw [T.lo]; omega)
  have y4 := then_eq (one := hmM m t.1 z) (other := t.2.2) (ws_of T.wh) T.sh sh (by rw [T.lh]; exact hm_Wm S h) (by omega) (by omega) (by omega) (by rw [lh]; omega)
  exact tb_run h7 h8 (S.ends h k) (S.maps h) y3 y4 (S.slidF h)
theorem told_take {m : Nat} {w : List Nat} {zs : List Sld} {i : Nat} (hi : i < zs.length) : told m w (zs.take (i + 1)) = tStep m (told m w (zs.take i)) zs[i] := by
  unfold told
  rw [List.take_succ, List.getElem?_eq_getElem hi, List.foldl_append]
  rfl
theorem allCan_app {m : Nat} : ∀ {zs ys : List Sld} {w : List Nat} {o h : List (List Nat)}, allCan w (zs ++ ys) ↔ allCan w zs ∧ allCan (zs.foldl (tStep m) (w, o, h)).1 ys
  | [], ys, w, o, h => by simp [allCan]
  | y :: zs, ys, w, o, h => by
    show canS w y ∧ allCan (slS w y) (zs ++ ys) ↔ (canS w y ∧ allCan (slS w y) zs) ∧ _
    rw [allCan_app (m := m) (zs := zs) (o := thenL o (ovM m w y)) (h := thenL (hmM m w y) h), and_assoc]
    rfl
theorem allCan_at {m : Nat} {w : List Nat} {zs : List Sld} (hc : allCan w zs) {i : Nat} (hi : i < zs.length) : allCan w (zs.take i) ∧ canS (told m w (zs.take i)).1 zs[i] := by
  have e : zs = zs.take i ++ zs[i] :: zs.drop (i + 1) := by
    rw [List.getElem_cons_drop, List.take_append_drop]
  rw [e] at hc
  obtain ⟨a, b⟩ := (allCan_app (m := m) (o := plainL m) (h := plainL m)).mp hc
  exact ⟨a, b.1⟩
theorem tb_for {m : Nat} {w : List Nat} (S : Surf m w) {zs : List Sld} (hc : allCan w zs) (hn : zs.length ≤ 16) : ∃ y5 y6 y7 y8, forL (gTp 2 (gsCons (gNm 5) (gsCons (gNm 6) gsNil))) fb_told_by_1 ((zs.map sldD).zipIdx.map fun z => D.tup [.int (z.2 : Nat), z.1]) [some (.fz (.str w)), some (.fz (.tup (zs.map sldD))), some (.fz (.str w)), some (.fz (mapD (plainL m))), some (.fz (mapD (plainL m))), none, none, none, none] =
    .nx [some (.fz (.str w)), some (.fz (.tup (zs.map sldD))), some (.fz (.str (told m w zs).1)), some (.fz (mapD (told m w zs).2.1)), some (.fz (mapD (told m w zs).2.2)), y5, y6, y7, y8] := by
  obtain ⟨r', e, y5, y6, y7, y8, k5, k6, k7, k8, rfl⟩ := forL_inv (fg := gTp 2 (gsCons (gNm 5) (gsCons (gNm 6) gsNil))) (f := fb_told_by_1) (ds := (zs.map sldD).zipIdx.map fun z => D.tup [.int (z.2 : Nat), z.1]) (r := [some (.fz (.str w)), some (.fz (.tup (zs.map sldD))), some (.fz (.str w)), some (.fz (mapD (plainL m))), some (.fz (mapD (plainL m))), none, none, none, none])
    (fun i r => ∃ y5 y6 y7 y8, sf y5 ∧ sf y6 ∧ sf y7 ∧ sf y8 ∧ r = [some (.fz (.str w)), some (.fz (.tup (zs.map sldD))), some (.fz (.str (told m w (zs.take i)).1)), some (.fz (mapD (told m w (zs.take i)).2.1)), some (.fz (mapD (told m w (zs.take i)).2.2)), y5, y6, y7, y8]) ⟨none, none, none, none, sf_n, sf_n, sf_n, sf_n, rfl⟩ (by
      rintro i d r hd ⟨y5, y6, y7, y8, k5, k6, k7, k8, rfl⟩
      have hi : i < zs.length := by have := lt_of_at hd; simpa using this
      have hd' : d = .tup [.int (i : Nat), sldD zs[i]] := by
        rw [List.getElem?_map, List.getElem?_zipIdx, List.getElem?_map, List.getElem?_eq_getElem hi] at hd
        simp at hd
        exact hd.symm
      subst hd'
      obtain ⟨c1, c2⟩ := allCan_at (m := m) hc hi
      have T := told_ok S i (by rw [List.length_take]; omega) c1
      have y := tb_turn T (by omega) c2 (k := (i : Nat)) (x0 := some (.fz (.str w))) (x1 := some (.fz (.tup (zs.map sldD)))) k7 k8
      rw [← told_take hi] at y
      refine ⟨_, ?_, _, .inl y, _, _, _, _, sf_f, sf_f, sf_f, sf_f, rfl⟩
      rcases k5 with rfl | ⟨q, rfl⟩ <;> rcases k6 with rfl | ⟨q', rfl⟩ <;> simp)
  have el : ((zs.map sldD).zipIdx.map fun z => D.tup [.int (z.2 : Nat), z.1]).length = zs.length := by simp
  rw [el, List.take_length] at e
  exact ⟨y5, y6, y7, y8, e⟩
theorem told_by_eq {m : Nat} {w : List Nat} (S : Surf m w) {zs : List Sld} (hc : allCan w zs) (hn : zs.length ≤ 16) : F_told_by [.fz (.str w), .fz (.tup (zs.map sldD))] = .ok (.fz (.tup [.str (told m w zs).1, mapD (told m w zs).2.1, mapD (told m w zs).2.2])) [.fz (.str w), .fz (.tup (zs.map sldD))] := by
  obtain ⟨y5, y6, y7, y8, go⟩ := tb_for S hc hn
  have l := S.len
  have m6 := S.m6
  have ln : (fLen (.fz (.str w)) : Option GB.S) = some (.fz (.int (w.length : Nat))) := by rw [s_lenS, if_pos (big_of (by omega))]
  have dv : ((w.length : Nat) : Int) / 2 = (m : Nat) := by omega
  have yp := plain_eq m6
  rw [F_told_by_eq]
  generalize told m w zs = t at *
  generalize zs.map sldD = L at *
  generalize mapD (plainL m) = pd at *
  obtain ⟨t1, t2, t3⟩ := t
  dsimp only at go ⊢
  generalize mapD t2 = d2 at *
  generalize mapD t3 = d3 at *
  have lp : fFor (eCons (eVar 1) eNil) mkEnumU (gTp 2 (gsCons (gNm 5) (gsCons (gNm 6) gsNil))) fb_told_by_1 [some (.fz (.str w)), some (.fz (.tup L)), some (.fz (.str w)), some (.fz pd), some (.fz pd), none, none, none, none] = _ := (for_lfz (i := 1) (d := .tup L) rfl rfl rfl).trans go
  refine runF_rt (r := [some (.fz (.str w)), some (.fz (.tup L)), some (.fz (.str t1)), some (.fz d2), some (.fz d3), y5, y6, y7, y8]) rfl ?_ rfl
  have e0 : startR 9 [GB.S.fz (.str w), .fz (.tup L)] = [some (.fz (.str w)), some (.fz (.tup L)), none, none, none, none, none, none, none] := rfl
  rw [e0]
  simp [b_told_by, ln, fDivI, dv, yp, lp, -s_fFor, -s_lenS]
end W_k65
namespace W_k65
open PySem PySem.Spec PyProof.Rows L2 GB
theorem drN {k : List (Key × D)} (t : Feed k) {m : Nat} (h : 0 < m) (h2 : m < 1000000) : ∃ n k', n < m ∧ Feed k' ∧ F__law_draw [.bd k, .fz (.int (m : Nat))] = .ok (.fz (.int (n : Nat))) [.bd k', .fz (.int (m : Nat))] := by
  obtain ⟨v, k2, h0, hv, t2, y2⟩ := draw_eq t (many := (m : Int)) (by omega) (by omega)
  obtain ⟨n, rfl⟩ := Int.eq_ofNat_of_zero_le h0
  exact ⟨n, k2, by omega, t2, y2⟩
section
variable {k k1 k2 : List (Key × D)} {w nw u : List Nat} {Z R : List D} {x2 x5 x6 x7 x8 : Option S} {n v p s q : Int}
theorem lw_run_no (h6 : sf x6) (h7 : sf x7) (h8 : sf x8) (ln : fLen (.fz (.str w)) = some (.fz (.int n))) (lr : fLen (.ol R) = some (.fz (.int q))) (y1 : F__law_draw [.bd k, .fz (.int n)] = .ok (.fz (.int p)) [.bd k1, .fz (.int n)]) (y2 : F__law_draw [.bd k1, .fz (.int 2)] = .ok (.fz (.int v)) [.bd k2, .fz (.int 2)])
    (as' : atI [D.int 1, D.int (-1)] v = some (.int s)) (ar : atI R (q - 1) = some (.str nw)) (y3 : F__law_slid [.fz (.str nw), .fz (.int p), .fz (.int s)] = .ok (.fz .non) [.fz (.str nw), .fz (.int p), .fz (.int s)]) :
    fb__law_slides_1 [some (.bd k), some (.fz (.str w)), x2, some (.ol Z), some (.ol R), x5, x6, x7, x8] = .nx [some (.bd k2), some (.fz (.str w)), x2, some (.ol Z), some (.ol R), x5, some (.fz (.int p)), some (.fz (.int s)), some (.fz .non)] := by
  have isn : fIsNot (.fz .non) (.fz .non) = some (.fz (.bl false)) := rfl
  rcases h6 with rfl | ⟨z, rfl⟩ <;> rcases h7 with rfl | ⟨z', rfl⟩ <;> rcases h8 with rfl | ⟨z'', rfl⟩ <;> simp [fb__law_slides_1, ln, lr, y1, y2, as', ar, y3, isn, -s_lenS, -s_lenO]
theorem lw_run_yes (h6 : sf x6) (h7 : sf x7) (h8 : sf x8) (hZ : Z.length < 1000000) (hR : R.length < 1000000) (ln : fLen (.fz (.str w)) = some (.fz (.int n))) (lr : fLen (.ol R) = some (.fz (.int q))) (y1 : F__law_draw [.bd k, .fz (.int n)] = .ok (.fz (.int p)) [.bd k1, .fz (.int n)]) (y2 : F__law_draw [.bd k1, .fz (.int 2)] = .ok (.fz (.int v)) [.bd k2, .fz (.int 2)])
    (as' : atI [D.int 1, D.int (-1)] v = some (.int s)) (ar : atI R (q - 1) = some (.str nw)) (y3 : F__law_slid [.fz (.str nw), .fz (.int p), .fz (.int s)] = .ok (.fz (.str u)) [.fz (.str nw), .fz (.int p), .fz (.int s)]) :
    fb__law_slides_1 [some (.bd k), some (.fz (.str w)), x2, some (.ol Z), some (.ol R), x5, x6, x7, x8] = .nx [some (.bd k2), some (.fz (.str w)), x2, some (.ol (Z ++ [.tup [.int p, .int s]])), some (.ol (R ++ [.str u])), x5, some (.fz (.int p)), some (.fz (.int s)), some (.fz (.str u))] := by
  have z1 : Z.length < 16777216 := by omega
  have isn : fIsNot (.fz (.str u)) (.fz .non) = some (.fz (.bl true)) := rfl
  have z2 : R.length < 16777216 := by omega
  rcases h6 with rfl | ⟨z, rfl⟩ <;> rcases h7 with rfl | ⟨z', rfl⟩ <;> rcases h8 with rfl | ⟨z'', rfl⟩ <;> simp [fb__law_slides_1, ln, lr, y1, y2, as', ar, y3, isn, fApp, z1, z2, -s_lenS, -s_lenO]
end
/-- the rows that slides lead to -/
def rowsOf (m : Nat) (w : List Nat) (zs : List Sld) : List (List Nat) := (List.range (zs.length + 1)).map fun i => (told m w (zs.take i)).1
theorem rowsOf_snoc (m : Nat) (w : List Nat) (zs : List Sld) (z : Sld) : rowsOf m w (zs ++ [z]) = rowsOf m w zs ++ [(told m w (zs ++ [z])).1] := by
  unfold rowsOf
  rw [List.length_append, List.length_singleton, List.range_succ, List.map_append]
  congr 1
  · refine List.map_congr_left fun i hi => ?_
    rw [List.take_append_of_le_length (by have := List.mem_range.mp hi; omega)]
  · rw [List.map_singleton, show zs.length + 1 = (zs ++ [z]).length by simp, List.take_length]
theorem rowsOf_len (m : Nat) (w : List Nat) (zs : List Sld) : (rowsOf m w zs).length = zs.length + 1 := by unfold rowsOf; rw [List.length_map, List.length_range]
theorem rowsOf_last (m : Nat) (w : List Nat) (zs : List Sld) : (rowsOf m w zs)[zs.length]? = some (told m w zs).1 := by
  unfold rowsOf
  rw [List.getElem?_map, List.getElem?_range (by omega)]
  show some (told m w (zs.take zs.length)).1 = _
  rw [List.take_length]
theorem told_snoc (m : Nat) (w : List Nat) (zs : List Sld) (z : Sld) : told m w (zs ++ [z]) = tStep m (told m w zs) z := by unfold told; rw [List.foldl_append]; rfl
theorem lw_turn {k : List (Key × D)} (t : Feed k) {m : Nat} {w : List Nat} (S : Surf m w) {zs : List Sld} (hc : allCan w zs) (hn : zs.length ≤ 100) {x2 x5 x6 x7 x8 : Option GB.S} (h6 : sf x6) (h7 : sf x7) (h8 : sf x8) :
    ∃ k' zs' y6 y7 y8, Feed k' ∧ allCan w zs' ∧ zs'.length ≤ zs.length + 1 ∧ sf y6 ∧ sf y7 ∧ sf y8 ∧ fb__law_slides_1 [some (.bd k), some (.fz (.str w)), x2, some (.ol (zs.map sldD)), some (.ol ((rowsOf m w zs).map D.str)), x5, x6, x7, x8] = .nx [some (.bd k'), some (.fz (.str w)), x2, some (.ol (zs'.map sldD)), some (.ol ((rowsOf m w zs').map D.str)), x5, y6, y7, y8] := by
  have l := S.len
  have m1 := S.m1
  have m6 := S.m6
  have T := told_ok S zs.length rfl hc
  have S' := T.surf
  have l' := S'.len
  obtain ⟨p, k1, hp, t1, y1⟩ := drN t (m := w.length) (by omega) (by omega)
  obtain ⟨v, k2, hv, t2, y2⟩ := drN t1 (m := 2) (by omega) (by omega)
  have y2 : F__law_draw [.bd k1, .fz (.int 2)] = .ok (.fz (.int (v : Nat))) [.bd k2, .fz (.int 2)] := y2
  have sd : ∃ s : Int, (s = 1 ∨ s = -1) ∧ atI [D.int 1, D.int (-1)] (v : Nat) = some (.int s) := by
    have : v = 0 ∨ v = 1 := by omega
    rcases this with rfl | rfl
    · exact ⟨1, .inl rfl, rfl⟩
    · exact ⟨-1, .inr rfl, rfl⟩
  obtain ⟨s, hs, as'⟩ := sd
  have ln : (fLen (.fz (.str w)) : Option GB.S) = some (.fz (.int (w.length : Nat))) := by rw [s_lenS, if_pos (big_of (by omega))]
  have lr : (fLen (.ol ((rowsOf m w zs).map D.str)) : Option GB.S) = some (.fz (.int ((zs.length + 1 : Nat) : Int))) := by rw [s_lenO, List.length_map, rowsOf_len]
  have ar : atI ((rowsOf m w zs).map D.str) (((zs.length + 1 : Nat) : Int) - 1) = some (.str (told m w zs).1) := by
    rw [show ((zs.length + 1 : Nat) : Int) - 1 = ((zs.length : Nat) : Int) by omega, atI_n, List.getElem?_map, rowsOf_last]; rfl
  have hp' : p < (told m w zs).1.length := by omega
  have y3 := law_slid_eq (w := (told m w zs).1) (p := p) (s := s) (by omega) (S'.ed (z := (p, s)) hp').1 (S'.nbI_lt (p, s)).2 (S'.nb (p, s)).1 (S'.lt (S'.ed (z := (p, s)) hp').2) (S'.lt (S'.nb (p, s)).2) hs
  by_cases c : nbS (told m w zs).1 (p, s) = bk (edS (told m w zs).1 (p, s))
  · rw [if_pos c] at y3
    exact ⟨k2, zs, _, _, _, t2, hc, by omega, sf_f, sf_f, sf_f, lw_run_no h6 h7 h8 ln lr y1 y2 as' ar y3⟩
  · rw [if_neg c] at y3
    have can : canS (told m w zs).1 (p, s) := ⟨hp', hs, c⟩
    refine ⟨k2, zs ++ [(p, s)], some (.fz (.int (p : Nat))), some (.fz (.int s)), some (.fz (.str (slS (told m w zs).1 (p, s)))), t2, (allCan_snoc (m := m) (o := plainL m) (h := plainL m)).mpr ⟨hc, can⟩, by simp, sf_f, sf_f, sf_f, ?_⟩
    have e := lw_run_yes (x2 := x2) (x5 := x5) (Z := zs.map sldD) (R := (rowsOf m w zs).map D.str) h6 h7 h8 (by rw [List.length_map]; omega) (by rw [List.length_map, rowsOf_len]; omega) ln lr y1 y2 as' ar y3
    rw [rowsOf_snoc, told_snoc, List.map_append, List.map_append]
    exact e
theorem ag_gen {qm : Pr} {k k1 : List (Key × D)} {w : List Nat} {mo n l q j : Int} {r3 r4 r5 r6 r7 r8 : Option S} (y1 : F__law_draw [.bd k, .fz (.int (mo + 1))] = .ok (.fz (.int n)) [.bd k1, .fz (.int (mo + 1))]) (ln : fLen (.fz (.str w)) = some (.fz (.int l))) (hj : fInt1 (.fz (.bl (decide (2 < l)))) = some (.fz (.int j))) (m1 : qm [.fz (.int n), .fz (.int j)] = some (.fz (.int q))) :
    (eCons (e2 qm (eFn F__law_draw (eCons (eVar 0) (eCons (e2 (p2 fAdd) (eVar 2) (eC (.int 1))) eNil))) (e1 (p1 fInt1) (e2 qGt (e1 (p1 fLen) (eVar 1)) (eC (.int 2))))) eNil) [some (.bd k), some (.fz (.str w)), some (.fz (.int mo)), r3, r4, r5, r6, r7, r8] = .ok [.val (.fz (.int q))] [some (.bd k1), some (.fz (.str w)), some (.fz (.int mo)), r3, r4, r5, r6, r7, r8] := by
  simp [y1, ln, hj, m1, -s_lenS]
noncomputable def ls_0 : Rho → Fl := (fSet 3 (eLst eNil))
noncomputable def ls_1 : Rho → Fl := (fSet 4 (eLst (eCons (eVar 1) eNil)))
noncomputable def ls_2 : Rho → Fl := (fFor (eCons (e2 qMul (eFn F__law_draw (eCons (eVar 0) (eCons (e2 (p2 fAdd) (eVar 2) (eC (.int 1))) eNil))) (e1 (p1 fInt1) (e2 qGt (e1 (p1 fLen) (eVar 1)) (eC (.int 2))))) eNil) mkR1 (gNm 5) fb__law_slides_1)
noncomputable def ls_3 : Rho → Fl := (fRet (eTup (eCons (eVar 3) (eCons (eVar 4) eNil))))
theorem ls_cut : b__law_slides = fSeq ls_0 (fSeq ls_1 (fSeq ls_2 ls_3)) := rfl
theorem ls_join {k k2 : List (Key × D)} {w : List Nat} {mo : Int} {Z R : List D} {y5 y6 y7 y8 : Option S} (lp : ls_2 [some (.bd k), some (.fz (.str w)), some (.fz (.int mo)), some (.ol []), some (.ol [.str w]), none, none, none, none] = .nx [some (.bd k2), some (.fz (.str w)), some (.fz (.int mo)), some (.ol Z), some (.ol R), y5, y6, y7, y8]) :
    F__law_slides [.bd k, .fz (.str w), .fz (.int mo)] = .ok (.fz (.tup [.lst Z, .lst R])) [.bd k2, .fz (.str w), .fz (.int mo)] := by
  have r0 : ls_0 [some (.bd k), some (.fz (.str w)), some (.fz (.int mo)), none, none, none, none, none, none] = .nx [some (.bd k), some (.fz (.str w)), some (.fz (.int mo)), some (.ol []), none, none, none, none, none] := by simp [ls_0]
  have r1 : ls_1 [some (.bd k), some (.fz (.str w)), some (.fz (.int mo)), some (.ol []), none, none, none, none, none] = .nx [some (.bd k), some (.fz (.str w)), some (.fz (.int mo)), some (.ol []), some (.ol [.str w]), none, none, none, none] := by simp [ls_1]
  have r3 : ∃ z3 z4, ls_3 [some (.bd k2), some (.fz (.str w)), some (.fz (.int mo)), some (.ol Z), some (.ol R), y5, y6, y7, y8] = .rt (.fz (.tup [.lst Z, .lst R])) [some (.bd k2), some (.fz (.str w)), some (.fz (.int mo)), z3, z4, y5, y6, y7, y8] := ⟨_, _, by simp [ls_3]; exact ⟨rfl, rfl⟩⟩
  obtain ⟨z3, z4, r3⟩ := r3
  rw [F__law_slides_eq]
  refine runF_rt (r := [some (.bd k2), some (.fz (.str w)), some (.fz (.int mo)), z3, z4, y5, y6, y7, y8]) rfl ?_ rfl
  have e0 : startR 9 [S.bd k, .fz (.str w), .fz (.int mo)] = [some (.bd k), some (.fz (.str w)), some (.fz (.int mo)), none, none, none, none, none, none] := rfl
  rw [e0, ls_cut, s_fSeq, r0]; dsimp only
  rw [s_fSeq, r1]; dsimp only
  rw [s_fSeq, lp]; dsimp only
  exact r3
theorem law_slides_eq {k : List (Key × D)} (t : Feed k) {m mo : Nat} {w : List Nat} (S : Surf m w) (hm : mo ≤ 50) :
    ∃ k' zs, Feed k' ∧ allCan w zs ∧ zs.length ≤ mo ∧ F__law_slides [.bd k, .fz (.str w), .fz (.int (mo : Nat))] = .ok (.fz (.tup [.lst (zs.map sldD), .lst ((rowsOf m w zs).map D.str)])) [.bd k', .fz (.str w), .fz (.int (mo : Nat))] := by
  have l := S.len
  have m6 := S.m6
  obtain ⟨n, k1, hn, t1, y1⟩ := drN t (m := mo + 1) (by omega) (by omega)
  have y1 : F__law_draw [.bd k, .fz (.int ((mo : Nat) + 1))] = .ok (.fz (.int (n : Nat))) [.bd k1, .fz (.int ((mo : Nat) + 1))] := y1
  have ln : (fLen (.fz (.str w)) : Option GB.S) = some (.fz (.int (w.length : Nat))) := by rw [s_lenS, if_pos (big_of (by omega))]
  have agq : ∃ q, q ≤ mo ∧ ∃ jj : Int, fInt1 (.fz (.bl (decide ((2 : Int) < (w.length : Nat))))) = some (.fz (.int jj)) ∧ qMul [.fz (.int (n : Nat)), .fz (.int jj)] = some (.fz (.int (q : Nat))) := by
    by_cases h : (2 : Int) < (w.length : Nat)
    · refine ⟨n, by omega, 1, by rw [decide_eq_true h]; rfl, ?_⟩
      rw [mulI_s (by omega) (by omega), Int.mul_one]
    · refine ⟨0, by omega, 0, by rw [decide_eq_false h]; rfl, ?_⟩
      rw [mulI_s (by omega) (by omega), Int.mul_zero]; rfl
  obtain ⟨q, hq, jj, hj, m1⟩ := agq
  obtain ⟨r', e, k2, zs, y5, y6, y7, y8, t2, hc, hz, k5, k6, k7, k8, rfl⟩ := forL_inv (fg := gNm 5) (f := fb__law_slides_1) (ds := upFrom 0 q) (r := [some (.bd k1), some (.fz (.str w)), some (.fz (.int (mo : Nat))), some (.ol []), some (.ol [.str w]), none, none, none, none])
    (fun i r => ∃ k zs y5 y6 y7 y8, Feed k ∧ allCan w zs ∧ zs.length ≤ i ∧ sf y5 ∧ sf y6 ∧ sf y7 ∧ sf y8 ∧ r = [some (.bd k), some (.fz (.str w)), some (.fz (.int (mo : Nat))), some (.ol (zs.map sldD)), some (.ol ((rowsOf m w zs).map D.str)), y5, y6, y7, y8]) ⟨k1, [], none, none, none, none, t1, True.intro, Nat.le_refl _, sf_n, sf_n, sf_n, sf_n, rfl⟩ (by
      rintro i d r hd ⟨k, zs, y5, y6, y7, y8, t, hc, hz, k5, k6, k7, k8, rfl⟩
      obtain ⟨hi, rfl⟩ := upFrom_get hd
      obtain ⟨k', zs', z6, z7, z8, t', hc', hz', g6, g7, g8, y⟩ := lw_turn t S hc (by omega) (x2 := some (.fz (.int (mo : Nat)))) (x5 := some (.fz (.int (0 + (i : Nat))))) k6 k7 k8
      refine ⟨_, ?_, _, .inl y, k', zs', _, z6, z7, z8, t', hc', by omega, sf_f, g6, g7, g8, rfl⟩
      rcases k5 with rfl | ⟨z, rfl⟩ <;> simp)
  rw [upFrom_len] at hz
  have ag := ag_gen (qm := qMul) (r3 := some (.ol [])) (r4 := some (.ol [.str w])) (r5 := none) (r6 := none) (r7 := none) (r8 := none) y1 ln hj m1
  have lp : ls_2 [some (.bd k), some (.fz (.str w)), some (.fz (.int (mo : Nat))), some (.ol []), some (.ol [.str w]), none, none, none, none] = _ := (for_r1 (n := q) ag (by omega)).trans e
  exact ⟨k2, zs, t2, hc, by omega, ls_join lp⟩
end W_k65
namespace W_k65
open PySem PySem.Spec PyProof.Rows L2 GB
theorem srt_ws : ∀ ws : List (List Nat), fSrt (.ol (ws.map D.str)) = some (.ol ((sortT ws).map D.str))
  | [] => by
    show some (S.ol ((sortI []).map D.int)) = some (S.ol ((sortT []).map D.str))
    simp [sortI, sortT]
  | w :: ws => by
    have h1 : numsOfD ((w :: ws).map D.str) = none := rfl
    have h2 := strsOf_ws (w :: ws)
    show (match numsOfD ((w :: ws).map D.str), strsOf ((w :: ws).map D.str) with
      | some ns, _ => some (S.ol ((sortI ns).map D.int))
      | none, some ws => some (.ol ((sortT ws).map D.str))
      | none, none => none) = _
    rw [h1, h2]
theorem nub_nd : ∀ (n : Nat) {ws : List (List Nat)}, ws.length = n → ws.Nodup → nubK ws = ws
  | 0, ws, hn, _ => by rw [List.length_eq_zero_iff.mp hn]; rfl
  | n + 1, ws, hn, nd => by
    have ne : ws ≠ [] := fun z => by subst z; cases hn
    obtain ⟨ys, z, rfl⟩ : ∃ ys z, ws = ys ++ [z] := ⟨ws.dropLast, ws.getLast ne, (List.dropLast_concat_getLast ne).symm⟩
    obtain ⟨n1, _, n3⟩ := List.nodup_append.mp nd
    rw [nubK_snoc, nub_nd n (by rw [List.length_append] at hn; simpa using hn) n1]
    unfold addK
    rw [if_neg]
    intro h
    obtain ⟨y, hy, e⟩ := List.any_eq_true.mp h
    exact n3 y hy z (List.mem_singleton.mpr rfl) (by simpa using e)
theorem lenSet_ws {ws : List (List Nat)} (nd : ws.Nodup) (hl : ws.length ≤ 64) : fLenSet (.ol (ws.map D.str)) = some (.fz (.int (ws.length : Nat))) := by
  show (match strsOf (ws.map D.str) with
    | some ws => if ws.length ≤ 64 then some (S.fz (.int ((nubK ws).length : Nat))) else none
    | none => none) = _
  rw [strsOf_ws]
  dsimp only
  rw [if_pos hl, nub_nd ws.length rfl nd]
/-- rounds are unlike, up to turning -/
theorem cd_least_nd {f : Nat → Nat} {X : List Nat} (nd : X.Nodup) : ∀ {A : List (List Nat)}, CD f X A → (A.map leastTurn).Nodup := by
  intro A c
  have fl := c.2.nodup_iff.mpr nd
  have ne : ∀ u ∈ A, u ≠ [] := fun u hu => by
    obtain ⟨x, s, rfl, _⟩ := c.1 u hu
    simp
  clear c
  induction A with
  | nil => exact List.nodup_nil
  | cons u A ih =>
    rw [List.flatten_cons] at fl
    obtain ⟨_, f2, f3⟩ := List.nodup_append.mp fl
    rw [List.map_cons]
    refine List.nodup_cons.mpr ⟨fun h => ?_, ih f2 fun v hv => ne v (List.mem_cons_of_mem _ hv)⟩
    obtain ⟨v, hv, e⟩ := List.mem_map.mp h
    have r := least_iff.mp e
    obtain ⟨x, hx⟩ := List.exists_mem_of_ne_nil u (ne u (List.mem_cons_self ..))
    exact f3 x hx x (List.mem_flatten.mpr ⟨v, hv, r.perm.mem_iff.mpr hx⟩) rfl
noncomputable def lr_0 : Rho → Fl := (fAsg (gTpU 3 (gsCons (gNm 2) (gsCons (gNm 3) (gsCons (gNm 4) gsNil)))) (eFn F_told_by (eCons (eVar 0) (eCons (e1 (p1 fTupU) (eVar 1)) eNil))))
noncomputable def lr_1 : Rho → Fl := (fSet 5 (eFn F_holes (eCons (eVar 0) eNil)))
noncomputable def lr_2 : Rho → Fl := (fSet 6 (eLc (eCons (eFn F_holes (eCons (eVar 2) eNil)) eNil) mkSeq (gNm 9) eYes ce__law_right_5 [9]))
noncomputable def lr_3 : Rho → Fl := (fIf (eOrT (eBl (e2 (p2 fNe) (eVar 5) (eFn F__law_holes (eCons (eVar 0) eNil)))) (eOrT (eBl (e2 (p2 fNe) (e1 (p1 fLen) (eVar 6)) (e1 (p1 fLen) (eVar 5)))) (eBl (e2 (p2 fNe) (eFn F_handles (eCons (eVar 2) eNil)) (eFn F_handles (eCons (eVar 0) eNil)))))) (fRet (eC (.bl false)))
  fNil)
noncomputable def lr_4 : Rho → Fl := (fSet 7 (eLc (eCons (eVar 5) eNil) mkSeq (gNm 9) eYes ce__law_right_4 [9]))
noncomputable def lr_5 : Rho → Fl := (fIf (eOrT (eBl (e2 (p2 fNe) (e1 (p1 fSrt) (eVar 7)) (e1 (p1 fSrt) (eVar 6)))) (eBl (e2 (p2 fNe) (e1 (p1 fLenSet) (eVar 7)) (e1 (p1 fLen) (eVar 7))))) (fRet (eC (.bl false)))
  fNil)
noncomputable def lr_6 : Rho → Fl := (fSet 8 (e1 (p1 fSrt) (eLc (eCons (eFn F_holes (eCons (eVar 2) eNil)) eNil) mkSeq (gNm 9) eYes ce__law_right_3 [9])))
noncomputable def lr_7 : Rho → Fl := (fIf (eBl (e2 (p2 fNe) (eVar 8) (e1 (p1 fSrt) (eLc (eCons (eVar 5) eNil) mkSeq (gNm 9) eYes ce__law_right_2 [9])))) (fRet (eC (.bl false)))
  fNil)
noncomputable def lr_8 : Rho → Fl := (fRet (e2 (p2 fEq) (eLc (eCons (eVar 5) eNil) mkSeq (gNm 9) ct__law_right_1 ce__law_right_1 [9]) (eLst eNil)))
theorem lr_cut : b__law_right = fSeq lr_0 (fSeq lr_1 (fSeq lr_2 (fSeq lr_3 (fSeq lr_4 (fSeq lr_5 (fSeq lr_6 (fSeq lr_7 lr_8))))))) := rfl
section
variable {wd gd od hd : D} {L A B G G1 G2 W1 W2 : List D} {x2 x3 x4 x5 x6 x7 x8 x9 : Option S} {n h : Int}
theorem lr0_run (yt : F_told_by [.fz wd, .fz (.tup L)] = .ok (.fz (.tup [gd, od, hd])) [.fz wd, .fz (.tup L)]) : lr_0 [some (.fz wd), some (.fz (.lst L)), none, none, none, x5, x6, x7, x8, x9] = .nx [some (.fz wd), some (.fz (.lst L)), some (.fz gd), some (.fz od), some (.fz hd), x5, x6, x7, x8, x9] := by
  have tt : fTupU (.fz (.lst L)) = some (.fz (.tup L)) := rfl
  simp [lr_0, fAsg, ofR, gTpU, yt, tt]
theorem lr1_run {x1 : Option S} (y : F_holes [.fz wd] = .ok (.ol A) [.fz wd]) : lr_1 [some (.fz wd), x1, x2, x3, x4, none, x6, x7, x8, x9] = .nx [some (.fz wd), x1, x2, x3, x4, some (.ol A), x6, x7, x8, x9] := by
  simp [lr_1, y]
theorem lr2_run {x0 x1 : Option S} (lc : eLc (eCons (eFn F_holes (eCons (eVar 2) eNil)) eNil) mkSeq (gNm 9) eYes ce__law_right_5 [9] [x0, x1, x2, x3, x4, x5, none, x7, x8, none] = .ok (.val (.ol G)) [x0, x1, x2, x3, x4, x5, none, x7, x8, none]) : lr_2 [x0, x1, x2, x3, x4, x5, none, x7, x8, none] = .nx [x0, x1, x2, x3, x4, x5, some (.ol G), x7, x8, none] := by
  simp [lr_2, lc, -s_eLc]
theorem lr3_run {x1 : Option S} (y1 : F__law_holes [.fz wd] = .ok (.ol A) [.fz wd]) (ne : fNe (.ol A) (.ol A) = some (.fz (.bl false))) (l1 : fLen (.ol G) = some (.fz (.int n))) (l2 : fLen (.ol A) = some (.fz (.int n))) (y2 : F_handles [.fz gd] = .ok (.fz (.int h)) [.fz gd]) (y3 : F_handles [.fz wd] = .ok (.fz (.int h)) [.fz wd]) :
    lr_3 [some (.fz wd), x1, some (.fz gd), x3, x4, some (.ol A), some (.ol G), x7, x8, x9] = .nx [some (.fz wd), x1, some (.fz gd), x3, x4, some (.ol A), some (.ol G), x7, x8, x9] := by
  simp [lr_3, y1, ne, l1, l2, y2, y3, -s_lenO]
theorem lr4_run {x0 x1 : Option S} (lc : eLc (eCons (eVar 5) eNil) mkSeq (gNm 9) eYes ce__law_right_4 [9] [x0, x1, x2, x3, x4, some (.ol A), x6, none, x8, none] = .ok (.val (.ol G)) [x0, x1, x2, x3, x4, some (.ol A), x6, none, x8, none]) : lr_4 [x0, x1, x2, x3, x4, some (.ol A), x6, none, x8, none] = .nx [x0, x1, x2, x3, x4, some (.ol A), x6, some (.ol G), x8, none] := by
  simp [lr_4, lc, -s_eLc]
theorem lr5_run {x0 x1 : Option S} (s1 : fSrt (.ol G1) = some (.ol W1)) (s2 : fSrt (.ol G2) = some (.ol W1)) (ne : fNe (.ol W1) (.ol W1) = some (.fz (.bl false))) (ls : fLenSet (.ol G1) = some (.fz (.int n))) (l1 : fLen (.ol G1) = some (.fz (.int n))) :
    lr_5 [x0, x1, x2, x3, x4, x5, some (.ol G2), some (.ol G1), x8, x9] = .nx [x0, x1, x2, x3, x4, x5, some (.ol G2), some (.ol G1), x8, x9] := by
  simp [lr_5, s1, s2, ne, ls, l1, -s_lenO]
theorem lr6_run {x0 x1 : Option S} (lc : eLc (eCons (eFn F_holes (eCons (eVar 2) eNil)) eNil) mkSeq (gNm 9) eYes ce__law_right_3 [9] [x0, x1, x2, x3, x4, x5, x6, x7, none, none] = .ok (.val (.ol G)) [x0, x1, x2, x3, x4, x5, x6, x7, none, none]) (s1 : fSrt (.ol G) = some (.ol W1)) : lr_6 [x0, x1, x2, x3, x4, x5, x6, x7, none, none] = .nx [x0, x1, x2, x3, x4, x5, x6, x7, some (.ol W1), none] := by
  simp [lr_6, lc, s1, -s_eLc]
theorem lr7_run {x0 x1 : Option S} (lc : eLc (eCons (eVar 5) eNil) mkSeq (gNm 9) eYes ce__law_right_2 [9] [x0, x1, x2, x3, x4, some (.ol A), x6, x7, some (.ol W1), none] = .ok (.val (.ol G)) [x0, x1, x2, x3, x4, some (.ol A), x6, x7, some (.ol W1), none]) (s1 : fSrt (.ol G) = some (.ol W1)) (ne : fNe (.ol W1) (.ol W1) = some (.fz (.bl false))) : lr_7 [x0, x1, x2, x3, x4, some (.ol A), x6, x7, some (.ol W1), none] = .nx [x0, x1, x2, x3, x4, some (.ol A), x6, x7, some (.ol W1), none] := by
  simp [lr_7, lc, s1, ne, -s_eLc]
theorem lr8_run {R : Rho} (lc : eLc (eCons (eVar 5) eNil) mkSeq (gNm 9) ct__law_right_1 ce__law_right_1 [9] R = .ok (.val (.ol [])) R) : lr_8 R = .rt (.fz (.bl true)) R := by
  have ee : fEq (.ol []) (.ol []) = some (.fz (.bl true)) := GB.eq_self fun d h => nomatch h
  simp [lr_8, lc, ee, -s_eLc]
theorem c5_turn {u v : List Nat} {x0 x1 : Option S} (y : F__law_least [.fz (.str u)] = .ok (.fz (.str v)) [.fz (.str u)]) : cturn (gNm 9) eYes ce__law_right_5 [9] (.str u) [x0, x1, x2, x3, x4, x5, x6, x7, x8, none] = some ([.str v], [x0, x1, x2, x3, x4, x5, x6, x7, x8, none]) := by
  simp [cturn, ce__law_right_5, y]
theorem c2_turn {u v : List Nat} {x0 x1 : Option S} (y : F__law_least [.fz (.str u)] = .ok (.fz (.str v)) [.fz (.str u)]) : cturn (gNm 9) eYes ce__law_right_2 [9] (.str u) [x0, x1, x2, x3, x4, x5, x6, x7, x8, none] = some ([.str v], [x0, x1, x2, x3, x4, x5, x6, x7, x8, none]) := by
  simp [cturn, ce__law_right_2, y]
theorem c4_turn {u v a b : List Nat} {x0 x1 : Option S} (y1 : F_mapped [.fz od, .fz (.str u)] = .ok (.fz (.str a)) [.fz od, .fz (.str u)]) (y2 : F__law_middle [.fz (.str a)] = .ok (.fz (.str b)) [.fz (.str a)]) (y3 : F__law_least [.fz (.str b)] = .ok (.fz (.str v)) [.fz (.str b)]) : cturn (gNm 9) eYes ce__law_right_4 [9] (.str u) [x0, x1, x2, some (.fz od), x4, x5, x6, x7, x8, none] = some ([.str v], [x0, x1, x2, some (.fz od), x4, x5, x6, x7, x8, none]) := by
  simp [cturn, ce__law_right_4, y1, y2, y3]
theorem c3_turn {u v : List Nat} {x0 x1 : Option S} (y1 : F_way_by [.fz hd, .fz (.str u)] = .ok (.fz (.str v)) [.fz hd, .fz (.str u)]) : cturn (gNm 9) eYes ce__law_right_3 [9] (.str u) [x0, x1, x2, x3, some (.fz hd), x5, x6, x7, x8, none] = some ([.str v], [x0, x1, x2, x3, some (.fz hd), x5, x6, x7, x8, none]) := by
  simp [cturn, ce__law_right_3, y1]
theorem c1_turn {u a : List Nat} {x0 x1 : Option S} (y1 : F_mapped [.fz od, .fz (.str u)] = .ok (.fz (.str a)) [.fz od, .fz (.str u)]) (y2 : F_mapped [.fz hd, .fz (.str a)] = .ok (.fz (.str u)) [.fz hd, .fz (.str a)]) (ne : fNe (.fz (.str u)) (.fz (.str u)) = some (.fz (.bl false))) : cturn (gNm 9) ct__law_right_1 ce__law_right_1 [9] (.str u) [x0, x1, x2, some (.fz od), some (.fz hd), x5, x6, x7, x8, none] = some ([], [x0, x1, x2, some (.fz od), some (.fz hd), x5, x6, x7, x8, none]) := by
  simp [cturn, ct__law_right_1, y1, y2, ne]
end
end W_k65
namespace W_k65
open PySem PySem.Spec PyProof.Rows L2 GB
theorem cmp_map {fg : D → Rho → Option Rho} {ft : Rho → Rs Bool} {fe : Rho → Rs Opd} {vs : List Nat} {R : Rho} {f : List Nat → List Nat} {us : List (List Nat)} (hl : us.length ≤ 1000) (h : ∀ u ∈ us, cturn fg ft fe vs (.str u) R = some ([.str (f u)], R)) : cmpL fg ft fe vs (us.map D.str) R [] = .ok ((us.map f).map D.str) R := by
  have e := cmpL_one (fg := fg) (ft := ft) (fe := fe) (vs := vs) (r0 := R) (ds := us.map D.str) (fun d => match d with | .str u => .str (f u) | d => d) (by rw [List.length_map]; omega) (fun d hd => by
    obtain ⟨u, hu, rfl⟩ := List.mem_map.mp hd
    exact h u hu)
  rw [e, List.map_map, List.map_map]
  rfl
theorem cmp_none {fg : D → Rho → Option Rho} {ft : Rho → Rs Bool} {fe : Rho → Rs Opd} {vs : List Nat} {R : Rho} {us : List (List Nat)} (hl : us.length ≤ 1000) (h : ∀ u ∈ us, cturn fg ft fe vs (.str u) R = some ([], R)) : cmpL fg ft fe vs (us.map D.str) R [] = .ok [] R := by
  have e := cmpL_each (fg := fg) (ft := ft) (fe := fe) (vs := vs) (r0 := R) (ds := us.map D.str) (acc := []) (fun _ => []) (by rw [List.length_map]; simp; omega) (fun d hd => by
    obtain ⟨u, hu, rfl⟩ := List.mem_map.mp hd
    exact h u hu)
  have fl : ∀ l : List D, l.flatMap (fun _ => ([] : List D)) = [] := fun l => by induction l with
    | nil => rfl
    | cons a l ih => rw [List.flatMap_cons, ih]; rfl
  rw [e, fl]; rfl
section
variable {m n : Nat} {w : List Nat} (S : Surf m w)
include S
theorem Surf.hol_ok {u : List Nat} (hu : u ∈ hol w) : Wm m u ∧ u.length ≤ 12 ∧ RdW u ∧ u ≠ [] := by
  have c := S.rowN.holes
  have mu : ∀ d ∈ u, d ∈ w := fun d hd => c.sub hu hd
  obtain ⟨_, h2, h3⟩ := S.rowN.hol_W hu
  have l := S.len
  have m6 := S.m6
  exact ⟨⟨fun d hd => S.lt (mu d hd), fun d hd => (S.mem.mp (mu d hd)).2⟩, by omega, orb_rd (fun d hd => S.lt (mu d hd)) (c.1 u hu) fun d hd => S.rowN.ph_ne (mu d hd), h2⟩
theorem Surf.hol_few : (hol w).length ≤ 12 := by
  have l := S.len
  have m6 := S.m6
  have := (hfold_len w w.length).2
  unfold hol
  omega
end
theorem mapped_eqB {cs : List (List Nat)} (hw : Ws cs) {B : Nat} (hs : shortL B cs) {w : List Nat} (h : Wm cs.length w) (hl : w.length * B ≤ 1000000) (hB : B ≤ 100000) (hlw : w.length ≤ 100000) : F_mapped [.fz (mapD cs), .fz (.str w)] = .ok (.fz (.str (red (sub cs w)))) [.fz (mapD cs), .fz (.str w)] := by
  have hs' : shortL 1000000 cs := fun w hw => by have := hs w hw; omega
  have it : itemsOf (.fz (.str w)) = some (w.map sgD) := rfl
  have lc : cmpL (gNm 2) eYes ce_mapped_1 [2] (w.map sgD) [some (.fz (mapD cs)), some (.fz (.str w)), none] [] = .ok ((w.map (bec cs)).map D.str) [some (.fz (mapD cs)), some (.fz (.str w)), none] := by
    rw [cmpL_one (fun d => match d with | .str [c] => .str (bec cs c) | d => d) (by rw [List.length_map]; omega)]
    · rw [List.map_map, List.map_map]; rfl
    · intro d hd
      obtain ⟨c, hc, rfl⟩ := List.mem_map.mp hd
      have := became_eq hw hs' (h.1 c hc) (h.2 c hc)
      simp [cturn, ce_mapped_1, this, sgD]
  have el := lc_lfz (fs := eCons (eVar 1) eNil) (mk := mkSeq) (r := [some (.fz (mapD cs)), some (.fz (.str w)), none]) (i := 1) (d := .str w) (r1 := [some (.fz (mapD cs)), some (.fz (.str w)), none]) (vs := [2]) (by simp) rfl it (by simp) lc
  have sl := sub_len hs w
  have fl : (w.map (bec cs)).flatten = sub cs w := by unfold sub; rw [List.flatMap_def]
  have jn := join_ws (ws := w.map (bec cs)) (by rw [sum_flat, fl]; omega)
  rw [fl] at jn
  have rd := reduced_eq (sub_w hw w) (by omega)
  generalize (w.map (bec cs)).map D.str = L at *
  generalize sub cs w = u at *
  rw [F_mapped_eq]
  simp only [s_runF, b_mapped]
  simp [-s_eLc, el, jn, rd]
theorem mid_len {u : List Nat} (h : W u) : (midK (red u) (coreN (red u))).length ≤ u.length := by
  rw [midK_len]
  have := red_len u
  omega
theorem right_eq {m : Nat} {w : List Nat} (S : Surf m w) {zs : List Sld} (hc : allCan w zs) (hn : zs.length ≤ 8) : F__law_right [.fz (.str w), .fz (.lst (zs.map sldD))] = .ok (.fz (.bl true)) [.fz (.str w), .fz (.lst (zs.map sldD))] := by
  have T := told_ok S zs.length rfl hc
  have yt := told_by_eq S hc (by omega)
  have S' := T.surf
  generalize told m w zs = t at *
  obtain ⟨g, ov, ho⟩ := t
  dsimp only at S' yt
  have po : 2 ^ zs.length ≤ 256 := Nat.pow_le_pow_right (n := 2) (by omega) hn
  have T1 := T.wo
  have T2 := T.wh
  have T3 := T.so
  have T4 := T.sh
  have T5 := T.per
  have T6 : ∀ {u : List Nat}, Wm m u → red (sub ho (red (sub ov u))) = red u := T.undo
  have T7 := T.lo
  have T8 := T.lh
  dsimp only at T1 T2 T3 T4 T5 T7 T8
  have so : shortL 256 ov := fun v hv => Nat.le_trans (T3 v hv) po
  have sh : shortL 256 ho := fun v hv => Nat.le_trans (T4 v hv) po
  have yh := holes_eq S.rowN.row
  have yg := holes_eq S'.rowN.row
  have ylh := lholes_eq S.rowN.row
  have few := S.hol_few
  have few' := S'.hol_few
  have lenE : (hol g).length = (hol w).length := by
    have := T5.length_eq
    rw [List.length_map, List.length_map] at this
    exact this.symm
  have l := S.len
  have l' := S'.len
  have m6 := S.m6
  -- the words over
  have hov : ∀ {u : List Nat}, u ∈ hol w → F_mapped [.fz (mapD ov), .fz (.str u)] = .ok (.fz (.str (red (sub ov u)))) [.fz (mapD ov), .fz (.str u)] := fun {u} hu => by
    obtain ⟨a, b, _, _⟩ := S.hol_ok hu
    exact mapped_eq (ws_of T1) so (by rw [T7]; exact a) (by have := Nat.mul_le_mul_right 256 b; omega) (by omega) (by omega)
  have lov : ∀ {u : List Nat}, u ∈ hol w → (red (sub ov u)).length ≤ 3072 := fun {u} hu => by
    obtain ⟨a, b, _, _⟩ := S.hol_ok hu
    have := red_len (sub ov u)
    have := sub_len so u
    have := Nat.mul_le_mul_right 256 b
    omega
  have c4 : ∀ {x0 x1 x2 x4 x5 x6 x7 x8 : Option GB.S}, cmpL (gNm 9) eYes ce__law_right_4 [9] ((hol w).map D.str) [x0, x1, x2, some (.fz (mapD ov)), x4, x5, x6, x7, x8, none] [] = .ok (((hol w).map (clsS ov)).map D.str) [x0, x1, x2, some (.fz (mapD ov)), x4, x5, x6, x7, x8, none] := by
    intro x0 x1 x2 x4 x5 x6 x7 x8
    refine cmp_map (by omega) fun u hu => ?_
    have lu := lov hu
    have wu := red_w (sub_w (ws_of T1) u)
    have y2 := lmid_eq wu (by omega)
    have lm := mid_len wu
    have y3 := law_least_eq (w := midK (red (red (sub ov u))) (coreN (red (red (sub ov u))))) (by omega)
    have e : leastTurn (midK (red (red (sub ov u))) (coreN (red (red (sub ov u))))) = clsS ov u := cls_red (sub_w (ws_of T1) u)
    rw [e] at y3
    exact c4_turn (hov hu) y2 y3
  have c5 : ∀ {x0 x1 x2 x3 x4 x5 x6 x7 x8 : Option GB.S}, cmpL (gNm 9) eYes ce__law_right_5 [9] ((hol g).map D.str) [x0, x1, x2, x3, x4, x5, x6, x7, x8, none] [] = .ok (((hol g).map leastTurn).map D.str) [x0, x1, x2, x3, x4, x5, x6, x7, x8, none] := by
    intro x0 x1 x2 x3 x4 x5 x6 x7 x8
    refine cmp_map (by omega) fun u hu => ?_
    obtain ⟨_, b, _, _⟩ := S'.hol_ok hu
    exact c5_turn (law_least_eq (by omega))
  have c2 : ∀ {x0 x1 x2 x3 x4 x5 x6 x7 x8 : Option GB.S}, cmpL (gNm 9) eYes ce__law_right_2 [9] ((hol w).map D.str) [x0, x1, x2, x3, x4, x5, x6, x7, x8, none] [] = .ok (((hol w).map leastTurn).map D.str) [x0, x1, x2, x3, x4, x5, x6, x7, x8, none] := by
    intro x0 x1 x2 x3 x4 x5 x6 x7 x8
    refine cmp_map (by omega) fun u hu => ?_
    obtain ⟨_, b, _, _⟩ := S.hol_ok hu
    exact c2_turn (law_least_eq (by omega))
  have c3 : ∀ {x0 x1 x2 x3 x5 x6 x7 x8 : Option GB.S}, cmpL (gNm 9) eYes ce__law_right_3 [9] ((hol g).map D.str) [x0, x1, x2, x3, some (.fz (mapD ho)), x5, x6, x7, x8, none] [] = .ok (((hol g).map (clsS ho)).map D.str) [x0, x1, x2, x3, some (.fz (mapD ho)), x5, x6, x7, x8, none] := by
    intro x0 x1 x2 x3 x5 x6 x7 x8
    refine cmp_map (by omega) fun u hu => ?_
    obtain ⟨a, b, _, _⟩ := S'.hol_ok hu
    have y := way_by_eq (ws_of T2) sh (w := u) (by rw [T8]; exact a) (by have := Nat.mul_le_mul_right 256 b; omega) (by omega) (by omega)
    have e : leastTurn (midK (red (red (sub ho u))) (coreN (red (red (sub ho u))))) = clsS ho u := cls_red (sub_w (ws_of T2) u)
    rw [e] at y
    exact c3_turn y
  have c1 : ∀ {x0 x1 x2 x5 x6 x7 x8 : Option GB.S}, cmpL (gNm 9) ct__law_right_1 ce__law_right_1 [9] ((hol w).map D.str) [x0, x1, x2, some (.fz (mapD ov)), some (.fz (mapD ho)), x5, x6, x7, x8, none] [] = .ok [] [x0, x1, x2, some (.fz (mapD ov)), some (.fz (mapD ho)), x5, x6, x7, x8, none] := by
    intro x0 x1 x2 x5 x6 x7 x8
    refine cmp_none (by omega) fun u hu => ?_
    obtain ⟨a, b, rd, _⟩ := S.hol_ok hu
    have lu := lov hu
    have y2 := mapped_eqB (ws_of T2) sh (w := red (sub ov u)) (by rw [T8]; exact red_Wm (sub_WmB T1 u)) (by have := Nat.mul_le_mul_right 256 lu; omega) (by omega) (by omega)
    rw [T6 a, (red_self a.1).mpr rd.2.1] at y2
    have ne : fNe (.fz (.str u)) (.fz (.str u)) = some (.fz (.bl false)) := by simp
    exact c1_turn (hov hu) y2 ne
  -- sorted alike
  have s1 := srt_ws ((hol w).map (clsS ov))
  have s2 := srt_ws ((hol g).map leastTurn)
  rw [sort_alike T5] at s1
  have wG : ∀ u ∈ sortT ((hol g).map leastTurn), W u := fun u hu => by
    obtain ⟨v, hv, rfl⟩ := List.mem_map.mp ((sortT_perm _).mem_iff.mp hu)
    exact (S'.hol_ok hv).1.1.of_rt (least_rt v)
  have wH : ∀ u ∈ sortT ((hol w).map leastTurn), W u := fun u hu => by
    obtain ⟨v, hv, rfl⟩ := List.mem_map.mp ((sortT_perm _).mem_iff.mp hu)
    exact (S.hol_ok hv).1.1.of_rt (least_rt v)
  have nd : ((hol w).map (clsS ov)).Nodup := T5.nodup_iff.mpr (cd_least_nd S'.nd S'.rowN.holes)
  have ls := lenSet_ws nd (by rw [List.length_map]; omega)
  -- home again
  have P2 : ((hol g).map (clsS ho)).Perm ((hol w).map leastTurn) := by
    have a := (T5.map (clsS ho)).symm
    rw [← map_two (f := clsS ho) (g := leastTurn) (h := clsS ho) (H := hol g) fun u _ => (cls_leastT (ws_of T2) u).symm] at a
    rw [← map_two (f := leastTurn) (g := clsS ov) (h := clsS ho) (H := hol w) fun u hu => by
      obtain ⟨h1, _, rd, _⟩ := S.hol_ok hu
      have w1 := sub_w (ws_of T1) u
      have b1 : clsS ho (clsS ov u) = clsW (sub ho (red (sub ov u))) := by
        have z := sub_cls (ws_of T2) (red_w w1)
        rw [cls_red w1] at z
        exact z.symm
      have b2 : clsW (sub ho (red (sub ov u))) = clsW u := by
        rw [← cls_red (sub_w (ws_of T2) _), T6 h1]
        exact cls_red h1.1
      rw [b1, b2, cls_round rd]] at a
    exact a
  have s3 := srt_ws ((hol g).map (clsS ho))
  rw [sort_alike P2] at s3
  have s4 := srt_ws ((hol w).map leastTurn)
  -- joined
  have la : fLen (.ol ((hol w).map D.str)) = some (.fz (.int ((hol w).length : Nat))) := by rw [s_lenO, List.length_map]
  have lb : fLen (.ol (((hol g).map leastTurn).map D.str)) = some (.fz (.int ((hol w).length : Nat))) := by rw [s_lenO, List.length_map, List.length_map, lenE]
  have lg : fLen (.ol (((hol w).map (clsS ov)).map D.str)) = some (.fz (.int (((hol w).map (clsS ov)).length : Nat))) := by rw [s_lenO, List.length_map]
  have hh1 := handles_eq S.rowN.row l
  have hh2 := handles_eq S'.rowN.row l'
  rw [lenE] at hh2
  have yh : F_holes [.fz (.str w)] = .ok (.ol ((hol w).map D.str)) [.fz (.str w)] := yh
  have yg : F_holes [.fz (.str g)] = .ok (.ol ((hol g).map D.str)) [.fz (.str g)] := yg
  have ylh : F__law_holes [.fz (.str w)] = .ok (.ol ((hol w).map D.str)) [.fz (.str w)] := ylh
  have neH := ne_self (eqT_ws (ws := hol w) fun u hu => (S.hol_ok hu).1.1)
  have neG := ne_self (eqT_ws wG)
  have neW := ne_self (eqT_ws wH)
  generalize zs.map sldD = L at *
  generalize (hol w).map D.str = A at *
  generalize (hol g).map D.str = B at *
  generalize ((hol w).map (clsS ov)).map D.str = G1 at *
  generalize ((hol g).map leastTurn).map D.str = G2 at *
  generalize ((hol w).map leastTurn).map D.str = G3 at *
  generalize ((hol g).map (clsS ho)).map D.str = G4 at *
  generalize (sortT ((hol g).map leastTurn)).map D.str = W1 at *
  generalize (sortT ((hol w).map leastTurn)).map D.str = W2 at *
  generalize mapD ov = od at *
  generalize mapD ho = hd at *
  have hg : ∀ {x0 x1 x3 x4 x5 x6 x7 x8 : Option GB.S}, (eCons (eFn F_holes (eCons (eVar 2) eNil)) eNil) [x0, x1, some (.fz (.str g)), x3, x4, x5, x6, x7, x8, none] = .ok [.val (.ol B)] [x0, x1, some (.fz (.str g)), x3, x4, x5, x6, x7, x8, none] := by
    intro x0 x1 x3 x4 x5 x6 x7 x8
    simp [yg]
  have r0 := lr0_run (x5 := none) (x6 := none) (x7 := none) (x8 := none) (x9 := none) yt
  have r1 := lr1_run (x1 := some (.fz (.lst L))) (x2 := some (.fz (.str g))) (x3 := some (.fz od)) (x4 := some (.fz hd)) (x6 := none) (x7 := none) (x8 := none) (x9 := none) yh
  have r2 := lr2_run (G := G2) (lc_ol (fs := eCons (eFn F_holes (eCons (eVar 2) eNil)) eNil) (mk := mkSeq) (fg := gNm 9) (ft := eYes) (fe := ce__law_right_5) (vs := [9]) (r := [some (.fz (.str w)), some (.fz (.lst L)), some (.fz (.str g)), some (.fz od), some (.fz hd), some (.ol A), none, none, none, none]) hg rfl (by simp) c5)
  have r3 := lr3_run (x1 := some (.fz (.lst L))) (x3 := some (.fz od)) (x4 := some (.fz hd)) (x7 := none) (x8 := none) (x9 := none) ylh neH lb la hh2 hh1
  have r4 := lr4_run (G := G1) (lc_lol (fs := eCons (eVar 5) eNil) (mk := mkSeq) (fg := gNm 9) (ft := eYes) (fe := ce__law_right_4) (vs := [9]) (i := 5) (es := A) (ds := A) (r := [some (.fz (.str w)), some (.fz (.lst L)), some (.fz (.str g)), some (.fz od), some (.fz hd), some (.ol A), some (.ol G2), none, none, none]) (r1 := [some (.fz (.str w)), some (.fz (.lst L)), some (.fz (.str g)), some (.fz od), some (.fz hd), some (.ol A), some (.ol G2), none, none, none]) (by simp) rfl rfl (by simp) (c4 (x5 := some (.lk A))))
  have r5 := lr5_run (x0 := some (.fz (.str w))) (x1 := some (.fz (.lst L))) (x2 := some (.fz (.str g))) (x3 := some (.fz od)) (x4 := some (.fz hd)) (x5 := some (.ol A)) (x8 := none) (x9 := none) s1 s2 neG ls lg
  have r6 := lr6_run (G := G4) (lc_ol (fs := eCons (eFn F_holes (eCons (eVar 2) eNil)) eNil) (mk := mkSeq) (fg := gNm 9) (ft := eYes) (fe := ce__law_right_3) (vs := [9]) (r := [some (.fz (.str w)), some (.fz (.lst L)), some (.fz (.str g)), some (.fz od), some (.fz hd), some (.ol A), some (.ol G2), some (.ol G1), none, none]) hg rfl (by simp) c3) s3
  have r7 := lr7_run (G := G3) (lc_lol (fs := eCons (eVar 5) eNil) (mk := mkSeq) (fg := gNm 9) (ft := eYes) (fe := ce__law_right_2) (vs := [9]) (i := 5) (es := A) (ds := A) (r := [some (.fz (.str w)), some (.fz (.lst L)), some (.fz (.str g)), some (.fz od), some (.fz hd), some (.ol A), some (.ol G2), some (.ol G1), some (.ol W2), none]) (r1 := [some (.fz (.str w)), some (.fz (.lst L)), some (.fz (.str g)), some (.fz od), some (.fz hd), some (.ol A), some (.ol G2), some (.ol G1), some (.ol W2), none]) (by simp) rfl rfl (by simp) (c2 (x5 := some (.lk A)))) s4 neW
  have r8 := lr8_run (lc_lol (fs := eCons (eVar 5) eNil) (mk := mkSeq) (fg := gNm 9) (ft := ct__law_right_1) (fe := ce__law_right_1) (vs := [9]) (i := 5) (es := A) (ds := A) (r := [some (.fz (.str w)), some (.fz (.lst L)), some (.fz (.str g)), some (.fz od), some (.fz hd), some (.ol A), some (.ol G2), some (.ol G1), some (.ol W2), none]) (r1 := [some (.fz (.str w)), some (.fz (.lst L)), some (.fz (.str g)), some (.fz od), some (.fz hd), some (.ol A), some (.ol G2), some (.ol G1), some (.ol W2), none]) (by simp) rfl rfl (by simp) (c1 (x5 := some (.lk A))))
  rw [F__law_right_eq]
  refine runF_rt (r := [some (.fz (.str w)), some (.fz (.lst L)), some (.fz (.str g)), some (.fz od), some (.fz hd), some (.ol A), some (.ol G2), some (.ol G1), some (.ol W2), none]) rfl ?_ rfl
  have e0 : startR 10 [GB.S.fz (.str w), .fz (.lst L)] = [some (.fz (.str w)), some (.fz (.lst L)), none, none, none, none, none, none, none, none] := rfl
  rw [e0, lr_cut, s_fSeq, r0]; dsimp only
  rw [s_fSeq, r1]; dsimp only
  rw [s_fSeq]
  erw [r2]
  dsimp only
  rw [s_fSeq, r3]; dsimp only
  rw [s_fSeq]
  erw [r4]
  dsimp only
  rw [s_fSeq, r5]; dsimp only
  rw [s_fSeq]
  erw [r6]
  dsimp only
  rw [s_fSeq]
  erw [r7]
  dsimp only
  exact r8
end W_k65
namespace W_k65
open PySem PySem.Spec PyProof.Rows L2 GB
theorem lt_run {k k1 k2 k3 : List (Key × D)} {w : List Nat} {L R : List D} {v : Int} {x0 x2 x3 : Option S} (h3 : sf x3) (y1 : F__law_draw [.bd k, .fz (.int 5)] = .ok (.fz (.int v)) [.bd k1, .fz (.int 5)]) (y2 : F__law_surface [.bd k1, .fz (.int (2 + v))] = .ok (.fz (.str w)) [.bd k2, .fz (.int (2 + v))])
    (y3 : F__law_slides [.bd k2, .fz (.str w), .fz (.int 8)] = .ok (.fz (.tup [.lst L, .lst R])) [.bd k3, .fz (.str w), .fz (.int 8)]) (y4 : F__law_right [.fz (.str w), .fz (.lst L)] = .ok (.fz (.bl true)) [.fz (.str w), .fz (.lst L)]) :
    fb_law_1 [x0, some (.od k), x2, x3] = .nx [x0, some (.od k3), x2, some (.fz (.str w))] := by
  have a0 : atI [D.lst L, D.lst R] 0 = some (.lst L) := rfl
  rcases h3 with rfl | ⟨z, rfl⟩ <;> simp [fb_law_1, y1, y2, y3, y4, a0]
theorem law_eq (ns : List Int) : F_law [.fz (.scr (ns.map D.int))] = .ok (.fz (.bl true)) [.fz (.scr (ns.map D.int))] := by
  obtain ⟨k0, t0, y0⟩ := feed_eq ns
  obtain ⟨r', f, k, x2, x3, t, h2, h3, rfl⟩ := forL_inv (fg := gNm 2) (f := fb_law_1) (ds := upFrom 0 4) (r := [some (.fz (.scr (ns.map D.int))), some (.od k0), none, none])
    (fun _ r => ∃ k x2 x3, Feed k ∧ sf x2 ∧ sf x3 ∧ r = [some (.fz (.scr (ns.map D.int))), some (.od k), x2, x3]) ⟨k0, none, none, t0, sf_n, sf_n, rfl⟩ (by
      rintro i d r hd ⟨k, x2, x3, t, h2, h3, rfl⟩
      obtain ⟨v, k1, hv, t1, y1⟩ := drN t (m := 5) (by omega) (by omega)
      have y1 : F__law_draw [.bd k, .fz (.int 5)] = .ok (.fz (.int (v : Nat))) [.bd k1, .fz (.int 5)] := y1
      obtain ⟨k2, w, t2, hw, y2⟩ := surface_eq (m := 2 + v) (by omega) t1
      have S : Surf (2 + v) w := ⟨hw, by omega, by omega⟩
      obtain ⟨k3, zs, t3, hc, hz, y3⟩ := law_slides_eq t2 S (mo := 8) (by omega)
      have y4 := right_eq S hc hz
      have y2 : F__law_surface [.bd k1, .fz (.int (2 + (v : Nat)))] = .ok (.fz (.str w)) [.bd k2, .fz (.int (2 + (v : Nat)))] := y2
      refine ⟨_, ?_, _, .inl (lt_run (x0 := some (.fz (.scr (ns.map D.int)))) (x2 := some (.fz d)) h3 y1 y2 y3 y4), k3, _, _, t3, sf_f, sf_f, rfl⟩
      generalize ns.map D.int = ds at *
      rcases h2 with rfl | ⟨z, rfl⟩ <;> simp)
  generalize ns.map D.int = ds at *
  have lp : fFor (eCons (eC (.int 4)) eNil) mkR1 (gNm 2) fb_law_1 [some (.fz (.scr ds)), some (.od k0), none, none] = _ := (for_r1 (n := 4) (r1 := [some (.fz (.scr ds)), some (.od k0), none, none]) (by simp) (by omega)).trans f
  rw [F_law_eq]
  refine runF_rt (r := [some (.fz (.scr ds)), some (.od k), x2, x3]) rfl ?_ rfl
  have e0 : startR 4 [S.fz (.scr ds)] = [some (.fz (.scr ds)), none, none, none] := rfl
  rw [e0]
  simp [b_law, y0, lp, -s_fFor]
end W_k65
open PySem PySem.W PyProof.Rows
set_option maxHeartbeats 0 in
theorem PySem.Challenge.cw_ringwords_k65_whole_holes_go_over_holds : PySem.Challenge.rw_ringwords_k65_whole_holes_go_over.Holds := by
  w_on; o_law; k_head; (case hw => w_witness2)
  k_fill
  refine GB.law_walk (l := PySem.Challenge.rw_ringwords_k65_whole_holes_go_over) (n := 63) (k := 8) (x := "_law_script") (F := W_k65.F_law) rfl (by decide) rfl ⟨rfl, by decide, by decide⟩ (fun w h Y => PySem.W.kIn_of Y) ?G (fun ns hn => W_k65.law_eq ns)
  case G =>
    intro w mg fa h KX G hmg
    refine' W_k65.all_mk KX G hmg ?xa0 ?xl0 ?xg0 ?xk0 ?xa1 ?xl1 ?xg1 ?xk1 ?xa2 ?xl2 ?xg2 ?xk2 ?xa3 ?xl3 ?xg3 ?xk3 ?xa4 ?xl4 ?xg4 ?xk4 ?xa5 ?xl5 ?xg5 ?xk5 ?xa6 ?xl6 ?xg6 ?xk6 ?xa7 ?xl7 ?xg7 ?xk7 ?xa8 ?xl8 ?xg8 ?xk8 ?xa9 ?xl9 ?xg9 ?xk9 ?xa10 ?xl10 ?xg10 ?xk10 ?xa11 ?xl11 ?xg11 ?xk11 ?xa12 ?xl12 ?xg12 ?xk12 ?xa13 ?xl13 ?xg13 ?xk13 ?xa14 ?xl14 ?xg14 ?xk14 ?xa15 ?xl15 ?xg15 ?xk15 ?xa16 ?xl16 ?xg16 ?xk16 ?xa17 ?xl17 ?xg17 ?xk17 ?xa18 ?xl18 ?xg18 ?xk18 ?xa19 ?xl19 ?xg19 ?xk19 ?xa20 ?xl20 ?xg20 ?xk20 ?xa21 ?xl21 ?xg21 ?xk21 ?xa22 ?xl22 ?xg22 ?xk22 ?xa23 ?xl23 ?xg23 ?xk23 ?xa24 ?xl24 ?xg24 ?xk24 ?xa25 ?xl25 ?xg25 ?xk25 ?xa26 ?xl26 ?xg26 ?xk26 ?xa27 ?xl27 ?xg27 ?xk27 ?xa28 ?xl28 ?xg28 ?xk28 ?xa29 ?xl29 ?xg29 ?xk29 ?xa30 ?xl30 ?xg30 ?xk30 ?xa31 ?xl31 ?xg31 ?xk31 ?xa32 ?xl32 ?xg32 ?xk32 ?xz0 ?xz1 ?xz2 ?xz3 ?xz4 ?xz5 ?xz6 ?xz7 ?xz8 ?xz9 ?xz10 ?xv0 ?xr0 ?gka_NoSlide ?gka_RingError ?gkr_RingError ?gks_RingError ?gki_RingError ?gxL_NoSlide ?gxs_NoSlide ?gxe_NoSlide ?gxt_NoSlide ?gxk_NoSlide ?gxi_NoSlide ?gxj_NoSlide ?gxl_NoSlide ?gxg_NoSlide ?gxq_NoSlide ?gxf_NoSlide_place
    (case xa0 => k_is); (case xl0 => k_is); (case xg0 => k_is); (case xk0 => k_is); (case xa1 => k_is); (case xl1 => k_is); (case xg1 => k_is); (case xk1 => k_is); (case xa2 => k_is); (case xl2 => k_is); (case xg2 => k_is); (case xk2 => k_is); (case xa3 => k_is); (case xl3 => k_is); (case xg3 => k_is); (case xk3 => k_is); (case xa4 => k_is); (case xl4 => k_is); (case xg4 => k_is); (case xk4 => k_is); (case xa5 => k_is); (case xl5 => k_is); (case xg5 => k_is); (case xk5 => k_is); (case xa6 => k_is); (case xl6 => k_is); (case xg6 => k_is); (case xk6 => k_is); (case xa7 => k_is); (case xl7 => k_is); (case xg7 => k_is); (case xk7 => k_is); (case xa8 => k_is); (case xl8 => k_is); (case xg8 => k_is); (case xk8 => k_is); (case xa9 => k_is); (case xl9 => k_is); (case xg9 => k_is); (case xk9 => k_is); (case xa10 => k_is); (case xl10 => k_is); (case xg10 => k_is); (case xk10 => k_is); (case xa11 => k_is); (case xl11 => k_is); (case xg11 => k_is); (case xk11 => k_is); (case xa12 => k_is); (case xl12 => k_is); (case xg12 => k_is); (case xk12 => k_is); (case xa13 => k_is); (case xl13 => k_is); (case xg13 => k_is); (case xk13 => k_is); (case xa14 => k_is); (case xl14 => k_is); (case xg14 => k_is); (case xk14 => k_is); (case xa15 => k_is); (case xl15 => k_is); (case xg15 => k_is); (case xk15 => k_is); (case xa16 => k_is); (case xl16 => k_is); (case xg16 => k_is); (case xk16 => k_is); (case xa17 => k_is); (case xl17 => k_is); (case xg17 => k_is); (case xk17 => k_is); (case xa18 => k_is); (case xl18 => k_is); (case xg18 => k_is); (case xk18 => k_is); (case xa19 => k_is); (case xl19 => k_is); (case xg19 => k_is); (case xk19 => k_is); (case xa20 => k_is); (case xl20 => k_is); (case xg20 => k_is); (case xk20 => k_is); (case xa21 => k_is); (case xl21 => k_is); (case xg21 => k_is); (case xk21 => k_is); (case xa22 => k_is); (case xl22 => k_is); (case xg22 => k_is); (case xk22 => k_is); (case xa23 => k_is); (case xl23 => k_is); (case xg23 => k_is); (case xk23 => k_is); (case xa24 => k_is); (case xl24 => k_is); (case xg24 => k_is); (case xk24 => k_is); (case xa25 => k_is); (case xl25 => k_is); (case xg25 => k_is); (case xk25 => k_is); (case xa26 => k_is); (case xl26 => k_is); (case xg26 => k_is); (case xk26 => k_is); (case xa27 => k_is); (case xl27 => k_is); (case xg27 => k_is); (case xk27 => k_is); (case xa28 => k_is); (case xl28 => k_is); (case xg28 => k_is); (case xk28 => k_is); (case xa29 => k_is); (case xl29 => k_is); (case xg29 => k_is); (case xk29 => k_is); (case xa30 => k_is); (case xl30 => k_is); (case xg30 => k_is); (case xk30 => k_is); (case xa31 => k_is); (case xl31 => k_is); (case xg31 => k_is); (case xk31 => k_is); (case xa32 => k_is); (case xl32 => k_is); (case xg32 => k_is); (case xk32 => k_is); (case xz0 => k_is); (case xz1 => k_is); (case xz2 => k_is); (case xz3 => k_is); (case xz4 => k_is); (case xz5 => k_is); (case xz6 => k_is); (case xz7 => k_is); (case xz8 => k_is); (case xz9 => k_is); (case xz10 => k_is)
    (case xv0 => k_is); (case xr0 => exact ⟨_, rfl⟩)
    (case gka_NoSlide => first | k_is | rfl)
    (case gka_RingError => first | k_is | rfl)
    (case gkr_RingError => first | k_is | rfl)
    (case gks_RingError => first | k_is | rfl)
    (case gki_RingError => first | k_is | rfl)
    (case gxL_NoSlide => first | k_is | rfl)
    (case gxs_NoSlide => first | k_is | rfl)
    (case gxe_NoSlide => first | k_is | rfl)
    (case gxt_NoSlide => first | k_is | rfl)
    (case gxk_NoSlide => first | k_is | rfl)
    (case gxi_NoSlide => first | k_is | rfl)
    (case gxj_NoSlide => first | k_is | rfl)
    (case gxl_NoSlide => first | k_is | rfl)
    (case gxg_NoSlide => first | k_is | rfl)
    (case gxq_NoSlide => first | k_is | rfl)
    (case gxf_NoSlide_place => first | k_is | rfl)
