import PyProof.Rows.All
import PySem.Challenge.RW_ringwords_k91_whole_one_and_the_same_wor
import HandS.ForMost
import HandS.Exc
import HandS.Walk
import HandS.WordsExc
import HandS.Ends
import HandS.Codes
import HandS.Replace
import HandS.More
import HandS.RaiseMore
import HandS.MapJoin
import HandS.TupAny
import HandS.Dict
import HandS.Iter
import HandS.Style
import PyProof.ReprRoads
import HandS.Words
import HandS.IsInst
import HandS.SortInts
import KE.DataMinMax
import PyProof.Rows.SortShellAny
import HandS.Zip
import KE.GoesEnum
import PyProof.Rows.RegReprOcc
import PyProof.ListStr
import HandS.TupLe
import HandS.NoneIn
import HandS.ExcInit
import KE.KExcIs
import HandS.ExcField
import HandS.ExcIs
import HandS.Deep
import HandS.Flow
import PyProof.CollectStr
import HandS.SuiteRaise
import HandS.RaiseFrom
import HandS.ExcInitHot
import HandS.TupMul
import HandS.Text
import HandS.Strs
import HandS.Conv
import PyProof.TupleOfSeq
import HandS.TryOnly
import HandS.WordsDict
import KE.GoesComp
import HandS.SortRule
import KE.KeyNested
import KE.KDictPairs
import HandS.SetFor
import HandS.Remove
import KE.SortData
import PyProof.ToksMono
import HandS.ReplaceList
set_option Elab.async false
set_option linter.all false
set_option maxRecDepth 100000
set_option maxHeartbeats 4000000
namespace GB
open PySem PySem.Spec PyProof.Rows L2
abbrev St := L2.St
inductive D where
  | non | bl (b : Bool) | int (i : Int) | str (l : List Nat) | tup (ds : List D) | lst (ds : List D) | scr (ds : List D) | dic (ks : List Key) (ds : List D)
/-- what a slot or a value holds: fz frozen; ol, od owned; br, bd borrowed; lk, kd locked -/
inductive S where
  | fz (d : D)
  | ol (ds : List D) | br (ds : List D) | lk (ds : List D)
  | od (kvs : List (Key × D)) | bd (kvs : List (Key × D)) | kd (o : Obj → Prop) (xs : List (Key × V)) (kvs : List (Key × D))
  | exc (a dx : Addr) (c : Str) (fs : List (Str × D))
  | nd (a : Addr) (xs : List (V × D))
  | nh (P : Obj → Prop) (a : Addr) (xs : List (V × D))
  | ot (kvs : List (List Key × D)) | kt (P : Obj → Prop) (xs : List (List Key × V)) (kvs : List (List Key × D))
  | ky (ks : List Key)
def S.own : S → Bool
  | .ol _ => true | .br _ => true | .od _ => true | .bd _ => true | .ot _ => true | _ => false
/-- tied to its slot: neither rebound nor handed on -/
def S.hard : S → Bool
  | .br _ => true | .bd _ => true | .lk _ => true | .kd _ _ _ => true | _ => false
def S.lkd : S → Bool
  | .lk _ => true | _ => false
def S.soft : S → Bool
  | .fz _ => true | .exc _ _ _ _ => true | .kd _ _ _ => true | .nd _ _ => true | .nh _ _ _ => true | .kt _ _ _ => true | .ky _ => true | _ => false
/-- what a slot's word may become -/
def Sl : S → S → Prop
  | .lk ds, t => t = .lk ds
  | .kd o xs ds, t => t = .kd o xs ds
  | .br _, t => ∃ ds, t = .br ds
  | .bd _, t => ∃ ds, t = .bd ds
  | _, _ => True
abbrev Rho := List (Option S)
/-- the end of an expression -/
inductive Rs (α : Type) where
  | ok (a : α) (r : Rho) | ex (c : Str) (fs : List (Str × D)) (r : Rho) | st
def Rs.bind {α β : Type} (x : Rs α) (f : α → Rho → Rs β) : Rs β :=
  match x with
  | .ok a r => f a r
  | .ex c fs r => .ex c fs r
  | .st => .st
/-- the law's own script: it stands as it is -/
def Scr (K : PySem.W.Frag) (H : Hp) (a : Addr) (xs : List V) : Prop := (∃ o, H a = some (.frz o (.lst xs))) ∨
    ∃ (o : Obj) (its : Array Value) (n : Nat), K.lookup a = some o ∧ o.cls = .type "list" ∧ o.dict = none ∧ o.data = .seq its n ∧ its.size ≤ sizeLine ∧ Vals xs its.toList
theorem Scr.seq {K : PySem.W.Frag} {H : Hp} {a : Addr} {xs : List V} (h : Scr K H a xs) : SqL K H a xs := h.elim (fun z => .inl (.inr z)) .inr
/-- a tuple's own object: no dict of its own -/
def TupO (o : Obj) : Prop := o.cls = .type "tuple" ∧ o.dict = none
def SqX (K : PySem.W.Frag) (H : Hp) (a : Addr) (xs : List V) : Prop := (∃ o, TupO o ∧ H a = some (.frz o (.tup xs))) ∨
    ∃ (o : Obj) (its : Array Value) (n : Nat), K.lookup a = some o ∧ o.cls = .type "tuple" ∧ o.dict = none ∧ o.data = .seq its n ∧ its.size ≤ sizeLine ∧ Vals xs its.toList
theorem SqX.sq {K : PySem.W.Frag} {H : Hp} {a : Addr} {xs : List V} (h : SqX K H a xs) : SqT K H a xs := by
  rcases h with ⟨o, _, h⟩ | ⟨o, its, n, h1, h2, _, h3⟩
  · exact .inl (.inr ⟨o, h⟩)
  · exact .inr ⟨o, its, n, h1, h2, h3⟩
mutual
inductive Rp (K : PySem.W.Frag) (W : Addr → Prop) (H : Hp) : V → D → Prop
  | non : Rp K W H .non .non
  | bl (b : Bool) : Rp K W H (.bl b) (.bl b)
  | int (i : Int) : Rp K W H (.int i) (.int i)
  | str (l : List Nat) : Rp K W H (.str ⟨l.toArray⟩) (.str l)
  | tup {a : Addr} {xs : List V} {ds : List D} : SqX K H a xs → Rps K W H xs ds → Rp K W H (.ref a) (.tup ds)
  | lst {a : Addr} {xs : List V} {ds : List D} : H a = some (.lst xs) → ¬ W a → Rps K W H xs ds → Rp K W H (.ref a) (.lst ds)
  | scr {a : Addr} {xs : List V} {ds : List D} : Scr K H a xs → Rps K W H xs ds → Rp K W H (.ref a) (.scr ds)
  | dic {a : Addr} {xs : List (Key × V)} {ks : List Key} {ds : List D} : H a = some (.dK xs) → ¬ W a → xs.map Prod.fst = ks → Rps K W H (xs.map Prod.snd) ds → Rp K W H (.ref a) (.dic ks ds)
inductive Rps (K : PySem.W.Frag) (W : Addr → Prop) (H : Hp) : List V → List D → Prop
  | nil : Rps K W H [] []
  | cons {v : V} {vs : List V} {d : D} {ds : List D} : Rp K W H v d → Rps K W H vs ds → Rps K W H (v :: vs) (d :: ds)
end
def KR {κ : Type} (K : PySem.W.Frag) (W : Addr → Prop) (H : Hp) : List (κ × V) → List (κ × D) → Prop := Paired fun p q => p.1 = q.1 ∧ Rp K W H p.2 q.2
/-- a locked dict -/
def KdAt (P : Obj → Prop) (H : Hp) (p : Addr) (xs : List (Key × V)) : Prop := ∀ C : Prop, (∀ o, (∀ z, P z ↔ z = o) → H p = some (.frz o (.dK xs)) → C) → C
theorem KdAt.ex {P : Obj → Prop} {H : Hp} {p : Addr} {xs : List (Key × V)} (h : KdAt P H p xs) : ∃ o, (∀ z, P z ↔ z = o) ∧ H p = some (.frz o (.dK xs)) := h _ fun o a b => ⟨o, a, b⟩
theorem KdAt.mk {P : Obj → Prop} {H : Hp} {p : Addr} {xs : List (Key × V)} (o : Obj) (a : ∀ z, P z ↔ z = o) (b : H p = some (.frz o (.dK xs))) : KdAt P H p xs := fun _ k => k o a b
theorem KdAt.to {P : Obj → Prop} {H H' : Hp} {p : Addr} {xs : List (Key × V)} (h : KdAt P H p xs) (k : ∀ o, H p = some (.frz o (.dK xs)) → H' p = some (.frz o (.dK xs))) : KdAt P H' p xs := fun C f => h C fun o a b => f o a (k o b)
/-- a known thing, told by its object -/
def NhAt (P : Obj → Prop) (H : Hp) (a : Addr) : Prop := ∀ C : Prop, (∀ o, P o → H a = some (.frz o (.ext fun h => h.get? a = some o)) → C) → C
theorem NhAt.ex {P : Obj → Prop} {H : Hp} {a : Addr} (h : NhAt P H a) : ∃ o, P o ∧ H a = some (.frz o (.ext fun h => h.get? a = some o)) := h _ fun o x y => ⟨o, x, y⟩
theorem NhAt.mk {P : Obj → Prop} {H : Hp} {a : Addr} (o : Obj) (x : P o) (y : H a = some (.frz o (.ext fun h => h.get? a = some o))) : NhAt P H a := fun _ k => k o x y
theorem NhAt.to {P : Obj → Prop} {H H' : Hp} {a : Addr} (h : NhAt P H a) (k : ∀ o u, H a = some (.frz o u) → H' a = some (.frz o u)) : NhAt P H' a := fun C f => h C fun o x y => f o x (k o _ y)
/-- a dict with tuples for keys, that stands -/
def KtAt (P : Obj → Prop) (H : Hp) (p : Addr) (xs : List (List Key × V)) : Prop := ∀ C : Prop, (∀ o, (∀ z, P z ↔ z = o) → H p = some (.frz o (.dT xs)) → C) → C
theorem KtAt.ex {P : Obj → Prop} {H : Hp} {p : Addr} {xs : List (List Key × V)} (h : KtAt P H p xs) : ∃ o, (∀ z, P z ↔ z = o) ∧ H p = some (.frz o (.dT xs)) := h _ fun o a b => ⟨o, a, b⟩
theorem KtAt.mk {P : Obj → Prop} {H : Hp} {p : Addr} {xs : List (List Key × V)} (o : Obj) (a : ∀ z, P z ↔ z = o) (b : H p = some (.frz o (.dT xs))) : KtAt P H p xs := fun _ k => k o a b
theorem KtAt.to {P : Obj → Prop} {H H' : Hp} {p : Addr} {xs : List (List Key × V)} (h : KtAt P H p xs) (k : ∀ o, H p = some (.frz o (.dT xs)) → H' p = some (.frz o (.dT xs))) : KtAt P H' p xs := fun C f => h C fun o a b => f o a (k o b)
/-- a tuple that is such a key -/
def KyAt (K : PySem.W.Frag) (H : Hp) (p : Addr) (ks : List Key) : Prop := ∀ C : Prop, (SqT K H p (ks.map kV) → C) → C
theorem KyAt.sq {K : PySem.W.Frag} {H : Hp} {p : Addr} {ks : List Key} (h : KyAt K H p ks) : SqT K H p (ks.map kV) := h _ id
theorem KyAt.mk {K : PySem.W.Frag} {H : Hp} {p : Addr} {ks : List Key} (h : SqT K H p (ks.map kV)) : KyAt K H p ks := fun _ k => k h
theorem KyAt.to {K : PySem.W.Frag} {H H' : Hp} {p : Addr} {ks : List Key} (h : KyAt K H p ks) (k : ∀ {a : Addr} {xs : List V}, SqT K H a xs → SqT K H' a xs) : KyAt K H' p ks := fun _ f => f (k h.sq)
inductive SR (K : PySem.W.Frag) (U W : Addr → Prop) (H : Hp) : V → S → Prop
  | fz {v : V} {d : D} : Rp K W H v d → SR K U W H v (.fz d)
  | ol {p : Addr} {xs : List V} {ds : List D} : H p = some (.lst xs) → Rps K W H xs ds → SR K U W H (.ref p) (.ol ds)
  | br {p : Addr} {xs : List V} {ds : List D} : H p = some (.lst xs) → Rps K W H xs ds → SR K U W H (.ref p) (.br ds)
  | lk {p : Addr} {xs : List V} {ds : List D} : H p = some (.lst xs) → U p → Rps K W H xs ds → SR K U W H (.ref p) (.lk ds)
  | od {p : Addr} {xs : List (Key × V)} {ds : List (Key × D)} : H p = some (.dK xs) → KR K W H xs ds → SR K U W H (.ref p) (.od ds)
  | bd {p : Addr} {xs : List (Key × V)} {ds : List (Key × D)} : H p = some (.dK xs) → KR K W H xs ds → SR K U W H (.ref p) (.bd ds)
  | kd {p : Addr} {P : Obj → Prop} {xs : List (Key × V)} {ds : List (Key × D)} : KdAt P H p xs → KR K W H xs ds → SR K U W H (.ref p) (.kd P xs ds)
  | exc {a dx : Addr} {c : Str} {fv : List (Str × V)} {fs : List (Str × D)} : H dx = some (.xd fv) → KR K W H fv fs → SR K U W H (.ref a) (.exc a dx c fs)
  | nd {a : Addr} {xs : List (V × D)} : Rps K W H (xs.map Prod.fst) (xs.map Prod.snd) → SR K U W H (.ref a) (.nd a xs)
  | nh {P : Obj → Prop} {a : Addr} {xs : List (V × D)} : NhAt P H a → Rps K W H (xs.map Prod.fst) (xs.map Prod.snd) → SR K U W H (.ref a) (.nh P a xs)
  | ot {p : Addr} {xs : List (List Key × V)} {ds : List (List Key × D)} : H p = some (.dT xs) → KR K W H xs ds → SR K U W H (.ref p) (.ot ds)
  | kt {p : Addr} {P : Obj → Prop} {xs : List (List Key × V)} {ds : List (List Key × D)} : KtAt P H p xs → KR K W H xs ds → SR K U W H (.ref p) (.kt P xs ds)
  | ky {p : Addr} {ks : List Key} : KyAt K H p ks → SR K U W H (.ref p) (.ky ks)
/-- an object that may be written -/
def Lv (H : Hp) (a : Addr) : Prop := (∃ xs, H a = some (.lst xs)) ∨ (∃ kvs, H a = some (.dK kvs)) ∨ ∃ kvs, H a = some (.dT kvs)
def Own (σ : St) (r : Rho) (a : Addr) : Prop := ∃ (i : Nat) (s : S), r[i]? = some (some s) ∧ s.own = true ∧ σ[i]? = some (some (V.ref a))
def Wn (U : Addr → Prop) (σ : St) (r : Rho) (a : Addr) : Prop := Own σ r a ∨ U a
structure Ct where
  K : PySem.W.Frag
  mg : Str → Option Value
  W : WX
structure Sit (C : Ct) (U : Addr → Prop) (H : Hp) (σ : St) (r : Rho) : Prop where
  len : σ.length = r.length
  rep : ∀ (i : Nat) (s : S), r[i]? = some (some s) → ∃ v, σ[i]? = some (some v) ∧ SR C.K U (Wn U σ r) H v s
  inj : ∀ (i j : Nat) (s t : S) (v : V), r[i]? = some (some s) → s.soft = false → r[j]? = some (some t) → t.soft = false → σ[i]? = some (some v) → σ[j]? = some (some v) → i = j
  dis : ∀ a, Own σ r a → ¬ U a
  uok : ∀ a, U a → Lv H a
theorem Lv.xd {H : Hp} {a : Addr} {fv : List (Str × V)} (h : Lv H a) (k : H a = some (.xd fv)) : False := by
  rcases h with ⟨_, q⟩ | ⟨_, q⟩ | ⟨_, q⟩ <;> (rw [k] at q; cases q)
theorem Lv.fzn {H : Hp} {a : Addr} {o : Obj} {u : HO} (h : Lv H a) (k : H a = some (.frz o u)) : False := by
  rcases h with ⟨_, q⟩ | ⟨_, q⟩ | ⟨_, q⟩ <;> (rw [k] at q; cases q)
theorem SR.ownLv {K : PySem.W.Frag} {U W : Addr → Prop} {H : Hp} {v : V} {s : S} (x : SR K U W H v s) (h : s.own = true) : ∃ p, v = .ref p ∧ Lv H p := by
  cases x with
  | ol e _ => exact ⟨_, rfl, .inl ⟨_, e⟩⟩
  | br e _ => exact ⟨_, rfl, .inl ⟨_, e⟩⟩
  | od e _ => exact ⟨_, rfl, .inr (.inl ⟨_, e⟩)⟩
  | bd e _ => exact ⟨_, rfl, .inr (.inl ⟨_, e⟩)⟩
  | ot e _ => exact ⟨_, rfl, .inr (.inr ⟨_, e⟩)⟩
  | kt _ _ => cases h
  | ky _ => cases h
  | fz _ => cases h
  | lk _ _ _ => cases h
  | kd _ _ => cases h
  | exc _ _ => cases h
  | nd _ => cases h
  | nh _ _ => cases h
theorem Sit.wlv {C : Ct} {U : Addr → Prop} {H : Hp} {σ : St} {r : Rho} (x : Sit C U H σ r) : ∀ a, Wn U σ r a → Lv H a := fun a h => by
  rcases h with ⟨i, s, h1, h2, h3⟩ | h
  · obtain ⟨v, e, y⟩ := x.rep i s h1
    rw [h3] at e; cases e
    obtain ⟨p, e, l⟩ := y.ownLv h2
    cases e; exact l
  · exact x.uok a h
/-- what carries a tree over -/
structure Mono (U W : Addr → Prop) (H : Hp) (U' W' : Addr → Prop) (H' : Hp) : Prop where
  lv : ∀ a, W a → Lv H a
  keep : ∀ a o, ¬ W a → H a = some o → H' a = some o
  free : ∀ a o, ¬ W a → H a = some o → ¬ W' a
  keepU : ∀ a o, U a → H a = some o → H' a = some o
  sub : ∀ a, U a → U' a
section
variable {K : PySem.W.Frag} {U W U' W' : Addr → Prop} {H H' : Hp}
theorem Mono.rd (m : Mono U W H U' W' H') {a : Addr} {u : HO} (h : Rd H a u) (n : ¬ W a) : Rd H' a u ∧ ¬ W' a := by
  rcases h with h | ⟨o, h⟩
  · exact ⟨.inl (m.keep a _ n h), m.free a _ n h⟩
  · exact ⟨.inr ⟨o, m.keep a _ n h⟩, m.free a _ n h⟩
theorem Mono.tup (m : Mono U W H U' W' H') {a : Addr} {xs : List V} (h : SqT K H a xs) : SqT K H' a xs := by
  rcases h with h | h
  · have n : ¬ W a := fun w => by
      rcases h with h | ⟨o, h⟩ <;> (rcases m.lv a w with ⟨_, e⟩ | ⟨_, e⟩ | ⟨_, e⟩ <;> (rw [h] at e; cases e))
    exact .inl (m.rd h n).1
  · exact .inr h
theorem Mono.tupX (m : Mono U W H U' W' H') {a : Addr} {xs : List V} (h : SqX K H a xs) : SqX K H' a xs := by
  rcases h with ⟨o, t, h⟩ | h
  · have n : ¬ W a := fun w => by rcases m.lv a w with ⟨_, e⟩ | ⟨_, e⟩ | ⟨_, e⟩ <;> (rw [h] at e; cases e)
    exact .inl ⟨o, t, m.keep a _ n h⟩
  · exact .inr h
theorem Mono.scr (m : Mono U W H U' W' H') {a : Addr} {xs : List V} (h : Scr K H a xs) : Scr K H' a xs := by
  rcases h with ⟨o, h⟩ | h
  · have n : ¬ W a := fun w => by rcases m.lv a w with ⟨_, e⟩ | ⟨_, e⟩ | ⟨_, e⟩ <;> (rw [h] at e; cases e)
    exact .inl ⟨o, m.keep a _ n h⟩
  · exact .inr h
mutual
theorem Rp.mono (m : Mono U W H U' W' H') : ∀ {v : V} {d : D}, Rp K W H v d → Rp K W' H' v d
  | _, _, .non => .non
  | _, _, .bl b => .bl b
  | _, _, .int i => .int i
  | _, _, .str l => .str l
  | _, _, .tup h t => .tup (m.tupX h) (Rps.mono m t)
  | _, _, .lst h n t => .lst (m.keep _ _ n h) (m.free _ _ n h) (Rps.mono m t)
  | _, _, .scr h t => .scr (m.scr h) (Rps.mono m t)
  | _, _, .dic h n e t => .dic (m.keep _ _ n h) (m.free _ _ n h) e (Rps.mono m t)
theorem Rps.mono (m : Mono U W H U' W' H') : ∀ {v : List V} {d : List D}, Rps K W H v d → Rps K W' H' v d
  | _, _, .nil => .nil
  | _, _, .cons h t => .cons (Rp.mono m h) (Rps.mono m t)
end
theorem KR.mono {κ : Type} (m : Mono U W H U' W' H') {v : List (κ × V)} {d : List (κ × D)} (h : KR K W H v d) : KR K W' H' v d := Paired.mapP h fun _ _ q => ⟨q.1, q.2.mono m⟩
theorem SR.mono (m : Mono U W H U' W' H') {v : V} {s : S} (h : SR K U W H v s) (ho : ∀ a o, s.own = true → v = .ref a → H a = some o → H' a = some o) : SR K U' W' H' v s := by
  cases h with
  | fz x => exact .fz (x.mono m)
  | ol e x => exact .ol (ho _ _ rfl rfl e) (x.mono m)
  | br e x => exact .br (ho _ _ rfl rfl e) (x.mono m)
  | lk e u x => exact .lk (m.keepU _ _ u e) (m.sub _ u) (x.mono m)
  | od e x => exact .od (ho _ _ rfl rfl e) (x.mono m)
  | bd e x => exact .bd (ho _ _ rfl rfl e) (x.mono m)
  | kd e x => exact .kd (e.to fun o h => m.keep _ _ (fun w => (m.lv _ w).fzn h) h) (x.mono m)
  | exc e x => exact .exc (m.keep _ _ (fun w => (m.lv _ w).xd e) e) (x.mono m)
  | nd x => exact .nd (x.mono m)
  | nh e x => exact .nh (e.to fun o u h => m.keep _ _ (fun w => (m.lv _ w).fzn h) h) (x.mono m)
  | ot e x => exact .ot (ho _ _ rfl rfl e) (x.mono m)
  | kt e x => exact .kt (e.to fun o h => m.keep _ _ (fun w => (m.lv _ w).fzn h) h) (x.mono m)
  | ky h => exact .ky (h.to m.tup)
end
/-- an operand: a slot's thing as it stands when it is used, or a value of its own -/
inductive Opd where
  | loc (i : Nat) | val (s : S)
def res (r : Rho) : Opd → Option S
  | .loc i => (r[i]?).join
  | .val s => some s
def OpOk (C : Ct) (U : Addr → Prop) (H : Hp) (σ : St) (r : Rho) (o : Opd) (v : V) : Prop :=
  match o with
  | .loc i => σ[i]? = some (some v) ∧ ∃ s, r[i]? = some (some s)
  | .val s => SR C.K U (Wn U σ r) H v s ∧ (∀ p, s.own = true → v = .ref p → U p) ∧ s.hard = false
/-- from one state of the code to a later one -/
structure Aft (U : Addr → Prop) (H : Hp) (σ : St) (r : Rho) (U' : Addr → Prop) (H' : Hp) (σ' : St) (r' : Rho) : Prop where
  sub : ∀ a, U a → U' a
  new : ∀ a, U' a → U a ∨ H a = none ∨ Own σ r a
  grow : ∀ a, Own σ' r' a → Own σ r a ∨ H a = none
  keep : ∀ a o, H a = some o → ¬ Own σ r a → H' a = some o
  there : ∀ a o, H a = some o → ∃ o', H' a = some o'
  pin : ∀ (i : Nat) (s : S), r[i]? = some (some s) → s.hard = true → ∃ s', r'[i]? = some (some s') ∧ Sl s s' ∧ σ'[i]? = σ[i]?
  lok : ∀ (i : Nat) (s : S), r'[i]? = some (some s) → s.lkd = true → r[i]? = some (some s) ∧ σ'[i]? = σ[i]?
/-- within an expression the slots stay -/
def Per (r r' : Rho) : Prop := ∀ (i : Nat) (s : S), r[i]? = some (some s) → ∃ s', r'[i]? = some (some s')
section
variable {C : Ct} {U U' U'' : Addr → Prop} {H H' H'' : Hp} {σ σ' σ'' : St} {r r' r'' : Rho}
theorem Sl.refl (s : S) : Sl s s := by cases s <;> simp [Sl]
theorem Sl.hard {s t : S} (h : Sl s t) (k : s.hard = true) : t.hard = true := by
  cases s <;> simp [S.hard] at k <;> simp [Sl] at h
  · obtain ⟨_, rfl⟩ := h; rfl
  · subst h; rfl
  · obtain ⟨_, rfl⟩ := h; rfl
  · subst h; rfl
theorem Sl.trans {s t u : S} (h : Sl s t) (k : Sl t u) : Sl s u := by
  cases s <;> simp only [Sl] at *
  · obtain ⟨_, rfl⟩ := h; simpa [Sl] using k
  · subst h; simpa [Sl] using k
  · obtain ⟨_, rfl⟩ := h; simpa [Sl] using k
  · subst h; simpa [Sl] using k
theorem Aft.refl : Aft U H σ r U H σ r := ⟨fun _ h => h, fun _ h => .inl h, fun _ h => .inl h, fun _ _ h _ => h, fun _ o h => ⟨o, h⟩, fun i s h _ => ⟨s, h, Sl.refl s, rfl⟩, fun i s h _ => ⟨h, rfl⟩⟩
theorem Aft.back (x : Aft U H σ r U' H' σ' r') {a : Addr} (h : H' a = none) : H a = none := by
  cases e : H a with
  | none => rfl
  | some o =>
    obtain ⟨_, q⟩ := x.there a o e
    rw [h] at q; cases q
theorem Aft.trans (x : Aft U H σ r U' H' σ' r') (y : Aft U' H' σ' r' U'' H'' σ'' r'') : Aft U H σ r U'' H'' σ'' r'' where
  sub := fun a h => y.sub a (x.sub a h)
  new := fun a h => by
    rcases y.new a h with h | h | h
    · exact x.new a h
    · exact .inr (.inl (x.back h))
    · rcases x.grow a h with h | h
      · exact .inr (.inr h)
      · exact .inr (.inl h)
  grow := fun a h => by
    rcases y.grow a h with h | h
    · exact x.grow a h
    · exact .inr (x.back h)
  keep := fun a o h n => by
    have q := x.keep a o h n
    exact y.keep a o q fun z => by
      rcases x.grow a z with z | z
      · exact n z
      · rw [h] at z; cases z
  there := fun a o h => by
    obtain ⟨o', h'⟩ := x.there a o h
    exact y.there a o' h'
  pin := fun i s h k => by
    obtain ⟨s', h', l, e⟩ := x.pin i s h k
    obtain ⟨s'', h'', l', e'⟩ := y.pin i s' h' (l.hard k)
    exact ⟨s'', h'', l.trans l', e'.trans e⟩
  lok := fun i s h k => by
    obtain ⟨h1, e1⟩ := y.lok i s h k
    obtain ⟨h2, e2⟩ := x.lok i s h1 k
    exact ⟨h2, e1.trans e2⟩
theorem Aft.mono (x : Aft U H σ r U' H' σ' r') (s : Sit C U H σ r) : Mono U (Wn U σ r) H U' (Wn U' σ' r') H' where
  lv := s.wlv
  keep := fun a o n h => x.keep a o h fun z => n (.inl z)
  free := fun a o n h => fun z => by
    rcases z with z | z
    · rcases x.grow a z with z | z
      · exact n (.inl z)
      · rw [h] at z; cases z
    · rcases x.new a z with z | z | z
      · exact n (.inr z)
      · rw [h] at z; cases z
      · exact n (.inl z)
  keepU := fun a o u h => x.keep a o h fun z => s.dis a z u
  sub := x.sub
theorem OpOk.after {o : Opd} {v : V} (k : OpOk C U H σ r o v) (x : Aft U H σ r U' H' σ r') (s : Sit C U H σ r) (p : Per r r') : OpOk C U' H' σ r' o v := by
  cases o with
  | loc i => exact ⟨k.1, let ⟨t, h⟩ := k.2; p i t h⟩
  | val t =>
    obtain ⟨k1, k2, k3⟩ := k
    refine ⟨k1.mono (x.mono s) fun a o ho hv h => ?_, fun p ho hv => x.sub p (k2 p ho hv), k3⟩
    exact x.keep a o h fun z => s.dis a z (k2 a ho hv)
theorem OpOk.res {o : Opd} {v : V} (k : OpOk C U H σ r o v) (s : Sit C U H σ r) : ∃ t, res r o = some t ∧ SR C.K U (Wn U σ r) H v t := by
  cases o with
  | loc i =>
    obtain ⟨e, t, h⟩ := k
    obtain ⟨v', e', y⟩ := s.rep i t h
    rw [e] at e'; cases e'
    exact ⟨t, by simp [GB.res, h], y⟩
  | val t => exact ⟨t, rfl, k.1⟩
theorem Per.refl : Per r r := fun _ s h => ⟨s, h⟩
theorem Per.trans (x : Per r r') (y : Per r' r'') : Per r r'' := fun i s h => let ⟨t, h'⟩ := x i s h; y i t h'
end
/-- an exception: its class by name, its fields -/
def XRp (C : Ct) (W : Addr → Prop) (c : Str) (fs : List (Str × D)) (cls : Value) (d : Option Addr) (H : Hp) : Prop :=
  ∃ (a dx : Addr) (fv : List (Str × V)), cls = .ref a ∧ C.mg c = some (.ref a) ∧ d = some dx ∧ H dx = some (.xd fv) ∧ KR C.K W H fv fs
/-- what is wanted where an exception leaves -/
def XWant (C : Ct) (U : Addr → Prop) (H : Hp) (σ : St) (r : Rho) (c : Str) (fs : List (Str × D)) (r' : Rho) : Prop :=
  ∀ cls d σ' H' U', Sit C U' H' σ' r' → Aft U H σ r U' H' σ' r' → XRp C (Wn U' σ' r') c fs cls d H' → C.W cls d σ' H'
/-- a value of its own is a new object -/
def New (H : Hp) (o : Opd) (v : V) : Prop := ∀ s p, o = .val s → s.own = true → v = .ref p → H p = none
/-- the reading of an expression by its function -/
def tE (C : Ct) (f : Rho → Rs Opd) : TE := fun σ H Q => ∃ U r, Sit C U H σ r ∧
  match f r with
  | .ok o r' => ∀ v H' U', Sit C U' H' σ r' → Aft U H σ r U' H' σ r' → Per r r' → OpOk C U' H' σ r' o v → New H o v → Q v H'
  | .ex c fs r' => XWant C U H σ r c fs r'
  | .st => False
abbrev GE (X : Cx) (C : Ct) (e : Expr) (f : Rho → Rs Opd) : Prop := PE X e (tE C f)
end GB
namespace GB
open PySem PySem.Spec PyProof.Rows L2
theorem weakE {X : Cx} {e : Expr} {t t' : TE} (h : PE X e t) (k : ∀ σ H Q, t' σ H Q → t σ H Q) : PE X e t' := ⟨fun pins s σ H Q I q => h.run pins s σ H Q I (k σ H Q q)⟩
theorem weakT {X : Cx} {e : Expr} {t t' : TT} (h : PT X e t) (k : ∀ σ H Q, t' σ H Q → t σ H Q) : PT X e t' := ⟨fun pins s σ H Q I q => h.run pins s σ H Q I (k σ H Q q)⟩
theorem orE {X : Cx} {e : Expr} {t t' : TE} (h : PE X e t) (h' : PE X e t') : PE X e (fun σ H Q => t σ H Q ∨ t' σ H Q) := ⟨fun pins s σ H Q I q => q.elim (h.run pins s σ H Q I) (h'.run pins s σ H Q I)⟩
section
variable {C : Ct} {U U' : Addr → Prop} {H H' : Hp} {σ : St} {r : Rho}
theorem Lv.grow {a : Addr} (h : Lv H a) (k : ∀ a o, H a = some o → H' a = some o) : Lv H' a := by
  rcases h with ⟨x, h⟩ | ⟨x, h⟩ | ⟨x, h⟩
  · exact .inl ⟨x, k _ _ h⟩
  · exact .inr (.inl ⟨x, k _ _ h⟩)
  · exact .inr (.inr ⟨x, k _ _ h⟩)
theorem Lv.ne {a : Addr} (h : Lv H a) (k : H a = none) : False := by
  rcases h with ⟨x, h⟩ | ⟨x, h⟩ | ⟨x, h⟩ <;> (rw [h] at k; cases k)
/-- the heap has grown -/
theorem Sit.ext (s : Sit C U H σ r) (k : ∀ a o, H a = some o → H' a = some o) (u1 : ∀ a, U a → U' a) (u2 : ∀ a, U' a → U a ∨ H a = none) (u3 : ∀ a, U' a → Lv H' a) : Sit C U' H' σ r ∧ Aft U H σ r U' H' σ r := by
  have x : Aft U H σ r U' H' σ r := ⟨u1, fun a h => (u2 a h).elim .inl fun z => .inr (.inl z), fun _ h => .inl h, fun a o h _ => k a o h, fun a o h => ⟨o, k a o h⟩, fun i s h _ => ⟨s, h, Sl.refl s, rfl⟩, fun i s h _ => ⟨h, rfl⟩⟩
  refine ⟨⟨s.len, fun i t h => ?_, s.inj, fun a h z => ?_, u3⟩, x⟩
  · obtain ⟨v, e, y⟩ := s.rep i t h
    exact ⟨v, e, y.mono (x.mono s) fun a o _ _ q => k a o q⟩
  · rcases u2 a z with z | z
    · exact s.dis a h z
    · exact (s.wlv a (.inl h)).ne z
/-- what a built-in gives: a frozen tree, or a new object of its own -/
inductive Got (K : PySem.W.Frag) (W : Addr → Prop) (H : Hp) : S → V → Hp → Prop
  | fz {v : V} {d : D} {H' : Hp} : (∀ a o, H a = some o → H' a = some o) → Rp K W H' v d → Got K W H (.fz d) v H'
  | ol {p : Addr} {xs : List V} {ds : List D} {H' : Hp} : (∀ a o, H a = some o → H' a = some o) → H p = none → H' p = some (.lst xs) → Rps K (fun a => W a ∨ a = p) H' xs ds → Got K W H (.ol ds) (.ref p) H'
  | od {p : Addr} {xs : List (Key × V)} {ds : List (Key × D)} {H' : Hp} : (∀ a o, H a = some o → H' a = some o) → H p = none → H' p = some (.dK xs) → KR K (fun a => W a ∨ a = p) H' xs ds → Got K W H (.od ds) (.ref p) H'
  | ot {p : Addr} {xs : List (List Key × V)} {ds : List (List Key × D)} {H' : Hp} : (∀ a o, H a = some o → H' a = some o) → H p = none → H' p = some (.dT xs) → KR K (fun a => W a ∨ a = p) H' xs ds → Got K W H (.ot ds) (.ref p) H'
theorem own_set {p : Addr} (hp : H p = none) (s : Sit C U H σ r) (k : ∀ a o, H a = some o → H' a = some o) (l : Lv H' p) : Sit C (fun a => U a ∨ a = p) H' σ r ∧ Aft U H σ r (fun a => U a ∨ a = p) H' σ r :=
  s.ext k (fun a h => .inl h) (fun a h => h.elim .inl fun z => .inr (by rw [z]; exact hp)) fun a h => h.elim (fun z => (s.uok a z).grow k) fun z => by rw [z]; exact l
theorem wn_or {p : Addr} : (Wn (fun a => U a ∨ a = p) σ r) = fun a => Wn U σ r a ∨ a = p := by
  funext a
  simp only [Wn, or_assoc]
theorem Got.fin {s : S} {v : V} (g : Got C.K (Wn U σ r) H s v H') (st : Sit C U H σ r) : ∃ U', Sit C U' H' σ r ∧ Aft U H σ r U' H' σ r ∧ OpOk C U' H' σ r (.val s) v ∧ New H (.val s) v := by
  cases g with
  | fz k x =>
    obtain ⟨s1, a1⟩ := st.ext k (fun _ h => h) (fun _ h => .inl h) fun a h => (st.uok a h).grow k
    exact ⟨U, s1, a1, ⟨.fz x, fun p h => (nomatch h), rfl⟩, fun _ _ h q _ => by cases h; cases q⟩
  | @ol p xs ds _ k hp e x =>
    obtain ⟨s1, a1⟩ := own_set hp st k (.inl ⟨_, e⟩)
    refine ⟨_, s1, a1, ⟨.ol e (by rw [wn_or]; exact x), fun q _ h => .inr (V.ref.inj h).symm, rfl⟩, fun _ _ _ _ h => by cases h; exact hp⟩
  | @od p xs ds _ k hp e x =>
    obtain ⟨s1, a1⟩ := own_set hp st k (.inr (.inl ⟨_, e⟩))
    refine ⟨_, s1, a1, ⟨.od e (by rw [wn_or]; exact x), fun q _ h => .inr (V.ref.inj h).symm, rfl⟩, fun _ _ _ _ h => by cases h; exact hp⟩
  | @ot p xs ds _ k hp e x =>
    obtain ⟨s1, a1⟩ := own_set hp st k (.inr (.inr ⟨_, e⟩))
    refine ⟨_, s1, a1, ⟨.ot e (by rw [wn_or]; exact x), fun q _ h => .inr (V.ref.inj h).symm, rfl⟩, fun _ _ _ _ h => by cases h; exact hp⟩
/-- a new object at p: the trees stay -/
theorem monoNew {W : Addr → Prop} {p : Addr} (lv : ∀ a, W a → Lv H a) (hp : H p = none) (k : ∀ a o, H a = some o → H' a = some o) : Mono (fun _ => False) W H (fun _ => False) (fun a => W a ∨ a = p) H' :=
  ⟨lv, fun a o _ h => k a o h, fun a o n h z => z.elim n fun z => (by rw [z, hp] at h; cases h), fun _ _ z => z.elim, fun _ z => z.elim⟩
theorem monoKeep {W : Addr → Prop} (lv : ∀ a, W a → Lv H a) (k : ∀ a o, H a = some o → H' a = some o) : Mono (fun _ => False) W H (fun _ => False) W H' :=
  ⟨lv, fun a o _ h => k a o h, fun a o n h => n, fun _ _ z => z.elim, fun _ z => z.elim⟩
theorem upd_keep {p : Addr} {o : HO} (hp : H p = none) : ∀ a u, H a = some u → upd H p o a = some u := fun a u h => by rw [upd_ne (ne_of_none h hp)]; exact h
theorem Got.newL {W : Addr → Prop} {p : Addr} {xs : List V} {ds : List D} (lv : ∀ a, W a → Lv H a) (hp : H p = none) (x : Rps C.K W H xs ds) : Got C.K W H (.ol ds) (.ref p) (upd H p (.lst xs)) :=
  .ol (upd_keep hp) hp upd_same (x.mono (monoNew lv hp (upd_keep hp)))
theorem Got.newT {W : Addr → Prop} {p : Addr} {xs : List V} {ds : List D} {o : Obj} (lv : ∀ a, W a → Lv H a) (hp : H p = none) (ho : TupO o) (x : Rps C.K W H xs ds) : Got C.K W H (.fz (.tup ds)) (.ref p) (upd H p (.frz o (.tup xs))) :=
  .fz (upd_keep hp) (.tup (.inl ⟨o, ho, upd_same⟩) (x.mono (monoKeep lv (upd_keep hp))))
theorem Got.same {K : PySem.W.Frag} {W : Addr → Prop} {v : V} {d : D} (x : Rp K W H v d) : Got K W H (.fz d) v H := .fz (fun _ _ h => h) x
end
section
variable {X : Cx} {C : Ct} {a b e : Expr} {es : List Expr} {fa fb fe : Rho → Rs Opd} {pos : Pos}
def eVar (i : Nat) : Rho → Rs Opd := fun r => match r[i]? with
  | some (some _) => .ok (.loc i) r
  | _ => .st
theorem ge_var {i : Nat} {x : Str} (hN : X.N[i]? = some x) (hv : Vis X.env.scope x) (hd : (x == ("__debug__" : Str)) = false := by decide) (hcd : (x == ("__classdict__" : Str)) = false := by decide) : GE X C (.Name x pos) (eVar i) := by
  refine weakE (pe_var hN hv hd hcd) fun σ H Q h => ?_
  obtain ⟨U, r, s, h⟩ := h
  unfold eVar at h
  split at h
  · rename_i z h'
    split at h'
    · rename_i t ht
      obtain ⟨v, ev, y⟩ := s.rep i t ht
      cases h'
      exact ⟨v, ev, h v H U s Aft.refl Per.refl ⟨ev, t, ht⟩ fun _ _ z => (nomatch z)⟩
    · cases h'
  · rename_i h'
    split at h' <;> cases h'
  · exact h.elim
def eC (d : D) : Rho → Rs Opd := fun r => .ok (.val (.fz d)) r
theorem ge_c {v : V} {d : D} (h : PE X e (tC v)) (hr : ∀ W H, Rp C.K W H v d) : GE X C e (eC d) := by
  refine weakE h fun σ H Q h => ?_
  obtain ⟨U, r, s, h⟩ := h
  exact h v H U s Aft.refl Per.refl ⟨.fz (hr _ _), fun p z => (nomatch z), rfl⟩ fun _ _ z q _ => by cases z; cases q
abbrev OpsOk (C : Ct) (U : Addr → Prop) (H : Hp) (σ : St) (r : Rho) : List Opd → List V → Prop := Paired fun o v => OpOk C U H σ r o v
abbrev NewS (H : Hp) : List Opd → List V → Prop := Paired fun o v => New H o v
def tA (C : Ct) (f : Rho → Rs (List Opd)) : TA := fun σ H Q => ∃ U r, Sit C U H σ r ∧
  match f r with
  | .ok os r' => ∀ vs H' U', Sit C U' H' σ r' → Aft U H σ r U' H' σ r' → Per r r' → OpsOk C U' H' σ r' os vs → NewS H os vs → Q vs H'
  | .ex c fs r' => XWant C U H σ r c fs r'
  | .st => False
abbrev GA (X : Cx) (C : Ct) (es : List Expr) (f : Rho → Rs (List Opd)) : Prop := PA X es (tA C f)
def eNil : Rho → Rs (List Opd) := fun r => .ok [] r
def eCons (fe : Rho → Rs Opd) (fr : Rho → Rs (List Opd)) : Rho → Rs (List Opd) := fun r => (fe r).bind fun o r1 => (fr r1).bind fun os r2 => .ok (o :: os) r2
theorem weakA {t t' : TA} (h : PA X es t) (k : ∀ σ H Q, t' σ H Q → t σ H Q) : PA X es t' := ⟨fun pos pins s σ H Q I q => h.run pos pins s σ H Q I (k σ H Q q)⟩
theorem ga_nil : GA X C [] eNil := by
  refine weakA pa_nil fun σ H Q h => ?_
  obtain ⟨U, r, s, h⟩ := h
  exact h [] H U s Aft.refl Per.refl .nil .nil
theorem XWant.before {U U' : Addr → Prop} {H H' : Hp} {σ σ' : St} {r r' r'' : Rho} {c : Str} {fs : List (Str × D)} (x : XWant C U H σ r c fs r'') (a : Aft U H σ r U' H' σ' r') : XWant C U' H' σ' r' c fs r'' :=
  fun cls d σ2 H2 U2 s2 a2 e2 => x cls d σ2 H2 U2 s2 (a.trans a2) e2
/-- one expression, then what follows with it -/
theorem tE_then {α : Type} {f : Rho → Rs Opd} {g : Opd → Rho → Rs α} {σ : St} {H : Hp} {Q : VK} {U : Addr → Prop} {r : Rho} {R : Rs α → Prop} (s : Sit C U H σ r) (h : R ((f r).bind g))
    (hst : R .st → False) (hex : ∀ c fs r', R (.ex c fs r') → XWant C U H σ r c fs r')
    (hok : ∀ o r' v H' U', Sit C U' H' σ r' → Aft U H σ r U' H' σ r' → Per r r' → OpOk C U' H' σ r' o v → New H o v → R (g o r') → Q v H') : tE C f σ H Q := by
  refine ⟨U, r, s, ?_⟩
  cases e : f r with
  | ok o r' => rw [e] at h; exact fun v H' U' s' a' p' k' n' => hok o r' v H' U' s' a' p' k' n' h
  | ex c fs r' => rw [e] at h; exact hex c fs r' h
  | st => rw [e] at h; exact hst h
theorem tA_then {α : Type} {f : Rho → Rs (List Opd)} {g : List Opd → Rho → Rs α} {σ : St} {H : Hp} {Q : List V → Hp → Prop} {U : Addr → Prop} {r : Rho} {R : Rs α → Prop} (s : Sit C U H σ r) (h : R ((f r).bind g))
    (hst : R .st → False) (hex : ∀ c fs r', R (.ex c fs r') → XWant C U H σ r c fs r')
    (hok : ∀ o r' v H' U', Sit C U' H' σ r' → Aft U H σ r U' H' σ r' → Per r r' → OpsOk C U' H' σ r' o v → NewS H o v → R (g o r') → Q v H') : tA C f σ H Q := by
  refine ⟨U, r, s, ?_⟩
  cases e : f r with
  | ok o r' => rw [e] at h; exact fun v H' U' s' a' p' k' n' => hok o r' v H' U' s' a' p' k' n' h
  | ex c fs r' => rw [e] at h; exact hex c fs r' h
  | st => rw [e] at h; exact hst h
theorem OpsOk.after {U U' : Addr → Prop} {H H' : Hp} {σ : St} {r r' : Rho} (x : Aft U H σ r U' H' σ r') (s : Sit C U H σ r) (p : Per r r') : ∀ {os : List Opd} {vs : List V}, OpsOk C U H σ r os vs → OpsOk C U' H' σ r' os vs
  | _, _, .nil => .nil
  | _, _, .cons k t => .cons (k.after x s p) (OpsOk.after x s p t)
theorem New.back {U U' : Addr → Prop} {H H' : Hp} {σ σ' : St} {r r' : Rho} (a : Aft U H σ r U' H' σ' r') {o : Opd} {v : V} (n : New H' o v) : New H o v := fun s p e1 e2 e3 => a.back (n s p e1 e2 e3)
theorem NewS.back {U U' : Addr → Prop} {H H' : Hp} {σ σ' : St} {r r' : Rho} (a : Aft U H σ r U' H' σ' r') {os : List Opd} {vs : List V} (n : NewS H' os vs) : NewS H os vs := Paired.mapP n fun _ _ q => q.back a
theorem ga_cons {fr : Rho → Rs (List Opd)} (he : GE X C e fe) (hr : GA X C es fr) (hs : starEach (e :: es) X.env = (false, eval e X.env) :: starEach es X.env := by rfl) : GA X C (e :: es) (eCons fe fr) := by
  refine weakA (pa_cons he hr hs) fun σ H Q h => ?_
  obtain ⟨U, r, s, h⟩ := h
  refine tE_then (R := fun z => match z with | .ok os r' => ∀ vs H' U', Sit C U' H' σ r' → Aft U H σ r U' H' σ r' → Per r r' → OpsOk C U' H' σ r' os vs → NewS H os vs → Q vs H' | .ex c fs r' => XWant C U H σ r c fs r' | .st => False) s h id (fun _ _ _ z => z) ?_
  intro o r1 v H1 U1 s1 a1 p1 k1 n1 h1
  refine tA_then (R := fun z => match z with | .ok os r' => ∀ vs H' U', Sit C U' H' σ r' → Aft U H σ r U' H' σ r' → Per r r' → OpsOk C U' H' σ r' os vs → NewS H os vs → Q vs H' | .ex c fs r' => XWant C U H σ r c fs r' | .st => False) s1 h1 id (fun _ _ _ z => XWant.before z a1) ?_
  intro os r2 vs H2 U2 s2 a2 p2 k2 n2 h2
  exact h2 (v :: vs) H2 U2 s2 (a1.trans a2) (p1.trans p2) (.cons (k1.after a2 s1 p2) k2) (.cons n1 (NewS.back a1 n2))
def resAll (r : Rho) : List Opd → Option (List S)
  | [] => some []
  | o :: os => match res r o, resAll r os with
    | some s, some ss => some (s :: ss)
    | _, _ => none
abbrev SRs (K : PySem.W.Frag) (U W : Addr → Prop) (H : Hp) : List V → List S → Prop := Paired fun v s => SR K U W H v s
theorem OpsOk.res {U : Addr → Prop} {H : Hp} {σ : St} {r : Rho} (s : Sit C U H σ r) : ∀ {os : List Opd} {vs : List V}, OpsOk C U H σ r os vs → ∃ ss, resAll r os = some ss ∧ SRs C.K U (Wn U σ r) H vs ss
  | _, _, .nil => ⟨[], rfl, .nil⟩
  | _, _, .cons k t => by
    obtain ⟨a, e1, x1⟩ := k.res s
    obtain ⟨as, e2, x2⟩ := OpsOk.res s t
    exact ⟨a :: as, by simp only [resAll, e1, e2], .cons x1 x2⟩
/-- a built-in by its function on words -/
abbrev Pr := List S → Option S
def PN (C : Ct) (rr : List V → Hp → VK → Prop) (p : Pr) : Prop :=
  ∀ (U W : Addr → Prop) (H : Hp) (vs : List V) (ss : List S) (s : S) (Q : VK), (∀ a, W a → Lv H a) → SRs C.K U W H vs ss → p ss = some s → (∀ v H', Got C.K W H s v H' → Q v H') → rr vs H Q
/-- the words' function applied to operands -/
def eP (p : Pr) (os : List Opd) (r : Rho) : Rs Opd := match resAll r os with
  | some ss => (match p ss with | some s => .ok (.val s) r | none => .st)
  | none => .st
def eCall (p : Pr) (fa : Rho → Rs (List Opd)) : Rho → Rs Opd := fun r => (fa r).bind (eP p)
theorem eP_fin {rr : List V → Hp → VK → Prop} {p : Pr} (hp : PN C rr p) {U U' : Addr → Prop} {H H' : Hp} {σ : St} {r r' : Rho} {os : List Opd} {vs : List V} {Q : VK} (s : Sit C U' H' σ r') (a : Aft U H σ r U' H' σ r') (pe : Per r r') (k : OpsOk C U' H' σ r' os vs)
    (h : match eP p os r' with | .ok o r' => ∀ v H' U', Sit C U' H' σ r' → Aft U H σ r U' H' σ r' → Per r r' → OpOk C U' H' σ r' o v → New H o v → Q v H' | .ex c fs r' => XWant C U H σ r c fs r' | .st => False) : rr vs H' Q := by
  obtain ⟨ss, e, x⟩ := k.res s
  unfold eP at h
  simp only [e] at h
  cases e2 : p ss with
  | none => simp only [e2] at h
  | some t =>
    simp only [e2] at h
    refine hp U' _ H' vs ss t Q s.wlv x e2 fun v H2 g => ?_
    obtain ⟨U2, s2, a2, k2, n2⟩ := g.fin s
    exact h v H2 U2 s2 (a.trans a2) pe k2 (n2.back a)
theorem ge_call {rr : List V → Hp → VK → Prop} {p : Pr} {f : Rho → Rs (List Opd)} (hp : PN C rr p) (h : PE X e (tCB rr (tA C f))) : GE X C e (eCall p f) := by
  refine weakE h fun σ H Q h => ?_
  obtain ⟨U, r, s, h⟩ := h
  refine tA_then (R := fun z => match z with | .ok o r' => ∀ v H' U', Sit C U' H' σ r' → Aft U H σ r U' H' σ r' → Per r r' → OpOk C U' H' σ r' o v → New H o v → Q v H' | .ex c fs r' => XWant C U H σ r c fs r' | .st => False) s h id (fun _ _ _ z => z) ?_
  intro os r1 vs H1 U1 s1 a1 p1 k1 n1 h1
  exact eP_fin hp s1 a1 p1 k1 h1
/-- two operands -/
theorem ge_op {rr : R2} {p : Pr} (hp : PN C (fun vs H Q => ∃ x y, vs = [x, y] ∧ rr x y H Q) p) (h : PE X e (tOp rr (tE C fa) (tE C fb))) : GE X C e (eCall p (eCons fa (eCons fb eNil))) := by
  refine weakE h fun σ H Q h => ?_
  obtain ⟨U, r, s, h⟩ := h
  refine tE_then (g := fun o r1 => ((fb r1).bind fun o2 r2 => eP p [o, o2] r2)) (R := fun z => match z with | .ok o r' => ∀ v H' U', Sit C U' H' σ r' → Aft U H σ r U' H' σ r' → Per r r' → OpOk C U' H' σ r' o v → New H o v → Q v H' | .ex c fs r' => XWant C U H σ r c fs r' | .st => False) s ?_ id (fun _ _ _ z => z) ?_
  · refine cast ?_ h
    unfold eCall eCons eNil Rs.bind
    cases fa r with
    | ok o r1 => simp only []; cases fb r1 <;> rfl
    | ex c fs r' => rfl
    | st => rfl
  intro o r1 v H1 U1 s1 a1 p1 k1 n1 h1
  refine tE_then (R := fun z => match z with | .ok o r' => ∀ v H' U', Sit C U' H' σ r' → Aft U H σ r U' H' σ r' → Per r r' → OpOk C U' H' σ r' o v → New H o v → Q v H' | .ex c fs r' => XWant C U H σ r c fs r' | .st => False) s1 h1 id (fun _ _ _ z => XWant.before z a1) ?_
  intro o2 r2 v2 H2 U2 s2 a2 p2 k2 n2 h2
  obtain ⟨x, y, e, q⟩ := eP_fin hp s2 (a1.trans a2) (p1.trans p2) (.cons (k1.after a2 s1 p2) (.cons k2 .nil)) h2
  cases e
  exact q
end
end GB
namespace GB
open PySem PySem.Spec PyProof.Rows L2
section
variable {C : Ct} {U U' : Addr → Prop} {H H' : Hp} {σ σ' : St} {r r' : Rho} {K : PySem.W.Frag} {W W' : Addr → Prop}
mutual
theorem Rp.less (h : ∀ a, W' a → W a) : ∀ {v : V} {d : D}, Rp K W H v d → Rp K W' H v d
  | _, _, .non => .non
  | _, _, .bl b => .bl b
  | _, _, .int i => .int i
  | _, _, .str l => .str l
  | _, _, .tup h1 t => .tup h1 (Rps.less h t)
  | _, _, .lst h1 n t => .lst h1 (fun z => n (h _ z)) (Rps.less h t)
  | _, _, .scr h1 t => .scr h1 (Rps.less h t)
  | _, _, .dic h1 n e t => .dic h1 (fun z => n (h _ z)) e (Rps.less h t)
theorem Rps.less (h : ∀ a, W' a → W a) : ∀ {v : List V} {d : List D}, Rps K W H v d → Rps K W' H v d
  | _, _, .nil => .nil
  | _, _, .cons h1 t => .cons (Rp.less h h1) (Rps.less h t)
end
theorem KR.less {κ : Type} (h : ∀ a, W' a → W a) {v : List (κ × V)} {d : List (κ × D)} (x : KR K W H v d) : KR K W' H v d := Paired.mapP x fun _ _ q => ⟨q.1, q.2.less h⟩
/-- a smaller world of what may be written -/
theorem SR.less (h : ∀ a, W' a → W a) {v : V} {s : S} (x : SR K U W H v s) (hl : ∀ p, s.lkd = true → v = .ref p → U' p) : SR K U' W' H v s := by
  cases x with
  | fz x => exact .fz (x.less h)
  | ol e x => exact .ol e (x.less h)
  | br e x => exact .br e (x.less h)
  | lk e u x => exact .lk e (hl _ rfl rfl) (x.less h)
  | od e x => exact .od e (x.less h)
  | bd e x => exact .bd e (x.less h)
  | kd e x => exact .kd e (x.less h)
  | exc e x => exact .exc e (x.less h)
  | nd x => exact .nd (x.less h)
  | nh e x => exact .nh e (x.less h)
  | ot e x => exact .ot e (x.less h)
  | kt e x => exact .kt e (x.less h)
  | ky e => exact .ky e
theorem SR.lkLv {v : V} {s : S} (x : SR K U W H v s) {p : Addr} (h : s.lkd = true) (e : v = .ref p) : U p := by
  cases x with
  | lk _ u _ => cases e; exact u
  | kd _ _ => cases h
  | exc _ _ => cases h
  | nd _ => cases h
  | nh _ _ => cases h
  | ot _ _ => cases h
  | kt _ _ => cases h
  | ky _ => cases h
  | fz _ => cases h
  | ol _ _ => cases h
  | br _ _ => cases h
  | od _ _ => cases h
  | bd _ _ => cases h
theorem lkd_hard {s : S} (h : s.lkd = true) : s.hard = true := by cases s <;> first | rfl | cases h
/-- new objects need no longer be held as writable -/
theorem Sit.drop (s0 : Sit C U H σ r) (s : Sit C U' H' σ' r') (a : Aft U H σ r U' H' σ' r') (Z : Addr → Prop) (hz : ∀ a, Z a → H a = none) :
    Sit C (fun a => U' a ∧ ¬ Z a) H' σ' r' ∧ Aft U H σ r (fun a => U' a ∧ ¬ Z a) H' σ' r' := by
  have u0 : ∀ a, U a → ¬ Z a := fun a h z => (s0.uok a h).ne (hz a z)
  refine ⟨⟨s.len, fun i t h => ?_, s.inj, fun b h z => s.dis b h z.1, fun b h => s.uok b h.1⟩, ⟨fun b h => ⟨a.sub b h, u0 b h⟩, fun b h => a.new b h.1, a.grow, a.keep, a.there, a.pin, a.lok⟩⟩
  obtain ⟨v, e, x⟩ := s.rep i t h
  refine ⟨v, e, x.less (fun b z => z.elim .inl fun z => .inr z.1) fun p hl hv => ?_⟩
  obtain ⟨h1, e1⟩ := a.lok i t h hl
  obtain ⟨v0, e0, x0⟩ := s0.rep i t h1
  rw [e1, e0] at e; cases e
  have q := x0.lkLv hl hv
  exact ⟨a.sub p q, u0 p q⟩
/-- one operand kept in a tree -/
def frz1 (o : Opd) (r : Rho) : Option (D × Rho) := match o with
  | .val (.fz d) => some (d, r)
  | .val (.ol ds) => some (.lst ds, r)
  | .val (.od kvs) => some (.dic (kvs.map Prod.fst) (kvs.map Prod.snd), r)
  | .val _ => none
  | .loc i => match r[i]? with
    | some (some (.fz d)) => some (d, r)
    | some (some (.ol ds)) => some (.lst ds, r.set i (some (.fz (.lst ds))))
    | _ => none
def frzAll : List Opd → Rho → Option (List D × Rho)
  | [], r => some ([], r)
  | o :: os, r => match frz1 o r with
    | some (d, r1) => (match frzAll os r1 with | some (ds, r2) => some (d :: ds, r2) | none => none)
    | none => none
/-- the operand's thing without its own object being held -/
def Ops2 (C : Ct) (U : Addr → Prop) (H : Hp) (σ : St) (r : Rho) (o : Opd) (v : V) : Prop :=
  match o with
  | .loc i => σ[i]? = some (some v) ∧ ∃ s, r[i]? = some (some s)
  | .val s => SR C.K U (Wn U σ r) H v s ∧ (∀ p, s.own = true → v = .ref p → ¬ Wn U σ r p) ∧ s.hard = false
theorem own_setfz {i : Nat} {d : D} {a : Addr} (h : Own σ (r.set i (some (.fz d))) a) : Own σ r a ∧ σ[i]? ≠ some (some (V.ref a)) ∨ (∃ j s, j ≠ i ∧ r[j]? = some (some s) ∧ s.own = true ∧ σ[j]? = some (some (V.ref a))) := by
  obtain ⟨j, s, h1, h2, h3⟩ := h
  by_cases e : i = j
  · subst e
    by_cases hl : i < r.length
    · rw [List.getElem?_set_self hl] at h1; cases h1; cases h2
    · rw [List.getElem?_eq_none (by simpa using hl)] at h1; cases h1
  · rw [List.getElem?_set_ne e] at h1
    exact .inr ⟨j, s, fun z => e z.symm, h1, h2, h3⟩
/-- a slot's own list becomes a frozen one -/
theorem frzSlot {i : Nat} {ds : List D} {v : V} (s : Sit C U H σ r) (hi : r[i]? = some (some (.ol ds))) (hv : σ[i]? = some (some v)) :
    Sit C U H σ (r.set i (some (.fz (.lst ds)))) ∧ Aft U H σ r U H σ (r.set i (some (.fz (.lst ds)))) ∧ Per r (r.set i (some (.fz (.lst ds)))) ∧ Rp C.K (Wn U σ (r.set i (some (.fz (.lst ds))))) H v (.lst ds) := by
  have hlt : i < r.length := by
    by_cases q : i < r.length
    · exact q
    · rw [List.getElem?_eq_none (by simpa using q)] at hi; cases hi
  have sub : ∀ a, Own σ (r.set i (some (.fz (.lst ds)))) a → Own σ r a ∧ σ[i]? ≠ some (some (V.ref a)) := fun a h => by
    rcases own_setfz h with h | ⟨j, t, n, h1, h2, h3⟩
    · exact h
    · refine ⟨⟨j, t, h1, h2, h3⟩, fun z => n ?_⟩
      refine (s.inj i j (.ol ds) t (.ref a) hi rfl h1 ?_ z h3).symm
      cases t <;> first | rfl | cases h2
  have wsub : ∀ a, Wn U σ (r.set i (some (.fz (.lst ds)))) a → Wn U σ r a := fun a h => h.elim (fun z => .inl (sub a z).1) .inr
  have rv : Rp C.K (Wn U σ (r.set i (some (.fz (.lst ds))))) H v (.lst ds) := by
    obtain ⟨v', e, x⟩ := s.rep i _ hi
    rw [hv] at e; cases e
    cases x with
    | ol e x =>
      refine .lst e (fun z => ?_) (x.less wsub)
      rcases z with z | z
      · exact (sub _ z).2 hv
      · exact s.dis _ ⟨i, _, hi, rfl, hv⟩ z
  have at' : ∀ (j : Nat) (t : S), (r.set i (some (.fz (.lst ds))))[j]? = some (some t) → (j = i ∧ t = .fz (.lst ds)) ∨ (j ≠ i ∧ r[j]? = some (some t)) := fun j t h => by
    by_cases e : i = j
    · subst e; rw [List.getElem?_set_self hlt] at h; cases h; exact .inl ⟨rfl, rfl⟩
    · rw [List.getElem?_set_ne e] at h; exact .inr ⟨fun z => e z.symm, h⟩
  refine ⟨⟨by rw [List.length_set]; exact s.len, fun j t h => ?_, fun j k t u w h1 q1 h2 q2 => ?_, fun a h => s.dis a (sub a h).1, s.uok⟩, ⟨fun _ h => h, fun _ h => .inl h, fun a h => .inl (sub a h).1, fun a o h _ => h, fun a o h => ⟨o, h⟩, fun j t h k => ?_, fun j t h k => ?_⟩, fun j t h => ?_, rv⟩
  · rcases at' j t h with ⟨rfl, rfl⟩ | ⟨n, h⟩
    · exact ⟨v, hv, .fz rv⟩
    · obtain ⟨w, e, x⟩ := s.rep j t h
      exact ⟨w, e, x.less wsub fun p hl hp => x.lkLv hl hp⟩
  · rcases at' j t h1 with ⟨rfl, rfl⟩ | ⟨n, h1⟩
    · cases q1
    · rcases at' k u h2 with ⟨rfl, rfl⟩ | ⟨n', h2⟩
      · cases q2
      · exact s.inj j k t u w h1 q1 h2 q2
  · have n : i ≠ j := fun z => by subst z; rw [hi] at h; cases h; cases k
    exact ⟨t, by rw [List.getElem?_set_ne n]; exact h, Sl.refl t, rfl⟩
  · rcases at' j t h with ⟨rfl, rfl⟩ | ⟨n, h⟩
    · cases k
    · exact ⟨h, rfl⟩
  · by_cases e : i = j
    · subst e; exact ⟨_, List.getElem?_set_self hlt⟩
    · exact ⟨t, by rw [List.getElem?_set_ne e]; exact h⟩
theorem kr_rps {κ : Type} : ∀ {xs : List (κ × V)} {ds : List (κ × D)}, KR K W H xs ds → xs.map Prod.fst = ds.map Prod.fst ∧ Rps K W H (xs.map Prod.snd) (ds.map Prod.snd)
  | _, _, .nil => ⟨rfl, .nil⟩
  | _, _, .cons h t => by
    obtain ⟨h1, h2⟩ := kr_rps t
    exact ⟨by rw [List.map_cons, List.map_cons, h.1, h1], .cons h.2 h2⟩
theorem frz1_ok {o : Opd} {v : V} {d : D} {r1 : Rho} (s : Sit C U H σ r) (k : Ops2 C U H σ r o v) (h : frz1 o r = some (d, r1)) :
    Sit C U H σ r1 ∧ Aft U H σ r U H σ r1 ∧ Per r r1 ∧ Rp C.K (Wn U σ r1) H v d := by
  cases o with
  | val t =>
    obtain ⟨x, n, _⟩ := k
    cases t with
    | fz d' => cases h; cases x with | fz x => exact ⟨s, Aft.refl, Per.refl, x⟩
    | ol ds =>
      cases h
      cases x with
      | ol e x => exact ⟨s, Aft.refl, Per.refl, .lst e (n _ rfl rfl) x⟩
    | od kvs =>
      cases h
      cases x with
      | od e x => exact ⟨s, Aft.refl, Per.refl, .dic e (n _ rfl rfl) (kr_rps x).1 (kr_rps x).2⟩
    | _ => cases h
  | loc i =>
    obtain ⟨hv, t, ht⟩ := k
    unfold frz1 at h
    simp only [ht] at h
    cases t with
    | fz d' =>
      cases h
      obtain ⟨w, e, x⟩ := s.rep i _ ht
      rw [hv] at e; cases e
      cases x with | fz x => exact ⟨s, Aft.refl, Per.refl, x⟩
    | ol ds =>
      cases h
      exact frzSlot s ht hv
    | _ => cases h
theorem Ops2.after {o : Opd} {v : V} (k : Ops2 C U H σ r o v) (x : Aft U H σ r U H σ r') (s : Sit C U H σ r) (p : Per r r') : Ops2 C U H σ r' o v := by
  cases o with
  | loc i => exact ⟨k.1, let ⟨t, h⟩ := k.2; p i t h⟩
  | val t =>
    obtain ⟨k1, k2, k3⟩ := k
    refine ⟨k1.mono (x.mono s) fun a o ho hv h => h, fun p ho hv z => ?_, k3⟩
    obtain ⟨q, e, l⟩ := k1.ownLv ho
    rw [hv] at e; cases e
    have n := k2 p ho hv
    rcases z with z | z
    · rcases x.grow p z with z | z
      · exact n (.inl z)
      · exact l.ne z
    · exact n (.inr z)
theorem frzAll_ok (s : Sit C U H σ r) : ∀ {os : List Opd} {vs : List V} {ds : List D} {r1 : Rho}, Paired (fun o v => Ops2 C U H σ r o v) os vs → frzAll os r = some (ds, r1) →
    Sit C U H σ r1 ∧ Aft U H σ r U H σ r1 ∧ Per r r1 ∧ Rps C.K (Wn U σ r1) H vs ds := by
  intro os
  induction os generalizing r with
  | nil =>
    intro vs ds r1 k h
    cases k
    cases h
    exact ⟨s, Aft.refl, Per.refl, .nil⟩
  | cons o os ih =>
    intro vs ds r1 k h
    cases k with
    | cons k1 k2 =>
      unfold frzAll at h
      cases e : frz1 o r with
      | none => simp only [e] at h; cases h
      | some q =>
        obtain ⟨d, r2⟩ := q
        simp only [e] at h
        obtain ⟨s2, a2, p2, x2⟩ := frz1_ok s k1 e
        cases e' : frzAll os r2 with
        | none => simp only [e'] at h; cases h
        | some q =>
          obtain ⟨ds', r3⟩ := q
          simp only [e'] at h
          cases h
          obtain ⟨s3, a3, p3, x3⟩ := ih s2 (Paired.mapP k2 fun _ _ z => z.after a2 s p2) e'
          exact ⟨s3, a2.trans a3, p2.trans p3, .cons (x2.mono (a3.mono s2)) x3⟩
/-- operands behind their evaluation: their own objects are let go -/
theorem ops_drop (s0 : Sit C U H σ r) (s : Sit C U' H' σ r') (a : Aft U H σ r U' H' σ r') {os : List Opd} {vs : List V} (k : OpsOk C U' H' σ r' os vs) (n : NewS H os vs) :
    ∃ U2, Sit C U2 H' σ r' ∧ Aft U H σ r U2 H' σ r' ∧ (∀ a, U2 a → U' a) ∧ Paired (fun o v => Ops2 C U2 H' σ r' o v) os vs := by
  let Z : Addr → Prop := fun a => ∃ s, s.own = true ∧ (∃ i : Nat, os[i]? = some (.val s) ∧ vs[i]? = some (V.ref a))
  have hz : ∀ a, Z a → H a = none := by
    rintro a ⟨t, ho, i, h1, h2⟩
    clear s k
    induction n generalizing i with
    | nil => cases h1
    | cons q _ ih =>
      cases i with
      | zero => cases h1; cases h2; exact q t a rfl ho rfl
      | succ i => exact ih i h1 h2
  obtain ⟨s2, a2⟩ := s0.drop s a Z hz
  refine ⟨_, s2, a2, fun a h => h.1, ?_⟩
  have key : ∀ (os' : List Opd) (vs' : List V), OpsOk C U' H' σ r' os' vs' → (∀ (i : Nat) o v, os'[i]? = some o → vs'[i]? = some v → ∃ j : Nat, os[j]? = some o ∧ vs[j]? = some v) → Paired (fun o v => Ops2 C (fun a => U' a ∧ ¬ Z a) H' σ r' o v) os' vs' := by
    intro os' vs' k'
    induction k' with
    | nil => exact fun _ => .nil
    | @cons o v os' vs' q _ ih =>
      intro hj
      refine .cons ?_ (ih fun i o v h1 h2 => hj (i + 1) o v h1 h2)
      cases o with
      | loc i => exact q
      | val t =>
        obtain ⟨x, hu, hh⟩ := q
        refine ⟨x.less (fun b z => z.elim .inl fun z => .inr z.1) fun p hl _ => ?_, fun p ho hv z => ?_, hh⟩
        · rw [lkd_hard hl] at hh; cases hh
        · obtain ⟨j, h1, h2⟩ := hj 0 _ v rfl rfl
          rcases z with z | z
          · exact s.dis p z (hu p ho hv)
          · exact z.2 ⟨t, ho, j, h1, by rw [h2, hv]⟩
  exact key os vs k fun i o v h1 h2 => ⟨i, h1, h2⟩
end
section
variable {X : Cx} {C : Ct} {e : Expr} {es : List Expr}
def eTup (fa : Rho → Rs (List Opd)) : Rho → Rs Opd := fun r => (fa r).bind fun os r1 => match frzAll os r1 with
  | some (ds, r2) => if os.length ≤ 1000 then .ok (.val (.fz (.tup ds))) r2 else .st
  | none => .st
def eLst (fa : Rho → Rs (List Opd)) : Rho → Rs Opd := fun r => (fa r).bind fun os r1 => match frzAll os r1 with
  | some (ds, r2) => if os.length ≤ 1000 then .ok (.val (.ol ds)) r2 else .st
  | none => .st
theorem k1000 {n : Nat} (h : n ≤ 1000) : n ≤ sizeLine := by rw [sizeLine_eq]; omega
abbrev RE (C : Ct) (U : Addr → Prop) (H : Hp) (σ : St) (r : Rho) (Q : VK) (z : Rs Opd) : Prop := match z with
  | .ok o r' => ∀ v H' U', Sit C U' H' σ r' → Aft U H σ r U' H' σ r' → Per r r' → OpOk C U' H' σ r' o v → New H o v → Q v H'
  | .ex c fs r' => XWant C U H σ r c fs r'
  | .st => False
def tTupX (t : TA) : TE := fun σ H Q => t σ H fun xs H1 => xs.length ≤ sizeLine ∧ ∀ p o, TupO o → H1 p = none → Q (.ref p) (upd H1 p (.frz o (.tup xs)))
theorem pe_tupX {X : Cx} {es : List Expr} {t : TA} {pos : Pos} {x1 : Nat} (h : PA X es t) : PE X (.Tuple es x1 pos) (tTupX t) := by
  refine ⟨fun pins s σ H Q I hq => ?_⟩
  refine wpAny_Tuple_spliced (thn (h.run pos pins s σ H _ I hq) fun us s1 ⟨xs, H1, I1, r, z, q⟩ => ⟨by rw [← r.length]; exact z, ?_⟩)
  have hf : H1 s1.heap.objs.size = none := I1.hok.fresh (Nat.le_refl _)
  refine ⟨.ref s1.heap.objs.size, upd H1 s1.heap.objs.size (.frz { cls := .type "tuple", data := .seq us.toArray } (.tup xs)), I1.laid (t' := s1.toks) (fun b u e => Heap.get?_push_of_some _ e) (Nat.le_refl _) ?_, rfl, q _ _ ⟨rfl, rfl⟩ hf⟩
  exact ⟨Heap.get?_push_size _ rfl, z, us, r, ⟨_, Heap.get?_push_size _ rfl, rfl, _, rfl⟩⟩
theorem ge_tup {fa : Rho → Rs (List Opd)} (h : PE X e (tTupX (tA C fa))) : GE X C e (eTup fa) := by
  refine weakE h fun σ H Q h => ?_
  obtain ⟨U, r, s, h⟩ := h
  refine tA_then (R := RE C U H σ r Q) s h id (fun _ _ _ z => z) ?_
  intro os r1 vs H1 U1 s1 a1 p1 k1 n1 h1
  cases e : frzAll os r1 with
  | none => simp only [e] at h1; exact (show False from h1).elim
  | some q =>
    obtain ⟨ds, r2⟩ := q
    simp only [e] at h1
    by_cases hl : os.length ≤ 1000
    · rw [if_pos hl] at h1
      obtain ⟨U2, s2, a2, u2, k2⟩ := ops_drop s s1 a1 k1 n1
      obtain ⟨s3, a3, p3, x3⟩ := frzAll_ok s2 k2 e
      refine ⟨k1000 (by rw [← Paired.length k1]; exact hl), fun p o ho hp => ?_⟩
      obtain ⟨U4, s4, a4, k4, n4⟩ := (Got.newT s3.wlv hp ho x3).fin s3
      exact h1 _ _ U4 s4 ((a2.trans a3).trans a4) (p1.trans p3) k4 (n4.back a1)
    · rw [if_neg hl] at h1
      exact h1.elim
theorem ge_lst {fa : Rho → Rs (List Opd)} (h : PE X e (tLst (tA C fa))) : GE X C e (eLst fa) := by
  refine weakE h fun σ H Q h => ?_
  obtain ⟨U, r, s, h⟩ := h
  refine tA_then (R := RE C U H σ r Q) s h id (fun _ _ _ z => z) ?_
  intro os r1 vs H1 U1 s1 a1 p1 k1 n1 h1
  cases e : frzAll os r1 with
  | none => simp only [e] at h1; exact (show False from h1).elim
  | some q =>
    obtain ⟨ds, r2⟩ := q
    simp only [e] at h1
    by_cases hl : os.length ≤ 1000
    · rw [if_pos hl] at h1
      obtain ⟨U2, s2, a2, u2, k2⟩ := ops_drop s s1 a1 k1 n1
      obtain ⟨s3, a3, p3, x3⟩ := frzAll_ok s2 k2 e
      refine ⟨k1000 (by rw [← Paired.length k1]; exact hl), fun p hp => ?_⟩
      obtain ⟨U4, s4, a4, k4, n4⟩ := (Got.newL s3.wlv hp x3).fin s3
      exact h1 _ _ U4 s4 ((a2.trans a3).trans a4) (p1.trans p3) k4 (n4.back a1)
    · rw [if_neg hl] at h1
      exact h1.elim
end
end GB
namespace GB
open PySem PySem.Spec PyProof.Rows L2
/-- a def's end: its value, what its borrowed things are behind it -/
inductive FR where
  | ok (s : S) (outs : List S) | ex (c : Str) (fs : List (Str × D)) (outs : List S) | st
abbrev Fs := List S → FR
abbrev slots (vs : List V) : St := vs.map some
abbrev words (ss : List S) : Rho := ss.map some
/-- the promise of a def that is run by F -/
def spF (C : Ct) (n : Nat) (F : Fs) : Sp := fun vs H Q E => vs.length = n ∧ ∃ U ss, (∀ s ∈ ss, s.own = true → s.hard = true) ∧ Sit C U H (slots vs) (words ss) ∧
  match F ss with
  | .ok s outs => ∀ v H' U', Sit C U' H' (slots vs) (words outs) → Aft U H (slots vs) (words ss) U' H' (slots vs) (words outs) → OpOk C U' H' (slots vs) (words outs) (.val s) v → New H (.val s) v → Q v H'
  | .ex c fs outs => ∀ cls d H' U', Sit C U' H' (slots vs) (words outs) → Aft U H (slots vs) (words ss) U' H' (slots vs) (words outs) → XRp C (Wn U' (slots vs) (words outs)) c fs cls d H' → E cls d H'
  | .st => False
def pass1 (r : Rho) : Opd → Option S
  | .val (.fz d) => some (.fz d)
  | .val (.ol ds) => some (.fz (.lst ds))
  | .val _ => none
  | .loc i => match r[i]? with
    | some (some s) => (match s with
      | .fz d => some (.fz d) | .ol ds => some (.br ds) | .br ds => some (.br ds) | .lk ds => some (.lk ds)
      | .od k => some (.bd k) | .bd k => some (.bd k) | .kd _ _ _ => none | .exc _ _ _ _ => none | .nd _ _ => none | .nh _ _ _ => none | .ot _ => none | .kt _ _ _ => none | .ky _ => none)
    | _ => none
def passAll (r : Rho) : List Opd → Option (List S)
  | [] => some []
  | o :: os => match pass1 r o, passAll r os with
    | some s, some ss => some (s :: ss)
    | _, _ => none
def isLoc (i : Nat) : Opd → Bool
  | .loc j => i == j
  | _ => false
def hardAt (r : Rho) (i : Nat) : Bool := match r[i]? with
  | some (some s) => !s.soft
  | _ => false
/-- nothing writable is handed in twice -/
def dst (r : Rho) : List Opd → Bool
  | [] => true
  | o :: os => (match o with | .loc i => if hardAt r i then !(os.any (isLoc i)) else true | _ => true) && dst r os
def wb1 (o : Opd) (t : S) (r : Rho) : Option Rho := match o with
  | .val _ => some r
  | .loc i => match r[i]? with
    | some (some (.ol _)) => (match t with | .br ds => some (r.set i (some (.ol ds))) | _ => none)
    | some (some (.br _)) => (match t with | .br ds => some (r.set i (some (.br ds))) | _ => none)
    | some (some (.od _)) => (match t with | .bd ds => some (r.set i (some (.od ds))) | _ => none)
    | some (some (.bd _)) => (match t with | .bd ds => some (r.set i (some (.bd ds))) | _ => none)
    | some (some (.ot _)) => none
    | some (some _) => some r
    | _ => none
def wbAll : List Opd → List S → Rho → Option Rho
  | [], [], r => some r
  | o :: os, t :: ts, r => (match wb1 o t r with | some r1 => wbAll os ts r1 | none => none)
  | _, _, _ => none
def eFnO (F : Fs) (os : List Opd) (r : Rho) : Rs Opd := match passAll r os with
  | some ss => if dst r os then
      (match F ss with
        | .ok s outs => (match wbAll os outs r with | some r1 => .ok (.val s) r1 | none => .st)
        | .ex c fs outs => (match wbAll os outs r with | some r1 => .ex c fs r1 | none => .st)
        | .st => .st)
      else .st
  | none => .st
def eFn (F : Fs) (fa : Rho → Rs (List Opd)) : Rho → Rs Opd := fun r => (fa r).bind (eFnO F)
/-- a borrowed thing as its owner has it again -/
def Ub (t' t : S) : Prop := (∃ ds, t' = .br ds ∧ (t = .ol ds ∨ t = .br ds)) ∨ (∃ k, t' = .bd k ∧ (t = .od k ∨ t = .bd k))
def Kd (s t : S) : Prop := t.own = true ∧ (s.hard = true → Sl s t) ∧ t.lkd = false ∧ s.own = true
theorem Ub.own {t' t : S} (h : Ub t' t) : t.own = true := by
  rcases h with ⟨_, _, h | h⟩ | ⟨_, _, h | h⟩ <;> (subst h; rfl)
theorem wb1_spec {o : Opd} {t : S} {r r1 : Rho} (h : wb1 o t r = some r1) : r1.length = r.length ∧ Per r r1 ∧ ∀ (j : Nat) (u : S), r1[j]? = some (some u) →
    (r[j]? = some (some u) ∧ (o = .loc j → u.own = false)) ∨ (∃ s, o = .loc j ∧ r[j]? = some (some s) ∧ Ub t u ∧ Kd s u) := by
  cases o with
  | val s => cases h; exact ⟨rfl, Per.refl, fun j u q => .inl ⟨q, fun z => nomatch z⟩⟩
  | loc i =>
    unfold wb1 at h
    cases e : r[i]? with
    | none => simp only [e] at h; cases h
    | some q =>
      cases q with
      | none => simp only [e] at h; cases h
      | some s =>
        have hlt : i < r.length := by
          by_cases q : i < r.length
          · exact q
          · rw [List.getElem?_eq_none (by simpa using q)] at e; cases e
        have setc : ∀ w, Ub t w → Kd s w → (r.set i (some w)).length = r.length ∧ Per r (r.set i (some w)) ∧ ∀ (j : Nat) (u : S), (r.set i (some w))[j]? = some (some u) →
            (r[j]? = some (some u) ∧ (Opd.loc i = .loc j → u.own = false)) ∨ (∃ s, Opd.loc i = .loc j ∧ r[j]? = some (some s) ∧ Ub t u ∧ Kd s u) := fun w h1 h2 => by
          refine ⟨List.length_set, fun j u q => ?_, fun j u q => ?_⟩
          · by_cases z : i = j
            · subst z; exact ⟨w, List.getElem?_set_self hlt⟩
            · exact ⟨u, by rw [List.getElem?_set_ne z]; exact q⟩
          · by_cases z : i = j
            · subst z; rw [List.getElem?_set_self hlt] at q; cases q; exact .inr ⟨s, rfl, e, h1, h2⟩
            · rw [List.getElem?_set_ne z] at q; exact .inl ⟨q, fun y => by cases y; exact absurd rfl z⟩
        have same : s.own = false → r1 = r → r1.length = r.length ∧ Per r r1 ∧ ∀ (j : Nat) (u : S), r1[j]? = some (some u) →
            (r[j]? = some (some u) ∧ (Opd.loc i = .loc j → u.own = false)) ∨ (∃ s, Opd.loc i = .loc j ∧ r[j]? = some (some s) ∧ Ub t u ∧ Kd s u) := fun h1 h2 => by
          subst h2
          exact ⟨rfl, Per.refl, fun j u q => .inl ⟨q, fun z => by cases z; rw [e] at q; cases q; exact h1⟩⟩
        simp only [e] at h
        cases s with
        | ol ds => cases t <;> first | (cases h; done) | (cases h; exact setc _ (.inl ⟨_, rfl, .inl rfl⟩) ⟨rfl, (fun z => nomatch z), rfl, rfl⟩)
        | br ds => cases t <;> first | (cases h; done) | (cases h; exact setc _ (.inl ⟨_, rfl, .inr rfl⟩) ⟨rfl, fun z => ⟨_, rfl⟩, rfl, rfl⟩)
        | od ds => cases t <;> first | (cases h; done) | (cases h; exact setc _ (.inr ⟨_, rfl, .inl rfl⟩) ⟨rfl, (fun z => nomatch z), rfl, rfl⟩)
        | bd ds => cases t <;> first | (cases h; done) | (cases h; exact setc _ (.inr ⟨_, rfl, .inr rfl⟩) ⟨rfl, fun z => ⟨_, rfl⟩, rfl, rfl⟩)
        | fz d => cases h; exact same rfl rfl
        | lk d => cases h; exact same rfl rfl
        | kd _ _ d => cases h; exact same rfl rfl
        | exc _ _ _ _ => cases h; exact same rfl rfl
        | nd _ _ => cases h; exact same rfl rfl
        | nh _ _ _ => cases h; exact same rfl rfl
        | ot _ => cases h
        | kt _ _ _ => cases h; exact same rfl rfl
        | ky _ => cases h; exact same rfl rfl
theorem Kd.trans {s t u : S} (h : Kd s t) (k : Kd t u) : Kd s u := ⟨k.1, fun z => (h.2.1 z).trans (k.2.1 ((h.2.1 z).hard z)), k.2.2.1, h.2.2.2⟩
theorem wbAll_spec : ∀ {os : List Opd} {ts : List S} {r r1 : Rho}, wbAll os ts r = some r1 → r1.length = r.length ∧ Per r r1 ∧ ∀ (j : Nat) (u : S), r1[j]? = some (some u) →
    (r[j]? = some (some u) ∧ (∀ k : Nat, os[k]? = some (.loc j) → u.own = false)) ∨ (∃ (k : Nat) (s t : S), os[k]? = some (.loc j) ∧ ts[k]? = some t ∧ r[j]? = some (some s) ∧ Ub t u ∧ Kd s u)
  | [], [], r, r1, h => by cases h; exact ⟨rfl, Per.refl, fun j u q => .inl ⟨q, (fun k z => by simp at z)⟩⟩
  | [], _ :: _, _, _, h => by cases h
  | _ :: _, [], _, _, h => by cases h
  | o :: os, t :: ts, r, r1, h => by
    unfold wbAll at h
    cases e : wb1 o t r with
    | none => simp only [e] at h; cases h
    | some r2 =>
      simp only [e] at h
      obtain ⟨l1, p1, c1⟩ := wb1_spec e
      obtain ⟨l2, p2, c2⟩ := wbAll_spec h
      refine ⟨l2.trans l1, p1.trans p2, fun j u q => ?_⟩
      rcases c2 j u q with ⟨q2, n2⟩ | ⟨k, s, t', h1, h2, h3, h4, h5⟩
      · rcases c1 j u q2 with ⟨q1, n1⟩ | ⟨s, h1, h2, h3, h4⟩
        · refine .inl ⟨q1, fun k hk => ?_⟩
          cases k with
          | zero => exact n1 (by simpa using hk)
          | succ k => exact n2 k (by simpa using hk)
        · exact .inr ⟨0, s, t, by simp [h1], rfl, h2, h3, h4⟩
      · rcases c1 j s h3 with ⟨q1, n1⟩ | ⟨s', g1, g2, g3, g4⟩
        · exact .inr ⟨k + 1, s, t', by simpa using h1, by simpa using h2, q1, h4, h5⟩
        · exact .inr ⟨k + 1, s', t', by simpa using h1, by simpa using h2, g2, h4, g4.trans h5⟩
theorem dst_spec {r : Rho} : ∀ {os : List Opd}, dst r os = true → ∀ (k l i : Nat), os[k]? = some (.loc i) → os[l]? = some (.loc i) → hardAt r i = true → k = l
  | [], _, _, _, _, h, _, _ => by simp at h
  | o :: os, h, k, l, i, h1, h2, h3 => by
    unfold dst at h
    rw [Bool.and_eq_true] at h
    have no : ∀ m : Nat, o = .loc i → os[m]? = some (.loc i) → False := fun m e hm => by
      subst e
      have q := h.1
      simp only [h3, if_true] at q
      have : os.any (isLoc i) = true := List.any_eq_true.mpr ⟨.loc i, List.mem_of_getElem? hm, by simp [isLoc]⟩
      rw [this] at q; cases q
    cases k with
    | zero =>
      cases l with
      | zero => rfl
      | succ l => exact (no l (by simpa using h1) (by simpa using h2)).elim
    | succ k =>
      cases l with
      | zero => exact (no k (by simpa using h2) (by simpa using h1)).elim
      | succ l => exact congrArg (· + 1) (dst_spec h.2 k l i (by simpa using h1) (by simpa using h2) h3)
theorem pass_spec {r : Rho} : ∀ {os : List Opd} {ss : List S}, passAll r os = some ss → os.length = ss.length ∧ ∀ (k : Nat) (s : S), ss[k]? = some s → ∃ o, os[k]? = some o ∧ pass1 r o = some s
  | [], ss, h => by cases h; exact ⟨rfl, fun k s z => by simp at z⟩
  | o :: os, ss, h => by
    unfold passAll at h
    cases e1 : pass1 r o with
    | none => simp only [e1] at h; cases h
    | some s =>
      cases e2 : passAll r os with
      | none => simp only [e1, e2] at h; cases h
      | some ss' =>
        simp only [e1, e2] at h
        cases h
        obtain ⟨l, c⟩ := pass_spec e2
        refine ⟨by simp [l], fun k t z => ?_⟩
        cases k with
        | zero => cases z; exact ⟨o, rfl, e1⟩
        | succ k => exact c k t (by simpa using z)
end GB
namespace GB
open PySem PySem.Spec PyProof.Rows L2
section
variable {C : Ct} {U : Addr → Prop} {H : Hp} {σ : St} {r : Rho}
theorem slots_at {vs : List V} {k : Nat} {v : V} : (slots vs)[k]? = some (some v) ↔ vs[k]? = some v := by
  unfold slots
  rw [List.getElem?_map]
  cases vs[k]? <;> simp
theorem words_at {ss : List S} {k : Nat} {s : S} : (words ss)[k]? = some (some s) ↔ ss[k]? = some s := by
  unfold words
  rw [List.getElem?_map]
  cases ss[k]? <;> simp
theorem paired_at {α β : Type} {F : α → β → Prop} : ∀ {xs : List α} {ys : List β}, Paired F xs ys → ∀ (k : Nat) (x : α), xs[k]? = some x → ∃ y, ys[k]? = some y ∧ F x y
  | _, _, .nil, _, _, h => by simp at h
  | _, _, .cons p _, 0, _, h => by cases h; exact ⟨_, rfl, p⟩
  | _, _, .cons _ t, k + 1, x, h => paired_at t k x (by simpa using h)
/-- what a word of an argument says of the operand -/
theorem pass1_spec {o : Opd} {s : S} (h : pass1 r o = some s) : (∃ d, s = .fz d) ∨ (∃ i t, o = .loc i ∧ r[i]? = some (some t) ∧ t.soft = false ∧ s.hard = true ∧ s.own = t.own ∧ s.lkd = t.lkd) := by
  cases o with
  | val t => cases t <;> first | (cases h; done) | (cases h; exact .inl ⟨_, rfl⟩)
  | loc i =>
    unfold pass1 at h
    cases e : r[i]? with
    | none => simp only [e] at h; cases h
    | some q =>
      cases q with
      | none => simp only [e] at h; cases h
      | some t =>
        simp only [e] at h
        cases t <;> cases h <;> first | exact .inl ⟨_, rfl⟩ | exact .inr ⟨i, _, rfl, e, rfl, rfl, rfl, rfl⟩
theorem soft_of_own {s : S} (h : s.own = true) : s.soft = false := by cases s <;> first | rfl | cases h
/-- the arguments' own state -/
theorem args_sit {os : List Opd} {vs : List V} {ss : List S} (s : Sit C U H σ r) (k : Paired (fun o v => Ops2 C U H σ r o v) os vs) (hp : passAll r os = some ss) (hd : dst r os = true) :
    Sit C (fun a => Wn U σ r a ∧ ¬ Own (slots vs) (words ss) a) H (slots vs) (words ss) ∧
    (∀ a, Own (slots vs) (words ss) a → ∃ (n i : Nat) (t : S), os[n]? = some (.loc i) ∧ r[i]? = some (some t) ∧ t.own = true ∧ σ[i]? = some (some (V.ref a)) ∧ vs[n]? = some (V.ref a)) := by
  obtain ⟨hl, hs⟩ := pass_spec hp
  have own : ∀ a, Own (slots vs) (words ss) a → ∃ (n i : Nat) (t : S), os[n]? = some (.loc i) ∧ r[i]? = some (some t) ∧ t.own = true ∧ σ[i]? = some (some (V.ref a)) ∧ vs[n]? = some (V.ref a) := by
    rintro a ⟨n, t, h1, h2, h3⟩
    rw [words_at] at h1
    rw [slots_at] at h3
    obtain ⟨o, ho, hq⟩ := hs n t h1
    rcases pass1_spec hq with ⟨d, rfl⟩ | ⟨i, u, rfl, hi, hu, ht, e1, e2⟩
    · cases h2
    · obtain ⟨v, hv, kv⟩ := paired_at k n _ ho
      rw [h3] at hv; cases hv
      exact ⟨n, i, u, ho, hi, e1.symm.trans h2, kv.1, h3⟩
  have wsub : ∀ a, Wn (fun a => Wn U σ r a ∧ ¬ Own (slots vs) (words ss) a) (slots vs) (words ss) a → Wn U σ r a := fun a h => by
    rcases h with h | h
    · obtain ⟨n, i, t, _, h2, h3, h4, _⟩ := own a h
      exact .inl ⟨i, t, h2, h3, h4⟩
    · exact h.1
  refine ⟨⟨?_, fun n t h => ?_, fun m n t u v h1 q1 h2 q2 e1 e2 => ?_, fun a h z => z.2 h, fun a h => s.wlv a h.1⟩, own⟩
  · simp only [slots, words, List.length_map]
    rw [← Paired.length k, hl]
  · rw [words_at] at h
    obtain ⟨o, ho, hq⟩ := hs n t h
    obtain ⟨v, hv, kv⟩ := paired_at k n _ ho
    refine ⟨v, slots_at.mpr hv, ?_⟩
    cases o with
    | val u =>
      obtain ⟨x, nw, _⟩ := kv
      cases u with
      | fz d => cases hq; cases x with | fz x => exact .fz (x.less wsub)
      | ol ds =>
        cases hq
        cases x with
        | ol e x => exact .fz (.lst e (fun z => nw _ rfl rfl (wsub _ z)) (x.less wsub))
      | _ => cases hq
    | loc i =>
      obtain ⟨kv1, u, hu⟩ := kv
      obtain ⟨w, hw, x⟩ := s.rep i u hu
      rw [kv1] at hw; cases hw
      unfold pass1 at hq
      simp only [hu] at hq
      cases x with
      | fz x => cases hq; exact .fz (x.less wsub)
      | ol e x => cases hq; exact .br e (x.less wsub)
      | br e x => cases hq; exact .br e (x.less wsub)
      | od e x => cases hq; exact .bd e (x.less wsub)
      | bd e x => cases hq; exact .bd e (x.less wsub)
      | exc _ _ => cases hq
      | nd _ => cases hq
      | nh _ _ => cases hq
      | ot _ _ => cases hq
      | kt _ _ => cases hq
      | ky _ => cases hq
      | @lk p _ _ e u' x =>
        cases hq
        refine .lk e ⟨.inr u', fun z => ?_⟩ (x.less wsub)
        obtain ⟨_, j, t', _, z2, z3, z4, _⟩ := own p z
        exact s.dis p ⟨j, t', z2, z3, z4⟩ u'
      | kd _ _ => cases hq
  · rw [words_at] at h1 h2
    rw [slots_at] at e1 e2
    obtain ⟨o1, ho1, hq1⟩ := hs m t h1
    obtain ⟨o2, ho2, hq2⟩ := hs n u h2
    rcases pass1_spec hq1 with ⟨d, rfl⟩ | ⟨i, t1, rfl, hi, hti, _, _, _⟩
    · cases q1
    rcases pass1_spec hq2 with ⟨d, rfl⟩ | ⟨j, t2, rfl, hj, htj, _, _, _⟩
    · cases q2
    obtain ⟨v1, hv1, k1⟩ := paired_at k m _ ho1
    obtain ⟨v2, hv2, k2⟩ := paired_at k n _ ho2
    rw [e1] at hv1; cases hv1
    rw [e2] at hv2; cases hv2
    have ij := s.inj i j t1 t2 v hi hti hj htj k1.1 k2.1
    subst ij
    exact dst_spec hd m n i ho1 ho2 (by simp [hardAt, hi, hti])
end
end GB
namespace GB
open PySem PySem.Spec PyProof.Rows L2
section
variable {C : Ct} {U : Addr → Prop} {H : Hp} {σ : St} {r : Rho}
theorem Aft.ownPin {U U' : Addr → Prop} {H H' : Hp} {vs : List V} {ss outs : List S} (x : Aft U H (slots vs) (words ss) U' H' (slots vs) (words outs)) (hh : ∀ (k : Nat) (s : S), ss[k]? = some s → s.own = true → s.hard = true) {a : Addr} (h : Own (slots vs) (words ss) a) : Own (slots vs) (words outs) a := by
  obtain ⟨k, s, h1, h2, h3⟩ := h
  have hd := hh k s (words_at.mp h1) h2
  obtain ⟨s', h1', l, e⟩ := x.pin k s h1 hd
  refine ⟨k, s', h1', ?_, h3⟩
  cases s <;> simp [S.hard] at hd <;> simp [S.own] at h2 <;> simp [Sl] at l <;> (obtain ⟨_, rfl⟩ := l; rfl)
theorem Ub.sr {K : PySem.W.Frag} {U W U' W' : Addr → Prop} {H : Hp} {v : V} {t' t : S} (u : Ub t' t) (h : ∀ a, W' a → W a) (x : SR K U W H v t') : SR K U' W' H v t := by
  rcases u with ⟨ds, rfl, rfl | rfl⟩ | ⟨ds, rfl, rfl | rfl⟩
  · cases x with | br e x => exact .ol e (x.less h)
  · cases x with | br e x => exact .br e (x.less h)
  · cases x with | bd e x => exact .od e (x.less h)
  · cases x with | bd e x => exact .bd e (x.less h)
/-- the caller's state behind a call; Z: the value's own object, new -/
theorem call_back {os : List Opd} {vs : List V} {ss outs : List S} {H' : Hp} {U' : Addr → Prop} {r1 : Rho} (s : Sit C U H σ r) (k : Paired (fun o v => Ops2 C U H σ r o v) os vs) (hp : passAll r os = some ss) (hd : dst r os = true)
    (s' : Sit C U' H' (slots vs) (words outs)) (a' : Aft (fun a => Wn U σ r a ∧ ¬ Own (slots vs) (words ss) a) H (slots vs) (words ss) U' H' (slots vs) (words outs)) (hw : wbAll os outs r = some r1)
    (Z : Addr → Prop) (hz : ∀ a, Z a → H a = none ∧ U' a ∧ Lv H' a) :
    Sit C (fun a => U a ∨ Z a) H' σ r1 ∧ Aft U H σ r (fun a => U a ∨ Z a) H' σ r1 ∧ Per r r1 ∧ ∀ a, Wn (fun a => U a ∨ Z a) σ r1 a → Wn U' (slots vs) (words outs) a := by
  obtain ⟨sA, own⟩ := args_sit s k hp hd
  obtain ⟨hl, hs⟩ := pass_spec hp
  obtain ⟨wl, wp, wc⟩ := wbAll_spec hw
  have hh : ∀ (k : Nat) (s : S), ss[k]? = some s → s.own = true → s.hard = true := fun n t h1 h2 => by
    obtain ⟨o, _, hq⟩ := hs n t h1
    rcases pass1_spec hq with ⟨d, rfl⟩ | ⟨_, _, _, _, _, q, _, _⟩
    · cases h2
    · exact q
  -- the owned objects are the same
  have own1 : ∀ a, Own σ r1 a → Own σ r a := fun a ⟨j, t, h1, h2, h3⟩ => by
    rcases wc j t h1 with ⟨q, _⟩ | ⟨_, u, _, _, _, q, _, kd⟩
    · exact ⟨j, t, q, h2, h3⟩
    · exact ⟨j, u, q, kd.2.2.2, h3⟩
  have wsub : ∀ a, Wn (fun a => U a ∨ Z a) σ r1 a → Wn U' (slots vs) (words outs) a := fun a h => by
    have base : Wn U σ r a → Wn U' (slots vs) (words outs) a := fun h => by
      by_cases q : Own (slots vs) (words ss) a
      · exact .inl (a'.ownPin hh q)
      · exact .inr (a'.sub a ⟨h, q⟩)
    rcases h with h | h | h
    · exact base (.inl (own1 a h))
    · exact base (.inr h)
    · exact .inr (hz a h).2.1
  have m : Mono U (Wn U σ r) H (fun a => U a ∨ Z a) (Wn (fun a => U a ∨ Z a) σ r1) H' := by
    refine ⟨s.wlv, fun a o n h => a'.keep a o h fun z => ?_, fun a o n h z => ?_, fun a o u h => a'.keep a o h fun z => ?_, fun a h => .inl h⟩
    · obtain ⟨_, i, t, _, z2, z3, z4, _⟩ := own a z
      exact n (.inl ⟨i, t, z2, z3, z4⟩)
    · rcases z with z | z | z
      · exact n (.inl (own1 a z))
      · exact n (.inr z)
      · have q := (hz a z).1
        rw [h] at q; cases q
    · obtain ⟨_, i, t, _, z2, z3, z4, _⟩ := own a z
      exact s.dis a ⟨i, t, z2, z3, z4⟩ u
  have softeq : ∀ (j : Nat) (t : S), r1[j]? = some (some t) → ∃ u, r[j]? = some (some u) ∧ (t.soft = false → u.soft = false) := fun j t h1 => by
    rcases wc j t h1 with ⟨q, _⟩ | ⟨_, u, _, _, _, q, _, kd⟩
    · exact ⟨t, q, id⟩
    · exact ⟨u, q, fun _ => soft_of_own kd.2.2.2⟩
  have npass : ∀ (j : Nat) (t : S) (a : Addr), r[j]? = some (some t) → t.own = true → σ[j]? = some (some (V.ref a)) → (∀ k : Nat, os[k]? = some (.loc j) → t.own = false) → ¬ Own (slots vs) (words ss) a := fun j t a h1 h2 h3 h4 z => by
    obtain ⟨n, i, u, z1, z2, z3, z4, _⟩ := own a z
    have ij := s.inj i j u t (.ref a) z2 (soft_of_own z3) h1 (soft_of_own h2) z4 h3
    subst ij
    rw [h4 n z1] at h2; cases h2
  refine ⟨⟨by rw [wl]; exact s.len, fun j t h1 => ?_, fun i j t u v h1 q1 h2 q2 e1 e2 => ?_, fun a h z => ?_, fun a h => ?_⟩, ⟨fun a h => .inl h, fun a h => ?_, fun a h => .inl (own1 a h), fun a o h n => a'.keep a o h fun z => ?_, fun a o h => a'.there a o h, fun j t h1 h2 => ?_, fun j t h1 h2 => ?_⟩, wp, wsub⟩
  · rcases wc j t h1 with ⟨q, nq⟩ | ⟨n, u, t', z1, z2, z3, z4, kd⟩
    · obtain ⟨v, e, x⟩ := s.rep j t q
      refine ⟨v, e, x.mono m fun a o ho hv h => a'.keep a o h ?_⟩
      exact npass j t a q ho (by rw [e, hv]) nq
    · obtain ⟨v, hv, kv⟩ := paired_at k n _ z1
      obtain ⟨w, hw', x⟩ := s'.rep n t' (words_at.mpr z2)
      rw [slots_at] at hw'
      rw [hv] at hw'; cases hw'
      exact ⟨v, kv.1, z4.sr wsub x⟩
  · obtain ⟨t', g1, g2⟩ := softeq i t h1
    obtain ⟨u', g3, g4⟩ := softeq j u h2
    exact s.inj i j t' u' v g1 (g2 q1) g3 (g4 q2) e1 e2
  · rcases z with z | z
    · exact s.dis a (own1 a h) z
    · exact (s.wlv a (.inl (own1 a h))).ne (hz a z).1
  · rcases h with h | h
    · have l := s.uok a h
      have nA : ¬ Own (slots vs) (words ss) a := fun z => by
        obtain ⟨_, i, t, _, z2, z3, z4, _⟩ := own a z
        exact s.dis a ⟨i, t, z2, z3, z4⟩ h
      rcases l with ⟨x, l⟩ | ⟨x, l⟩ | ⟨x, l⟩
      · exact .inl ⟨x, a'.keep a _ l nA⟩
      · exact .inr (.inl ⟨x, a'.keep a _ l nA⟩)
      · exact .inr (.inr ⟨x, a'.keep a _ l nA⟩)
    · exact (hz a h).2.2
  · rcases h with h | h
    · exact .inl h
    · exact .inr (.inl (hz a h).1)
  · obtain ⟨_, i, t, _, z2, z3, z4, _⟩ := own a z
    exact n ⟨i, t, z2, z3, z4⟩
  · obtain ⟨u, hu⟩ := wp j t h1
    refine ⟨u, hu, ?_, rfl⟩
    rcases wc j u hu with ⟨q, _⟩ | ⟨_, u', _, _, _, q, _, kd⟩
    · rw [h1] at q; cases q; exact Sl.refl _
    · rw [h1] at q; cases q; exact kd.2.1 h2
  · rcases wc j t h1 with ⟨q, _⟩ | ⟨_, u', _, _, _, q, _, kd⟩
    · exact ⟨q, rfl⟩
    · rw [kd.2.2.1] at h2; cases h2
end
section
variable {X : Cx} {C : Ct} {e : Expr}
def Ar (fa : Rho → Rs (List Opd)) (n : Nat) : Prop := ∀ r os r1, fa r = .ok os r1 → os.length = n
theorem ar_nil : Ar eNil 0 := fun r os r1 h => by cases h; rfl
theorem ar_cons {fe : Rho → Rs Opd} {fr : Rho → Rs (List Opd)} {n : Nat} (h : Ar fr n) : Ar (eCons fe fr) (n + 1) := fun r os r1 e => by
  unfold eCons Rs.bind at e
  cases e1 : fe r with
  | st => rw [e1] at e; cases e
  | ex c fs r' => rw [e1] at e; cases e
  | ok o r2 =>
    rw [e1] at e
    simp only [] at e
    cases e2 : fr r2 with
    | st => rw [e2] at e; cases e
    | ex c fs r' => rw [e2] at e; cases e
    | ok os' r3 =>
      rw [e2] at e
      cases e
      rw [List.length_cons, h r2 os' _ e2]
theorem pass_hard {r : Rho} {os : List Opd} {ss : List S} (h : passAll r os = some ss) : ∀ s ∈ ss, s.own = true → s.hard = true := fun s hs ho => by
  obtain ⟨k, hk⟩ := List.mem_iff_getElem?.mp hs
  obtain ⟨o, _, q⟩ := (pass_spec h).2 k s hk
  rcases pass1_spec q with ⟨d, rfl⟩ | ⟨_, _, _, _, _, z, _, _⟩
  · cases ho
  · exact z
theorem fn_reading {n : Nat} {F : Fs} {fa : Rho → Rs (List Opd)} {σ : St} {H : Hp} {Q : VK} {E : XK} (hn : Ar fa n) (hE : ∀ cls d H2, C.W cls d σ H2 → E cls d H2) (h : tE C (eFn F fa) σ H Q) :
    tA C fa σ H (fun vs H1 => spF C n F (vs ++ []) H1 Q E) := by
  obtain ⟨U, r, s, h⟩ := h
  have hfa := hn r
  refine ⟨U, r, s, ?_⟩
  unfold eFn at h
  cases e : fa r with
  | ex c fs r' => rw [e] at h; exact h
  | st => rw [e] at h; exact h
  | ok os r1 =>
    rw [e] at h
    simp only [Rs.bind] at h
    intro vs H1 U1 s1 a1 p1 k1 n1
    obtain ⟨U2, s2, a2, u2, k2⟩ := ops_drop s s1 a1 k1 n1
    unfold eFnO at h
    cases hp : passAll r1 os with
    | none => simp only [hp] at h
    | some ss =>
      simp only [hp] at h
      by_cases hd : dst r1 os = true
      · rw [if_pos hd] at h
        obtain ⟨sA, own⟩ := args_sit s2 k2 hp hd
        obtain ⟨hl, hs⟩ := pass_spec hp
        rw [List.append_nil]
        refine ⟨by rw [← Paired.length k1, hl]; rw [← hl]; exact hfa os r1 e, _, ss, pass_hard hp, sA, ?_⟩
        cases hF : F ss with
        | st => simp only [hF] at h
        | ok t outs =>
          simp only [hF] at h
          intro v H2 U' s' a' ok' nw
          cases hw : wbAll os outs r1 with
          | none => simp only [hw] at h
          | some r2 =>
            simp only [hw] at h
            obtain ⟨x, hu, hh⟩ := ok'
            obtain ⟨s3, a3, p3, w3⟩ := call_back s2 k2 hp hd s' a' hw (fun a => t.own = true ∧ v = .ref a) (fun a ⟨z1, z2⟩ => ⟨nw t a rfl z1 z2, hu a z1 z2, by
              obtain ⟨p, e1, l⟩ := x.ownLv z1
              rw [z2] at e1; cases e1; exact l⟩)
            refine h v H2 _ s3 (a2.trans a3) (p1.trans p3) ⟨?_, fun p z1 z2 => .inr ⟨z1, z2⟩, hh⟩ (nw.back a2)
            exact x.less w3 fun p z1 z2 => by rw [lkd_hard z1] at hh; cases hh
        | ex c fs outs =>
          simp only [hF] at h
          intro cls d H2 U' s' a' x
          cases hw : wbAll os outs r1 with
          | none => simp only [hw] at h
          | some r2 =>
            simp only [hw] at h
            obtain ⟨s3, a3, p3, w3⟩ := call_back s2 k2 hp hd s' a' hw (fun a => False) (fun a z => z.elim)
            obtain ⟨b, dx, fv, e1, e2, e3, e4, e5⟩ := x
            exact hE cls d H2 (h cls d σ H2 _ s3 (a2.trans a3) ⟨b, dx, fv, e1, e2, e3, e4, e5.less w3⟩)
      · rw [if_neg hd] at h
        exact h.elim
end
end GB
namespace GB
open PySem PySem.Spec PyProof.Rows L2
section
variable {C : Ct} {U U' : Addr → Prop} {H H' : Hp} {σ σ' : St} {r r' : Rho}
theorem lt_of_at {α : Type} {l : List α} {i : Nat} {x : α} (h : l[i]? = some x) : i < l.length := by
  by_cases q : i < l.length
  · exact q
  · rw [List.getElem?_eq_none (by simpa using q)] at h; cases h
theorem at_set {α : Type} {l : List α} {i j : Nat} {x y : α} (h : (l.set i x)[j]? = some y) : (j = i ∧ y = x) ∨ (j ≠ i ∧ l[j]? = some y) := by
  by_cases e : i = j
  · subst e
    have := lt_of_at h
    rw [List.length_set] at this
    rw [List.getElem?_set_self this] at h; cases h; exact .inl ⟨rfl, rfl⟩
  · rw [List.getElem?_set_ne e] at h; exact .inr ⟨fun z => e z.symm, h⟩
/-- a slot that may be stored to -/
def free (r : Rho) (i : Nat) : Bool := match r[i]? with
  | some none => true
  | some (some s) => !s.hard
  | none => false
theorem free_lt {i : Nat} (h : free r i = true) : i < r.length := by
  unfold free at h
  cases e : r[i]? with
  | none => rw [e] at h; cases h
  | some q => exact lt_of_at e
theorem free_hard {i : Nat} {s : S} (h : free r i = true) (e : r[i]? = some (some s)) : s.hard = false := by
  unfold free at h
  rw [e] at h
  simpa using h
theorem soft_cases {s : S} (h : s.soft = false) : s.own = true ∨ s.lkd = true := by cases s <;> first | exact .inl rfl | exact .inr rfl | cases h
/-- name i = v -/
theorem Sit.store {i : Nat} {s : S} {v : V} (st : Sit C U H σ r) (hf : free r i = true) (op : OpOk C U H σ r (.val s) v)
    (hlk : ∀ (j : Nat) (t : S) (q : Addr), r[j]? = some (some t) → t.lkd = true → σ[j]? = some (some (V.ref q)) → ¬ (s.own = true ∧ v = .ref q)) :
    Sit C (fun a => U a ∧ ¬ (s.own = true ∧ v = .ref a)) H (σ.set i (some v)) (r.set i (some s)) ∧ (∀ a, Own (σ.set i (some v)) (r.set i (some s)) a → Own σ r a ∨ (s.own = true ∧ v = .ref a)) := by
  have hlt := free_lt hf
  have hls : i < σ.length := by rw [st.len]; exact hlt
  obtain ⟨x, hu, hs⟩ := op
  have own' : ∀ a, Own (σ.set i (some v)) (r.set i (some s)) a → Own σ r a ∨ (s.own = true ∧ v = .ref a) := fun a ⟨j, t, h1, h2, h3⟩ => by
    rcases at_set h1 with ⟨rfl, e⟩ | ⟨n, h1⟩
    · cases e
      rw [List.getElem?_set_self hls] at h3
      exact .inr ⟨h2, by simpa using h3⟩
    · rw [List.getElem?_set_ne (fun z => n z.symm)] at h3
      exact .inl ⟨j, t, h1, h2, h3⟩
  have wsub : ∀ a, Wn (fun a => U a ∧ ¬ (s.own = true ∧ v = .ref a)) (σ.set i (some v)) (r.set i (some s)) a → Wn U σ r a := fun a h => by
    rcases h with h | h
    · rcases own' a h with h | ⟨h1, h2⟩
      · exact .inl h
      · exact .inr (hu a h1 h2)
    · exact .inr h.1
  refine ⟨⟨by rw [List.length_set, List.length_set]; exact st.len, fun j t h => ?_, fun j k t u w h1 q1 h2 q2 e1 e2 => ?_, fun a h z => ?_, fun a h => st.uok a h.1⟩, own'⟩
  · rcases at_set h with ⟨rfl, e⟩ | ⟨n, h⟩
    · cases e
      exact ⟨v, List.getElem?_set_self hls, x.less wsub fun p hl _ => by rw [lkd_hard hl] at hs; cases hs⟩
    · obtain ⟨w, e, y⟩ := st.rep j t h
      refine ⟨w, by rw [List.getElem?_set_ne (fun z => n z.symm)]; exact e, y.less wsub fun p hl hp => ⟨y.lkLv hl hp, ?_⟩⟩
      exact hlk j t p h hl (by rw [e, hp])
  · have clash : ∀ (k : Nat) (u : S), r[k]? = some (some u) → u.soft = false → s.soft = false → σ[k]? = some (some v) → False := fun k u g1 g2 g3 g4 => by
      have so : s.own = true := (soft_cases g3).resolve_right fun z => by rw [lkd_hard z] at hs; cases hs
      obtain ⟨p, e, _⟩ := x.ownLv so
      subst e
      rcases soft_cases g2 with g | g
      · exact st.dis p ⟨k, u, g1, g, g4⟩ (hu p so rfl)
      · exact hlk k u p g1 g g4 ⟨so, rfl⟩
    rcases at_set h1 with ⟨rfl, z1⟩ | ⟨n1, g1⟩
    · cases z1
      rw [List.getElem?_set_self hls] at e1; cases e1
      rcases at_set h2 with ⟨rfl, z2⟩ | ⟨n2, h2⟩
      · rfl
      · rw [List.getElem?_set_ne (fun z => n2 z.symm)] at e2
        exact (clash k u h2 q2 q1 e2).elim
    · rw [List.getElem?_set_ne (fun z => n1 z.symm)] at e1
      rcases at_set h2 with ⟨rfl, z2⟩ | ⟨n2, g2⟩
      · cases z2
        rw [List.getElem?_set_self hls] at e2; cases e2
        exact (clash j t g1 q1 q2 e1).elim
      · rw [List.getElem?_set_ne (fun z => n2 z.symm)] at e2
        exact st.inj j k t u w g1 q1 g2 q2 e1 e2
  · rcases own' a h with h | h
    · exact st.dis a h z.1
    · exact z.2 h
/-- the store behind an expression -/
theorem store_aft {i : Nat} {s : S} {v : V} (s0 : Sit C U H σ r) (st : Sit C U' H' σ r') (a : Aft U H σ r U' H' σ r') (hf : free r' i = true) (op : OpOk C U' H' σ r' (.val s) v) (nw : New H (.val s) v) :
    ∃ U2, Sit C U2 H' (σ.set i (some v)) (r'.set i (some s)) ∧ Aft U H σ r U2 H' (σ.set i (some v)) (r'.set i (some s)) := by
  have hlk : ∀ (j : Nat) (t : S) (q : Addr), r'[j]? = some (some t) → t.lkd = true → σ[j]? = some (some (V.ref q)) → ¬ (s.own = true ∧ v = .ref q) := fun j t q h1 h2 h3 ⟨z1, z2⟩ => by
    obtain ⟨g1, _⟩ := a.lok j t h1 h2
    obtain ⟨w, e, x⟩ := s0.rep j t g1
    rw [h3] at e; cases e
    exact (s0.uok q (x.lkLv h2 rfl)).ne (nw s q rfl z1 z2)
  obtain ⟨s1, own'⟩ := st.store hf op hlk
  refine ⟨_, s1, ⟨fun b h => ⟨a.sub b h, fun z => (s0.uok b h).ne (nw s b rfl z.1 z.2)⟩, fun b h => a.new b h.1, fun b h => ?_, a.keep, a.there, fun j t h1 h2 => ?_, fun j t h1 h2 => ?_⟩⟩
  · rcases own' b h with h | h
    · exact a.grow b h
    · exact .inr (nw s b rfl h.1 h.2)
  · obtain ⟨t', g1, g2, g3⟩ := a.pin j t h1 h2
    have n : i ≠ j := fun z => by
      subst z
      have := free_hard hf g1
      rw [g2.hard h2] at this; cases this
    exact ⟨t', by rw [List.getElem?_set_ne n]; exact g1, g2, by rw [List.getElem?_set_ne n]⟩
  · rcases at_set h1 with ⟨rfl, e⟩ | ⟨n, h1⟩
    · cases e
      have := op.2.2
      rw [lkd_hard h2] at this; cases this
    · obtain ⟨g1, g2⟩ := a.lok j t h1 h2
      exact ⟨g1, by rw [List.getElem?_set_ne (fun z => n z.symm)]⟩
end
inductive Fl where
  | nx (r : Rho) | rt (s : S) (r : Rho) | bk (r : Rho) | ct (r : Rho) | ex (c : Str) (fs : List (Str × D)) (r : Rho) | st
/-- a value handed back: a new object, or one that was a slot's -/
def NewO (H : Hp) (σ : St) (r : Rho) (s : S) (v : V) : Prop := ∀ p, s.own = true → v = .ref p → Own σ r p ∨ H p = none
def RS (C : Ct) (U : Addr → Prop) (H : Hp) (σ : St) (r : Rho) (D : Ends) : Fl → Prop
  | .nx r' => ∀ σ' H' U', Sit C U' H' σ' r' → Aft U H σ r U' H' σ' r' → D.nx σ' H'
  | .rt s r' => ∀ v σ' H' U', Sit C U' H' σ' r' → Aft U H σ r U' H' σ' r' → OpOk C U' H' σ' r' (.val s) v → NewO H σ r s v → D.rt v H'
  | .bk r' => ∀ σ' H' U', Sit C U' H' σ' r' → Aft U H σ r U' H' σ' r' → D.bk σ' H'
  | .ct r' => ∀ σ' H' U', Sit C U' H' σ' r' → Aft U H σ r U' H' σ' r' → D.ct σ' H'
  | .ex c fs r' => XWant C U H σ r c fs r'
  | .st => False
def tS (C : Ct) (f : Rho → Fl) : TS := fun D σ H => ∃ U r, Sit C U H σ r ∧ RS C U H σ r D (f r)
abbrev GS (X : Cx) (C : Ct) (st : Stmt) (f : Rho → Fl) : Prop := PS X st (tS C f)
abbrev GSs (X : Cx) (C : Ct) (st : List Stmt) (f : Rho → Fl) : Prop := PSs X st (tS C f)
section
variable {X : Cx} {C : Ct} {st : Stmt} {sts : List Stmt} {f g : Rho → Fl} {e : Expr} {fe : Rho → Rs Opd} {pos : Pos}
theorem weakS {t t' : TS} (h : PS X st t) (k : ∀ D σ H, t' D σ H → t D σ H) : PS X st t' := ⟨fun pins s σ H D I q => h.run pins s σ H D I (k D σ H q)⟩
theorem weakSs {t t' : TS} (h : PSs X sts t) (k : ∀ D σ H, t' D σ H → t D σ H) : PSs X sts t' := ⟨fun pins s σ H D I q => h.run pins s σ H D I (k D σ H q)⟩
/-- what is wanted later is wanted now -/
theorem RS.before {U U' : Addr → Prop} {H H' : Hp} {σ σ' : St} {r r' : Rho} {D : Ends} {z : Fl} (h : RS C U H σ r D z) (a : Aft U H σ r U' H' σ' r') : RS C U' H' σ' r' D z := by
  cases z with
  | nx r2 => exact fun σ2 H2 U2 s2 a2 => h σ2 H2 U2 s2 (a.trans a2)
  | bk r2 => exact fun σ2 H2 U2 s2 a2 => h σ2 H2 U2 s2 (a.trans a2)
  | ct r2 => exact fun σ2 H2 U2 s2 a2 => h σ2 H2 U2 s2 (a.trans a2)
  | rt s r2 => exact fun v σ2 H2 U2 s2 a2 o n => h v σ2 H2 U2 s2 (a.trans a2) o fun p e1 e2 => (n p e1 e2).elim (a.grow p) fun z => .inr (a.back z)
  | ex c fs r2 => exact fun cls d σ2 H2 U2 s2 a2 x => h cls d σ2 H2 U2 s2 (a.trans a2) x
  | st => exact h
def fSeq (f g : Rho → Fl) : Rho → Fl := fun r => match f r with
  | .nx r1 => g r1
  | z => z
def fNil : Rho → Fl := fun r => .nx r
theorem gs_nil : GSs X C [] fNil := weakSs pss_nil fun D σ H ⟨U, r, s, h⟩ => h σ H U s Aft.refl
theorem gs_cons (h1 : GS X C st f) (h2 : GSs X C sts g) : GSs X C (st :: sts) (fSeq f g) := by
  refine weakSs (pss_cons h1 h2) fun D σ H h => ?_
  obtain ⟨U, r, s, h⟩ := h
  refine ⟨U, r, s, ?_⟩
  unfold fSeq at h
  cases e : f r with
  | nx r1 => rw [e] at h; exact fun σ' H' U' s' a' => ⟨U', r1, s', RS.before h a'⟩
  | rt t r1 => rw [e] at h; exact h
  | bk r1 => rw [e] at h; exact h
  | ct r1 => rw [e] at h; exact h
  | ex c fs r1 => rw [e] at h; exact h
  | st => rw [e] at h; exact h
theorem gs_one (h1 : GS X C st f) : GSs X C [st] f := weakSs (pss_one h1) fun D σ H h => h
/-- an expression within a statement -/
theorem tE_stmt {k : Opd → Rho → Fl} {σ : St} {H : Hp} {Q : VK} {D : Ends} {U : Addr → Prop} {r : Rho} (s : Sit C U H σ r)
    (h : RS C U H σ r D (match fe r with | .ok o r1 => k o r1 | .ex c fs r1 => .ex c fs r1 | .st => .st))
    (hok : ∀ o r' v H' U', Sit C U' H' σ r' → Aft U H σ r U' H' σ r' → Per r r' → OpOk C U' H' σ r' o v → New H o v → RS C U H σ r D (k o r') → Q v H') : tE C fe σ H Q := by
  refine ⟨U, r, s, ?_⟩
  cases e : fe r with
  | ok o r' => rw [e] at h; exact fun v H' U' s' a' p' k' n' => hok o r' v H' U' s' a' p' k' n' h
  | ex c fs r' => rw [e] at h; exact h
  | st => rw [e] at h; exact h
def fExpr (fe : Rho → Rs Opd) : Rho → Fl := fun r => match fe r with
  | .ok _ r1 => .nx r1
  | .ex c fs r1 => .ex c fs r1
  | .st => .st
theorem gs_expr (he : GE X C e fe) (hs : swapsWith e none pos.line X.env = pure false := by rfl) : GS X C (.Expr e pos) (fExpr fe) := by
  refine weakS (ps_expr he hs) fun D σ H h => ?_
  obtain ⟨U, r, s, h⟩ := h
  exact tE_stmt (k := fun _ r1 => .nx r1) s h fun o r' v H' U' s' a' p' k' n' q => q σ H' U' s' a'
/-- what is stored of an operand -/
def take (o : Opd) (r : Rho) : Option (S × Rho) := match o with
  | .val s => if s.hard then none else some (s, r)
  | .loc _ => match frz1 o r with
    | some (d, r1) => some (.fz d, r1)
    | none => none
theorem take_ok {U' : Addr → Prop} {H H' : Hp} {σ : St} {r' r2 : Rho} {o : Opd} {v : V} {s : S} (s' : Sit C U' H' σ r') (k : OpOk C U' H' σ r' o v) (n : New H o v) (h : take o r' = some (s, r2)) :
    Sit C U' H' σ r2 ∧ Aft U' H' σ r' U' H' σ r2 ∧ Per r' r2 ∧ OpOk C U' H' σ r2 (.val s) v ∧ New H (.val s) v := by
  cases o with
  | val t =>
    unfold take at h
    dsimp only at h
    split at h
    · cases h
    · cases h
      exact ⟨s', Aft.refl, Per.refl, k, n⟩
  | loc i =>
    unfold take at h
    dsimp only at h
    cases e : frz1 (.loc i) r' with
    | none => rw [e] at h; cases h
    | some q =>
      obtain ⟨d, r3⟩ := q
      rw [e] at h
      cases h
      obtain ⟨s2, a2, p2, x2⟩ := frz1_ok s' (o := .loc i) k e
      exact ⟨s2, a2, p2, ⟨.fz x2, fun p z => (nomatch z), rfl⟩, fun _ _ z q _ => by cases z; cases q⟩
def putS (i : Nat) (o : Opd) (r : Rho) : Fl := match take o r with
  | some (s, r1) => if free r1 i then .nx (r1.set i (some s)) else .st
  | none => .st
def fSet (i : Nat) (fe : Rho → Rs Opd) : Rho → Fl := fun r => match fe r with
  | .ok o r1 => putS i o r1
  | .ex c fs r1 => .ex c fs r1
  | .st => .st
theorem put_ok {i : Nat} {U U' : Addr → Prop} {H H' : Hp} {σ : St} {r r' : Rho} {o : Opd} {v : V} {D : Ends} (s0 : Sit C U H σ r) (s' : Sit C U' H' σ r') (a' : Aft U H σ r U' H' σ r') (k : OpOk C U' H' σ r' o v) (n : New H o v) (q : RS C U H σ r D (putS i o r')) : D.nx (σ.set i (some v)) H' := by
  unfold putS at q
  cases e : take o r' with
  | none => rw [e] at q; exact q.elim
  | some z =>
    obtain ⟨t, r2⟩ := z
    rw [e] at q
    dsimp only at q
    obtain ⟨s2, a2, p2, k2, n2⟩ := take_ok s' k n e
    by_cases hf : free r2 i = true
    · rw [if_pos hf] at q
      obtain ⟨U3, s3, a3⟩ := store_aft s0 s2 (a'.trans a2) hf k2 n2
      exact q _ _ U3 s3 a3
    · rw [if_neg hf] at q
      exact q.elim
theorem gs_set {i : Nat} {x : Str} {pos' : Pos} (hN : X.N.Nodup) (hi : X.N[i]? = some x) (hx : Loc X.env.scope x) (he : GE X C e fe) (hs : swapsWith e (some (.Name x pos')) pos.line X.env = pure false := by rfl) (hf : X.fn x = true ∨ X.env.scope.names.lookup x = some .local := by first | exact .inl rfl | exact .inr rfl | assumption) :
    GS X C (.Assign [.Name x pos'] e pos) (fSet i fe) := by
  refine weakS (ps_set hN hi hx he hs hf) fun D σ H h => ?_
  obtain ⟨U, r, s, h⟩ := h
  exact tE_stmt (k := putS i) s h fun o r' v H' U' s' a' p' k' n' q => put_ok s s' a' k' n' q
end
end GB
namespace GB
open PySem PySem.Spec PyProof.Rows L2
section
variable {C : Ct} {U U' : Addr → Prop} {H H' : Hp} {σ σ' : St} {r r' : Rho}
/-- a slot is emptied, its thing handed on -/
theorem Sit.moved {i : Nat} {s : S} {v : V} (st : Sit C U H σ r) (hi : r[i]? = some (some s)) (ho : s.own = true) (hv : σ[i]? = some (some v)) :
    Sit C (fun a => U a ∨ v = .ref a) H σ (r.set i none) ∧ (∀ a, Own σ (r.set i none) a → Own σ r a) ∧ SR C.K (fun a => U a ∨ v = .ref a) (Wn (fun a => U a ∨ v = .ref a) σ (r.set i none)) H v s := by
  obtain ⟨w, e, x⟩ := st.rep i s hi
  rw [hv] at e; cases e
  obtain ⟨p, e, l⟩ := x.ownLv ho
  subst e
  have own' : ∀ a, Own σ (r.set i none) a → Own σ r a ∧ a ≠ p := fun a ⟨j, t, h1, h2, h3⟩ => by
    rcases at_set h1 with ⟨_, e⟩ | ⟨n, h1⟩
    · cases e
    · refine ⟨⟨j, t, h1, h2, h3⟩, fun z => n ?_⟩
      subst z
      exact st.inj j i t s _ h1 (soft_of_own h2) hi (soft_of_own ho) h3 hv
  have wsub : ∀ a, Wn (fun a => U a ∨ V.ref p = .ref a) σ (r.set i none) a → Wn U σ r a := fun a h => by
    rcases h with h | h | h
    · exact .inl (own' a h).1
    · exact .inr h
    · cases h; exact .inl ⟨i, s, hi, ho, hv⟩
  have slot : ∀ (j : Nat) (t : S), (r.set i none)[j]? = some (some t) → r[j]? = some (some t) := fun j t h => by
    rcases at_set h with ⟨_, e⟩ | ⟨n, h⟩
    · cases e
    · exact h
  refine ⟨⟨by rw [List.length_set]; exact st.len, fun j t h => ?_, fun j k t u w h1 q1 h2 q2 e1 e2 => st.inj j k t u w (slot j t h1) q1 (slot k u h2) q2 e1 e2, fun a h z => ?_, fun a h => ?_⟩, fun a h => (own' a h).1, x.less wsub fun q z1 z2 => .inl (x.lkLv z1 z2)⟩
  · obtain ⟨w, e, y⟩ := st.rep j t (slot j t h)
    exact ⟨w, e, y.less wsub fun q z1 z2 => .inl (y.lkLv z1 z2)⟩
  · rcases z with z | z
    · exact st.dis a (own' a h).1 z
    · cases z; exact (own' _ h).2 rfl
  · rcases h with h | h
    · exact st.uok a h
    · cases h; exact l
theorem moved_aft {i : Nat} {s : S} {v : V} (st : Sit C U H σ r) (hi : r[i]? = some (some s)) (ho : s.own = true) (hh : s.hard = false) (hv : σ[i]? = some (some v)) :
    Aft U H σ r (fun a => U a ∨ v = .ref a) H σ (r.set i none) := by
  obtain ⟨_, own', _⟩ := st.moved hi ho hv
  refine ⟨fun a h => .inl h, fun a h => h.elim .inl fun z => .inr (.inr ⟨i, s, hi, ho, by rw [hv, z]⟩), fun a h => .inl (own' a h), fun a o h _ => h, fun a o h => ⟨o, h⟩, fun j t h1 h2 => ?_, fun j t h1 h2 => ?_⟩
  · have n : i ≠ j := fun z => by subst z; rw [hi] at h1; cases h1; rw [h2] at hh; cases hh
    exact ⟨t, by rw [List.getElem?_set_ne n]; exact h1, Sl.refl t, rfl⟩
  · rcases at_set h1 with ⟨_, e⟩ | ⟨n, h1⟩
    · cases e
    · exact ⟨h1, rfl⟩
end
section
variable {X : Cx} {C : Ct} {st : Stmt} {sts : List Stmt} {f g : Rho → Fl} {a b c e : Expr} {fe fa fb : Rho → Rs Opd} {pos : Pos}
/-- what a return gives of an operand -/
def handed (o : Opd) (r : Rho) : Fl := match o with
  | .val s => if s.hard then .st else .rt s r
  | .loc i => match r[i]? with
    | some (some (.fz d)) => .rt (.fz d) r
    | some (some (.ol ds)) => .rt (.ol ds) (r.set i none)
    | some (some (.od ds)) => .rt (.od ds) (r.set i none)
    | _ => .st
def fRet (fe : Rho → Rs Opd) : Rho → Fl := fun r => match fe r with
  | .ok o r1 => handed o r1
  | .ex c fs r1 => .ex c fs r1
  | .st => .st
theorem gs_ret (he : GE X C e fe) : GS X C (.Return (some e) pos) (fRet fe) := by
  refine weakS (ps_ret he) fun D σ H h => ?_
  obtain ⟨U, r, s, h⟩ := h
  refine tE_stmt (k := handed) s h fun o r' v H' U' s' a' p' k' n' q => ?_
  cases o with
  | val t =>
    unfold handed at q
    dsimp only at q
    split at q
    · exact q.elim
    · exact q v σ H' U' s' a' k' fun p e1 e2 => .inr (n' t p rfl e1 e2)
  | loc i =>
    obtain ⟨hv, t, ht⟩ := k'
    unfold handed at q
    simp only [ht] at q
    have move : ∀ t, r'[i]? = some (some t) → t.own = true → t.hard = false → RS C U H σ r D (.rt t (r'.set i none)) → D.rt v H' := fun t ht ho hh q => by
      obtain ⟨s2, _, x2⟩ := s'.moved ht ho hv
      have a2 := moved_aft s' ht ho hh hv
      refine q v σ H' _ s2 (a'.trans a2) ⟨x2, fun p _ z => .inr z, hh⟩ fun p _ z => a'.grow p ⟨i, t, ht, ho, by rw [hv, z]⟩
    cases t with
    | fz d =>
      obtain ⟨w, e, x⟩ := s'.rep i _ ht
      rw [hv] at e; cases e
      exact q v σ H' U' s' a' ⟨x, fun p z => (nomatch z), rfl⟩ fun p z => (nomatch z)
    | ol ds => exact move _ ht rfl rfl q
    | od ds => exact move _ ht rfl rfl q
    | _ => exact q.elim
abbrev RT (C : Ct) (U : Addr → Prop) (H : Hp) (σ : St) (r : Rho) (Q : Bool → Hp → Prop) : Rs Bool → Prop
  | .ok b r' => ∀ H' U', Sit C U' H' σ r' → Aft U H σ r U' H' σ r' → Per r r' → Q b H'
  | .ex c fs r' => XWant C U H σ r c fs r'
  | .st => False
def tT (C : Ct) (f : Rho → Rs Bool) : TT := fun σ H Q => ∃ U r, Sit C U H σ r ∧ RT C U H σ r Q (f r)
abbrev GT (X : Cx) (C : Ct) (e : Expr) (f : Rho → Rs Bool) : Prop := PT X e (tT C f)
abbrev GW (X : Cx) (C : Ct) (e : Expr) (f : Rho → Rs Bool) : Prop := PW X e (tT C f)
theorem weakW {t t' : TT} (h : PW X e t) (k : ∀ σ H Q, t' σ H Q → t σ H Q) : PW X e t' := ⟨fun w pins s σ H Q I q => h.run w pins s σ H Q I (k σ H Q q)⟩
theorem RT.before {U U' : Addr → Prop} {H H' : Hp} {σ : St} {r r' : Rho} {Q : Bool → Hp → Prop} {z : Rs Bool} (h : RT C U H σ r Q z) (a : Aft U H σ r U' H' σ r') (p : Per r r') : RT C U' H' σ r' Q z := by
  cases z with
  | ok b r2 => exact fun H2 U2 s2 a2 p2 => h H2 U2 s2 (a.trans a2) (p.trans p2)
  | ex c fs r2 => exact XWant.before h a
  | st => exact h
theorem RE.before {U U' : Addr → Prop} {H H' : Hp} {σ : St} {r r' : Rho} {Q : VK} {z : Rs Opd} (h : RE C U H σ r Q z) (a : Aft U H σ r U' H' σ r') (p : Per r r') : RE C U' H' σ r' Q z := by
  cases z with
  | ok b r2 => exact fun v H2 U2 s2 a2 p2 o n => h v H2 U2 s2 (a.trans a2) (p.trans p2) o (n.back a)
  | ex c fs r2 => exact XWant.before h a
  | st => exact h
/-- a word's truth -/
def tru : S → Option Bool
  | .fz .non => some false
  | .fz (.bl b) => some b
  | .fz (.int i) => some (i != 0)
  | .fz (.str l) => if l.length ≤ 16777216 then some (!l.isEmpty) else none
  | .fz (.tup ds) => some (!ds.isEmpty)
  | .fz (.lst ds) => some (!ds.isEmpty)
  | .fz (.scr ds) => some (!ds.isEmpty)
  | .fz (.dic _ _) => none
  | .ol ds => some (!ds.isEmpty)
  | .br ds => some (!ds.isEmpty)
  | .lk ds => some (!ds.isEmpty)
  | .od k => some (!k.isEmpty)
  | .bd k => some (!k.isEmpty)
  | .kd _ _ _ => none
  | .exc _ _ _ _ => none
  | .nd _ _ => none
  | .nh _ _ _ => none
  | .ot _ => none
  | .kt _ _ _ => none
  | .ky _ => none
theorem Rps.len {K : PySem.W.Frag} {W : Addr → Prop} {H : Hp} : ∀ {xs : List V} {ds : List D}, Rps K W H xs ds → xs.length = ds.length
  | _, _, .nil => rfl
  | _, _, .cons _ t => congrArg (· + 1) (Rps.len t)
theorem KR.len {κ : Type} {K : PySem.W.Frag} {W : Addr → Prop} {H : Hp} {xs : List (κ × V)} {ds : List (κ × D)} (h : KR K W H xs ds) : xs.length = ds.length := Paired.length h
theorem emp_len {α β : Type} {xs : List α} {ys : List β} (h : xs.length = ys.length) : (!ys.isEmpty) = !xs.isEmpty := by
  cases xs <;> cases ys <;> first | rfl | (simp at h)
theorem truV_of {K : PySem.W.Frag} {U W : Addr → Prop} {H : Hp} {v : V} {s : S} {k : Bool} (x : SR K U W H v s) (h : tru s = some k) : TruV K v H k := by
  cases x with
  | fz x =>
    cases x with
    | non => cases h; rfl
    | bl b => cases h; rfl
    | int i => cases h; rfl
    | str l =>
      have h : (if l.length ≤ 16777216 then some (!l.isEmpty) else none) = some k := h
      by_cases hl : l.length ≤ 16777216
      · rw [if_pos hl] at h
        cases h
        have e : (⟨l.toArray⟩ : Str).length = l.length := by simp [Str.length]
        refine ⟨by rw [e, sizeLine_eq]; exact hl, ?_⟩
        rw [e]
        cases l with
        | nil => rfl
        | cons a r =>
          have q : ((((a :: r).length : Nat) : Int) != 0) = true := by
            rw [bne_iff_ne]
            simp only [List.length_cons]
            omega
          rw [q]; rfl
      · rw [if_neg hl] at h; cases h
    | tup e x => cases h; exact .inr (.inl ⟨_, e.sq, emp_len x.len⟩)
    | lst e n x => cases h; exact .inl ⟨_, .inl (.inl e), emp_len x.len⟩
    | scr e x => cases h; exact .inl ⟨_, e.seq, emp_len x.len⟩
    | dic _ _ _ _ => cases h
  | ol e x => cases h; exact .inl ⟨_, .inl (.inl e), emp_len x.len⟩
  | br e x => cases h; exact .inl ⟨_, .inl (.inl e), emp_len x.len⟩
  | lk e u x => cases h; exact .inl ⟨_, .inl (.inl e), emp_len x.len⟩
  | od e x => cases h; exact .inr (.inr ⟨_, e, emp_len x.len⟩)
  | bd e x => cases h; exact .inr (.inr ⟨_, e, emp_len x.len⟩)
  | kd _ _ => cases h
  | exc _ _ => cases h
  | nd _ => cases h
  | nh _ _ => cases h
  | ot _ _ => cases h
  | kt _ _ => cases h
  | ky _ => cases h
def tTru (o : Opd) (r : Rho) : Rs Bool := match res r o with
  | some s => (match tru s with | some b => .ok b r | none => .st)
  | none => .st
def eTru (fe : Rho → Rs Opd) : Rho → Rs Bool := fun r => (fe r).bind tTru
theorem gt_tru (he : GE X C e fe) (hp : ∀ whole, isTrue e X.env whole = (do let v ← whole; standAt e.pos; holding [v] (truthy v)) := by intro _; rfl) (hK : C.K = X.K := by rfl) : GT X C e (eTru fe) := by
  refine weakT (pt_truth he hp) fun σ H Q h => ?_
  obtain ⟨U, r, s, h⟩ := h
  refine tE_then (R := RT C U H σ r Q) s h id (fun _ _ _ z => z) ?_
  intro o r1 v H1 U1 s1 a1 p1 k1 n1 h1
  obtain ⟨t, e, x⟩ := k1.res s1
  unfold tTru at h1
  simp only [e] at h1
  cases e2 : tru t with
  | none => simp only [e2] at h1; exact (show False from h1).elim
  | some b =>
    simp only [e2] at h1
    exact ⟨b, hK ▸ truV_of x e2, h1 H1 U1 s1 a1 p1⟩
def eNotT (f : Rho → Rs Bool) : Rho → Rs Bool := fun r => (f r).bind fun b r1 => .ok (!b) r1
def eAndT (f g : Rho → Rs Bool) : Rho → Rs Bool := fun r => (f r).bind fun b r1 => if b then g r1 else .ok false r1
def eOrT (f g : Rho → Rs Bool) : Rho → Rs Bool := fun r => (f r).bind fun b r1 => if b then .ok true r1 else g r1
theorem tT_then {α : Type} {f : Rho → Rs Bool} {g : Bool → Rho → Rs α} {σ : St} {H : Hp} {Q : Bool → Hp → Prop} {U : Addr → Prop} {r : Rho} {R : Rs α → Prop} (s : Sit C U H σ r) (h : R ((f r).bind g))
    (hst : R .st → False) (hex : ∀ c fs r', R (.ex c fs r') → XWant C U H σ r c fs r')
    (hok : ∀ b r' H' U', Sit C U' H' σ r' → Aft U H σ r U' H' σ r' → Per r r' → R (g b r') → Q b H') : tT C f σ H Q := by
  refine ⟨U, r, s, ?_⟩
  cases e : f r with
  | ok o r' => rw [e] at h; exact fun H' U' s' a' p' => hok o r' H' U' s' a' p' h
  | ex c fs r' => rw [e] at h; exact hex c fs r' h
  | st => rw [e] at h; exact hst h
variable {ft gt : Rho → Rs Bool} {rest : List Expr}
theorem gt_not (h : GT X C a ft) : GT X C (.UnaryOp .Not a pos) (eNotT ft) := by
  refine weakT (pt_not h) fun σ H Q h => ?_
  obtain ⟨U, r, s, h⟩ := h
  exact tT_then (R := RT C U H σ r Q) s h id (fun _ _ _ z => z) fun b r1 H1 U1 s1 a1 p1 h1 => h1 H1 U1 s1 a1 p1
theorem gw_and1 (h : GT X C a ft) : GW X C (.BoolOp .And [a] pos) ft := weakW (pw_and1 h) fun σ H Q h => h
theorem gw_or1 (h : GT X C a ft) : GW X C (.BoolOp .Or [a] pos) ft := weakW (pw_or1 h) fun σ H Q h => h
theorem gw_and (h : GT X C a ft) (h' : GW X C (.BoolOp .And (b :: rest) pos) gt) : GW X C (.BoolOp .And (a :: b :: rest) pos) (eAndT ft gt) := by
  refine weakW (pw_and h h') fun σ H Q h => ?_
  obtain ⟨U, r, s, h⟩ := h
  refine tT_then (R := RT C U H σ r Q) s h id (fun _ _ _ z => z) fun b r1 H1 U1 s1 a1 p1 h1 => ?_
  cases b with
  | true => exact ⟨U1, r1, s1, RT.before h1 a1 p1⟩
  | false => exact h1 H1 U1 s1 a1 p1
theorem gw_or (h : GT X C a ft) (h' : GW X C (.BoolOp .Or (b :: rest) pos) gt) : GW X C (.BoolOp .Or (a :: b :: rest) pos) (eOrT ft gt) := by
  refine weakW (pw_or h h') fun σ H Q h => ?_
  obtain ⟨U, r, s, h⟩ := h
  refine tT_then (R := RT C U H σ r Q) s h id (fun _ _ _ z => z) fun b r1 H1 U1 s1 a1 p1 h1 => ?_
  cases b with
  | true => exact h1 H1 U1 s1 a1 p1
  | false => exact ⟨U1, r1, s1, RT.before h1 a1 p1⟩
theorem gt_w (h : GW X C e ft) : GT X C e ft := h.pt
def tBl (o : Opd) (r : Rho) : Rs Bool := match o with
  | .val (.fz (.bl b)) => .ok b r
  | _ => .st
def eBl (fe : Rho → Rs Opd) : Rho → Rs Bool := fun r => (fe r).bind tBl
/-- a test whose parts are compared: by its value -/
theorem gt_cmp {op : CmpOp} {rr : R2} {p : Pr} (ho : OpR X (compareOp op) rr) (hp : PN C (fun vs H Q => ∃ x y, vs = [x, y] ∧ rr x y H Q) p) (ha : GE X C a fa) (hb : GE X C b fb) (hm : behindInMarks op b = false) :
    GT X C (.Compare a [op] [b] pos) (eBl (eCall p (eCons fa (eCons fb eNil)))) := by
  refine weakT (pt_cmpR ho ha hb hm) fun σ H Q h => ?_
  show tOp rr (tE C fa) (tE C fb) σ H fun x H' => ∃ k, x = .bl k ∧ Q k H'
  obtain ⟨U, r, s, h⟩ := h
  refine tE_then (g := fun o r1 => ((fb r1).bind fun o2 r2 => (eP p [o, o2] r2).bind tBl)) (R := RT C U H σ r Q) s ?_ id (fun _ _ _ z => z) ?_
  · refine cast ?_ h
    unfold eBl eCall eCons eNil Rs.bind
    cases fa r with
    | ok o r1 => simp only []; cases fb r1 <;> rfl
    | ex c fs r' => rfl
    | st => rfl
  intro o r1 v H1 U1 s1 a1 p1 k1 n1 h1
  refine tE_then (R := RT C U H σ r Q) s1 h1 id (fun _ _ _ z => XWant.before z a1) ?_
  intro o2 r2 v2 H2 U2 s2 a2 p2 k2 n2 h2
  obtain ⟨ss, e, x⟩ := OpsOk.res s2 (.cons (k1.after a2 s1 p2) (.cons k2 .nil))
  unfold eP at h2
  simp only [e] at h2
  cases e2 : p ss with
  | none => simp only [e2, Rs.bind] at h2; exact (show False from h2).elim
  | some t =>
    simp only [e2, Rs.bind] at h2
    obtain ⟨x1, y1, e3, q⟩ := hp U2 _ H2 [v, v2] ss t (fun x H' => ∃ k, x = .bl k ∧ Q k H') s2.wlv x e2 fun w H3 g => by
      obtain ⟨U3, s3, a3, k3, n3⟩ := g.fin s2
      cases t with
      | fz d =>
        cases d with
        | bl k' =>
          have fin : RT C U H σ r Q (.ok k' r2) := h2
          cases k3.1 with | fz y => cases y; exact ⟨_, rfl, fin H3 U3 s3 ((a1.trans a2).trans a3) (p1.trans p2)⟩
        | _ => exact (show False from h2).elim
      | _ => exact (show False from h2).elim
    cases e3
    exact q
end
end GB
namespace GB
open PySem PySem.Spec PyProof.Rows L2
section
variable {X : Cx} {C : Ct} {st : Stmt} {sts sts' : List Stmt} {f g : Rho → Fl} {a b c e : Expr} {fe fa fb : Rho → Rs Opd} {ft : Rho → Rs Bool} {pos : Pos}
def ofR {α : Type} (z : Rs α) (k : α → Rho → Fl) : Fl := match z with
  | .ok o r1 => k o r1
  | .ex c fs r1 => .ex c fs r1
  | .st => .st
theorem tT_stmt {k : Bool → Rho → Fl} {σ : St} {H : Hp} {Q : Bool → Hp → Prop} {D : Ends} {U : Addr → Prop} {r : Rho} (s : Sit C U H σ r)
    (h : RS C U H σ r D (ofR (ft r) k))
    (hok : ∀ b r' H' U', Sit C U' H' σ r' → Aft U H σ r U' H' σ r' → Per r r' → RS C U H σ r D (k b r') → Q b H') : tT C ft σ H Q := by
  refine ⟨U, r, s, ?_⟩
  cases e : ft r with
  | ok o r' => rw [e] at h; exact fun H' U' s' a' p' => hok o r' H' U' s' a' p' h
  | ex c fs r' => rw [e] at h; exact h
  | st => rw [e] at h; exact h
def fIf (ft : Rho → Rs Bool) (f g : Rho → Fl) : Rho → Fl := fun r => ofR (ft r) fun b r1 => if b then f r1 else g r1
theorem gs_if (hc : GT X C c ft) (ha : GSs X C sts f) (hb : GSs X C sts' g) : GS X C (.If c sts sts' pos) (fIf ft f g) := by
  refine weakS (ps_if hc ha hb) fun D σ H h => ?_
  obtain ⟨U, r, s, h⟩ := h
  refine tT_stmt (D := D) s h fun b r' H' U' s' a' p' q => ?_
  cases b with
  | true => exact ⟨U', r', s', RS.before q a'⟩
  | false => exact ⟨U', r', s', RS.before q a'⟩
def whileN (ft : Rho → Rs Bool) (f : Rho → Fl) : Nat → Rho → Option Fl
  | 0, _ => none
  | n + 1, r => match ft r with
    | .ok true r1 => (match f r1 with
      | .nx r2 => whileN ft f n r2
      | .ct r2 => whileN ft f n r2
      | .bk r2 => some (.nx r2)
      | z => some z)
    | .ok false r1 => some (.nx r1)
    | .ex c fs r1 => some (.ex c fs r1)
    | .st => some .st
open Classical in
noncomputable def fWhile (ft : Rho → Rs Bool) (f : Rho → Fl) : Rho → Fl := fun r => if h : ∃ n z, whileN ft f n r = some z then h.choose_spec.choose else .st
theorem whileN_succ {ft : Rho → Rs Bool} {f : Rho → Fl} : ∀ {n : Nat} {r : Rho} {z : Fl}, whileN ft f n r = some z → whileN ft f (n + 1) r = some z := by
  intro n
  induction n with
  | zero => intro r z h; cases h
  | succ n ih =>
    intro r z h
    unfold whileN at h ⊢
    cases e : ft r with
    | ok b r1 =>
      cases b with
      | true =>
        simp only [e] at h ⊢
        cases e2 : f r1 with
        | nx r2 => simp only [e2] at h ⊢; exact ih h
        | ct r2 => simp only [e2] at h ⊢; exact ih h
        | bk r2 => simp only [e2] at h ⊢; exact h
        | rt s r2 => simp only [e2] at h ⊢; exact h
        | ex c fs r2 => simp only [e2] at h ⊢; exact h
        | st => simp only [e2] at h ⊢; exact h
      | false => simp only [e] at h ⊢; exact h
    | ex c fs r1 => simp only [e] at h ⊢; exact h
    | st => simp only [e] at h ⊢; exact h
theorem whileN_le {ft : Rho → Rs Bool} {f : Rho → Fl} {m n : Nat} {r : Rho} {z : Fl} (h : whileN ft f m r = some z) (l : m ≤ n) : whileN ft f n r = some z := by
  induction l with
  | refl => exact h
  | step _ ih => exact whileN_succ ih
theorem fWhile_of {ft : Rho → Rs Bool} {f : Rho → Fl} {n : Nat} {r : Rho} {z : Fl} (h : whileN ft f n r = some z) : fWhile ft f r = z := by
  unfold fWhile
  have ex : ∃ n z, whileN ft f n r = some z := ⟨n, z, h⟩
  rw [dif_pos ex]
  have h' := ex.choose_spec.choose_spec
  have h1 := whileN_le h (Nat.le_max_left n ex.choose)
  have h2 := whileN_le h' (Nat.le_max_right n ex.choose)
  rw [h1] at h2
  exact (Option.some.inj h2).symm
theorem fWhile_some {ft : Rho → Rs Bool} {f : Rho → Fl} {r : Rho} : fWhile ft f r = .st ∨ ∃ n, whileN ft f n r = some (fWhile ft f r) := by
  by_cases ex : ∃ n z, whileN ft f n r = some z
  · obtain ⟨n, z, h⟩ := ex
    exact .inr ⟨n, by rw [fWhile_of h]; exact h⟩
  · left; unfold fWhile; rw [dif_neg ex]
/-- a while's own equation -/
theorem fWhile_eq (ft : Rho → Rs Bool) (f : Rho → Fl) (r : Rho) : fWhile ft f r = ofR (ft r) fun b r1 => if b then (match f r1 with | .nx r2 => fWhile ft f r2 | .ct r2 => fWhile ft f r2 | .bk r2 => .nx r2 | z => z) else .nx r1 := by
  have go : ∀ r2, (∃ n, whileN ft f n r2 = some (fWhile ft f r2)) ∨ (fWhile ft f r2 = .st ∧ ∀ n, whileN ft f n r2 = none ∨ whileN ft f n r2 = some .st) := fun r2 => by
    rcases fWhile_some (ft := ft) (f := f) (r := r2) with h | h
    · refine .inr ⟨h, fun n => ?_⟩
      cases e : whileN ft f n r2 with
      | none => exact .inl rfl
      | some z => rw [← fWhile_of e, h]; exact .inr rfl
    · exact .inl h
  have lift : ∀ r1 r2 : Rho, ft r = .ok true r1 → (f r1 = .nx r2 ∨ f r1 = .ct r2) → fWhile ft f r = fWhile ft f r2 := fun r1 r2 h1 h2 => by
    have step : ∀ n, whileN ft f (n + 1) r = whileN ft f n r2 := fun n => by
      rw [whileN]
      rcases h2 with h2 | h2 <;> simp only [h1, h2]
    rcases go r2 with ⟨n, h⟩ | ⟨h, hn⟩
    · exact fWhile_of (n := n + 1) ((step n).trans h)
    · rw [h]
      rcases fWhile_some (ft := ft) (f := f) (r := r) with q | ⟨m, q⟩
      · exact q
      · cases m with
        | zero => cases q
        | succ m =>
          rw [step] at q
          rcases hn m with z | z
          · rw [z] at q; cases q
          · rw [z] at q; exact (Option.some.inj q).symm
  cases e : ft r with
  | ok b r1 =>
    cases b with
    | true =>
      cases e2 : f r1 with
      | nx r2 => exact (lift r1 r2 e (.inl e2)).trans (by simp [ofR, e2])
      | ct r2 => exact (lift r1 r2 e (.inr e2)).trans (by simp [ofR, e2])
      | bk r2 => exact fWhile_of (n := 1) (by simp only [whileN, e, e2]; simp [ofR, e2])
      | rt s r2 => exact fWhile_of (n := 1) (by simp only [whileN, e, e2]; simp [ofR, e2])
      | ex c fs r2 => exact fWhile_of (n := 1) (by simp only [whileN, e, e2]; simp [ofR, e2])
      | st => exact fWhile_of (n := 1) (by simp only [whileN, e, e2]; simp [ofR, e2])
    | false => exact fWhile_of (n := 1) (by simp only [whileN, e]; simp [ofR])
  | ex c fs r1 => exact fWhile_of (n := 1) (by simp only [whileN, e]; simp [ofR])
  | st => exact fWhile_of (n := 1) (by simp only [whileN, e]; simp [ofR])
theorem gs_while (hp : PassesOwn (model X.prog X.w) X.A X.env X.xe) (hc : GT X C c ft) (hb : GSs X C sts f) : GS X C (.While c sts [] pos) (fWhile ft f) := by
  refine weakS (ps_while hp hc hb) fun D σ H h => ?_
  obtain ⟨U, r, s, h⟩ := h
  rcases fWhile_some (ft := ft) (f := f) (r := r) with q | ⟨n, q⟩
  · rw [q] at h; exact h.elim
  refine ⟨fun m σ' H' => ∃ U' r', Sit C U' H' σ' r' ∧ Aft U H σ r U' H' σ' r' ∧ whileN ft f m r' = some (fWhile ft f r), ⟨n, U, r, s, Aft.refl, q⟩, ?_⟩
  rintro m σ1 H1 ⟨U1, r1, s1, a1, e1⟩
  cases m with
  | zero => cases e1
  | succ m =>
    rw [whileN] at e1
    refine ⟨U1, r1, s1, ?_⟩
    cases e : ft r1 with
    | ok b r2 =>
      intro H2 U2 s2 a2 p2
      cases b with
      | false =>
        simp only [e] at e1
        rw [← Option.some.inj e1] at h
        exact h σ1 H2 U2 s2 (a1.trans a2)
      | true =>
        simp only [e] at e1
        rw [if_pos rfl]
        refine ⟨fun σ' H' => ∃ U' r', Sit C U' H' σ' r' ∧ Aft U H σ r U' H' σ' r' ∧ whileN ft f m r' = some (fWhile ft f r), fun σ' H' z => ⟨m, Nat.lt_succ_self m, z⟩, U2, r2, s2, ?_⟩
        cases e2 : f r2 with
        | nx r3 => simp only [e2] at e1; exact fun σ' H' U' s' a' => ⟨U', r3, s', (a1.trans a2).trans a', e1⟩
        | ct r3 => simp only [e2] at e1; exact fun σ' H' U' s' a' => ⟨U', r3, s', (a1.trans a2).trans a', e1⟩
        | bk r3 => simp only [e2] at e1; rw [← Option.some.inj e1] at h; exact fun σ' H' U' s' a' => h σ' H' U' s' ((a1.trans a2).trans a')
        | rt t r3 => simp only [e2] at e1; rw [← Option.some.inj e1] at h; exact RS.before h (a1.trans a2)
        | ex c fs r3 => simp only [e2] at e1; rw [← Option.some.inj e1] at h; exact RS.before h (a1.trans a2)
        | st => simp only [e2] at e1; rw [← Option.some.inj e1] at h; exact h
    | ex c fs r2 =>
      simp only [e] at e1
      rw [← Option.some.inj e1] at h
      exact XWant.before (show XWant C U H σ r c fs r2 from h) a1
    | st =>
      simp only [e] at e1
      rw [← Option.some.inj e1] at h
      exact h
end
end GB
namespace GB
open PySem PySem.Spec PyProof.Rows L2
/-- an item: a tree; b: or a pair that was made for a walk -/
def RpB (b : Bool) (K : PySem.W.Frag) (W : Addr → Prop) (H : Hp) (v : V) (d : D) : Prop := Rp K W H v d ∨ (b = true ∧ ∃ a xs ds, v = .ref a ∧ d = .tup ds ∧ SqT K H a xs ∧ Rps K W H xs ds)
theorem RpB.tree {K : PySem.W.Frag} {W : Addr → Prop} {H : Hp} {v : V} {d : D} (h : RpB false K W H v d) : Rp K W H v d := h.elim id fun z => nomatch z.1
def tG (C : Ct) (tgt : List Nat) (fg : D → Rho → Option Rho) (b : Bool := false) : TG := fun v σ H Q => ∃ U r d, Sit C U H σ r ∧ RpB b C.K (Wn U σ r) H v d ∧
  match fg d r with
  | some r' => ∀ σ' U', Sit C U' H σ' r' → Aft U H σ r U' H σ' r' → (Per r r' ∧ σ'.length = σ.length) → (∀ j, j ∉ tgt → σ'[j]? = σ[j]?) → Q σ' H
  | none => False
def tGs (C : Ct) (tgt : List Nat) (fg : List D → Rho → Option Rho) : TGs := fun vs σ H Q => ∃ U r ds, Sit C U H σ r ∧ Rps C.K (Wn U σ r) H vs ds ∧
  match fg ds r with
  | some r' => ∀ σ' U', Sit C U' H σ' r' → Aft U H σ r U' H σ' r' → (Per r r' ∧ σ'.length = σ.length) → (∀ j, j ∉ tgt → σ'[j]? = σ[j]?) → Q σ' H
  | none => False
section
variable {X : Cx} {C : Ct} {e : Expr} {es : List Expr} {pos : Pos}
abbrev GG (X : Cx) (C : Ct) (e : Expr) (tgt : List Nat) (fg : D → Rho → Option Rho) (b : Bool := false) : Prop := PG X e (tG C tgt fg b)
abbrev GGs (X : Cx) (C : Ct) (es : List Expr) (tgt : List Nat) (fg : List D → Rho → Option Rho) : Prop := PGs X es (tGs C tgt fg)
theorem weakG {t t' : TG} (h : PG X e t) (k : ∀ v σ H Q, t' v σ H Q → t v σ H Q) : PG X e t' := ⟨fun pins s σ H v u Q I r q => h.run pins s σ H v u Q I r (k v σ H Q q)⟩
theorem weakGs {t t' : TGs} (h : PGs X es t) (k : ∀ v σ H Q, t' v σ H Q → t v σ H Q) : PGs X es t' := ⟨fun pins s σ H v u Q I r q => h.run pins s σ H v u Q I r (k v σ H Q q)⟩
def gNm (i : Nat) : D → Rho → Option Rho := fun d r => if free r i then some (r.set i (some (.fz d))) else none
theorem gg_name {i : Nat} {x : Str} (hN : X.N.Nodup) (hi : X.N[i]? = some x) (hx : Loc X.env.scope x) (hf : X.fn x = true ∨ X.env.scope.names.lookup x = some .local := by first | exact .inl rfl | exact .inr rfl | assumption) : GG X C (.Name x pos) [i] (gNm i) := by
  refine weakG (pg_name hN hi hx hf) fun v σ H Q h => ?_
  obtain ⟨U, r, d, s, x, h⟩ := h
  have x := x.tree
  unfold gNm at h
  by_cases hf : free r i = true
  · rw [if_pos hf] at h
    obtain ⟨U3, s3, a3⟩ := store_aft (s := .fz d) (v := v) s s Aft.refl hf ⟨.fz x, fun p z => (nomatch z), rfl⟩ fun _ _ z q _ => by cases z; cases q
    exact h _ U3 s3 a3 ⟨fun j t hj => (by
      by_cases z : i = j
      · subst z; exact ⟨_, List.getElem?_set_self (free_lt hf)⟩
      · exact ⟨t, by rw [List.getElem?_set_ne z]; exact hj⟩), List.length_set⟩ fun j hj => by rw [List.getElem?_set_ne (fun z => hj (by simp [z]))]
  · rw [if_neg hf] at h
    exact h.elim
def gsNil : List D → Rho → Option Rho
  | [], r => some r
  | _, _ => none
def gsCons (f : D → Rho → Option Rho) (g : List D → Rho → Option Rho) : List D → Rho → Option Rho
  | d :: ds, r => (match f d r with | some r1 => g ds r1 | none => none)
  | [], _ => none
theorem ggs_nil : GGs X C [] [] gsNil := by
  refine weakGs pgs_nil fun vs σ H Q h => ?_
  obtain ⟨U, r, ds, s, x, h⟩ := h
  cases x with
  | nil => exact ⟨rfl, h σ U s Aft.refl ⟨Per.refl, rfl⟩ fun _ _ => rfl⟩
  | cons _ _ => exact h.elim
theorem ggs_cons {f : D → Rho → Option Rho} {g : List D → Rho → Option Rho} {t1 t2 : List Nat} (h1 : GG X C e t1 f) (h2 : GGs X C es t2 g)
    (hs : (assignEach (e :: es) X.env).map (·.2) = assign e X.env :: (assignEach es X.env).map (·.2) := by rfl) : GGs X C (e :: es) (t1 ++ t2) (gsCons f g) := by
  refine weakGs (pgs_cons h1 h2 hs) fun vs σ H Q h => ?_
  obtain ⟨U, r, ds, s, x, h⟩ := h
  cases x with
  | nil => exact h.elim
  | @cons v vs d ds x xs =>
    refine ⟨v, vs, rfl, U, r, d, s, .inl x, ?_⟩
    unfold gsCons at h
    cases e1 : f d r with
    | none => simp only [e1] at h
    | some r1 =>
      simp only [e1] at h
      intro σ1 U1 s1 a1 l1 o1
      refine ⟨U1, r1, ds, s1, xs.mono (a1.mono s), ?_⟩
      cases e2 : g ds r1 with
      | none => simp only [e2] at h
      | some r2 =>
        simp only [e2] at h
        intro σ2 U2 s2 a2 l2 o2
        exact h σ2 U2 s2 (a1.trans a2) ⟨l1.1.trans l2.1, l2.2.trans l1.2⟩ fun j hj => (o2 j fun z => hj (List.mem_append_right _ z)).trans (o1 j fun z => hj (List.mem_append_left _ z))
def gTp (n : Nat) (f : List D → Rho → Option Rho) : D → Rho → Option Rho := fun d r => match d with
  | .tup ds => if ds.length = n then f ds r else none
  | _ => none
theorem gg_tup {b : Bool} {k : Nat} {f : List D → Rho → Option Rho} {n : Nat} {t : List Nat} (hc : X.calm = true) (h : GGs X C es t f) (hK : C.K = X.K := by rfl)
    (hn : (assignEach es X.env).length = n := by rfl) (hst : (assignEach es X.env).findIdx? (·.1) = none := by rfl) : GG X C (.Tuple es k pos) t (gTp n f) b := by
  refine weakG (pg_tup hc h hn hst) fun v σ H Q h => ?_
  obtain ⟨U, r, d, s, x | ⟨_, a, xs, ds, rfl, rfl, q, xs'⟩, h⟩ := h
  case inr =>
    unfold gTp at h
    dsimp only at h
    by_cases hl : ds.length = n
    · rw [if_pos hl] at h
      exact ⟨a, xs, rfl, hK ▸ q, xs'.len.trans hl, U, r, ds, s, xs', h⟩
    · rw [if_neg hl] at h
      exact h.elim
  cases x with
  | @tup a xs ds q xs' =>
    unfold gTp at h
    dsimp only at h
    by_cases hl : ds.length = n
    · rw [if_pos hl] at h
      exact ⟨a, xs, rfl, hK ▸ q.sq, xs'.len.trans hl, U, r, ds, s, xs', h⟩
    · rw [if_neg hl] at h
      exact h.elim
  | _ => exact h.elim
/-- target = e (a tuple of names; one name is gs_set) -/
def fAsg (fg : D → Rho → Option Rho) (fe : Rho → Rs Opd) : Rho → Fl := fun r => ofR (fe r) fun o r1 => match frz1 o r1 with
  | some (d, r2) => (match fg d r2 with | some r3 => .nx r3 | none => .st)
  | none => .st
theorem tE_stmt2 {fe : Rho → Rs Opd} {k : Opd → Rho → Fl} {σ : St} {H : Hp} {Q : VK} {D : Ends} {U : Addr → Prop} {r : Rho} (s : Sit C U H σ r) (h : RS C U H σ r D (ofR (fe r) k))
    (hok : ∀ o r' v H' U', Sit C U' H' σ r' → Aft U H σ r U' H' σ r' → Per r r' → OpOk C U' H' σ r' o v → New H o v → RS C U H σ r D (k o r') → Q v H') : tE C fe σ H Q := by
  refine ⟨U, r, s, ?_⟩
  cases e : fe r with
  | ok o r' => rw [e] at h; exact fun v H' U' s' a' p' k' n' => hok o r' v H' U' s' a' p' k' n' h
  | ex c fs r' => rw [e] at h; exact h
  | st => rw [e] at h; exact h
theorem op1_drop {U U' : Addr → Prop} {H H' : Hp} {σ : St} {r r' : Rho} {o : Opd} {v : V} (s0 : Sit C U H σ r) (s : Sit C U' H' σ r') (a : Aft U H σ r U' H' σ r') (k : OpOk C U' H' σ r' o v) (n : New H o v) :
    ∃ U2, Sit C U2 H' σ r' ∧ Aft U H σ r U2 H' σ r' ∧ (∀ a, U2 a → U' a) ∧ Ops2 C U2 H' σ r' o v := by
  obtain ⟨U2, s2, a2, u2, k2⟩ := ops_drop s0 s a (.cons k .nil) (.cons n .nil)
  cases k2 with
  | cons k2 _ => exact ⟨U2, s2, a2, u2, k2⟩
theorem gs_asg {fe : Rho → Rs Opd} {tg : Expr} {t : List Nat} {fg : D → Rho → Option Rho} (he : GE X C e fe) (hg : GG X C tg t fg) (hs : swapsWithSole [tg] e pos.line X.env = pure false := by rfl) (hw : swappedStores [tg] e X.env = pure none := by rfl)
    (h1 : (assignEach [tg] X.env).map (·.2) = [assign tg X.env] := by rfl) : GS X C (.Assign [tg] e pos) (fAsg fg fe) := by
  refine weakS (ps_asg he hg hs hw h1) fun D σ H h => ?_
  obtain ⟨U, r, s, h⟩ := h
  refine tE_stmt2 (D := D) s h fun o r' v H' U' s' a' p' k' n' q => ?_
  obtain ⟨U2, s2, a2, u2, k2⟩ := op1_drop s s' a' k' n'
  cases e1 : frz1 o r' with
  | none => simp only [e1] at q; exact (show False from q).elim
  | some z =>
    obtain ⟨d, r2⟩ := z
    simp only [e1] at q
    obtain ⟨s3, a3, p3, x3⟩ := frz1_ok s2 k2 e1
    refine ⟨U2, r2, d, s3, .inl x3, ?_⟩
    cases e2 : fg d r2 with
    | none => simp only [e2] at q; exact (show False from q).elim
    | some r3 =>
      simp only [e2] at q
      exact fun σ' U3 s4 a4 _ _ => q σ' H' U3 s4 ((a2.trans a3).trans a4)
end
section
variable {C : Ct} {U U' : Addr → Prop} {H H' : Hp} {σ σ' : St} {r r' : Rho} {i : Nat} {ds : List D} {s : S} {p : Addr}
theorem Sit.lock (st : Sit C U H σ r) (hi : r[i]? = some (some s)) (hs : s = .ol ds ∨ s = .br ds) (hv : σ[i]? = some (some (V.ref p))) :
    Sit C (fun a => U a ∨ a = p) H σ (r.set i (some (.lk ds))) ∧ (∀ a, Own σ (r.set i (some (.lk ds))) a → Own σ r a ∧ a ≠ p) := by
  have ho : s.own = true := by rcases hs with h | h <;> (subst h; rfl)
  have hlt := lt_of_at hi
  obtain ⟨w, e, x⟩ := st.rep i s hi
  rw [hv] at e; cases e
  have own' : ∀ a, Own σ (r.set i (some (.lk ds))) a → Own σ r a ∧ a ≠ p := fun a ⟨j, t, h1, h2, h3⟩ => by
    rcases at_set h1 with ⟨_, e⟩ | ⟨n, h1⟩
    · cases e; cases h2
    · refine ⟨⟨j, t, h1, h2, h3⟩, fun z => n ?_⟩
      subst z
      exact st.inj j i t s _ h1 (soft_of_own h2) hi (soft_of_own ho) h3 hv
  have wsub : ∀ a, Wn (fun a => U a ∨ a = p) σ (r.set i (some (.lk ds))) a → Wn U σ r a := fun a h => by
    rcases h with h | h | h
    · exact .inl (own' a h).1
    · exact .inr h
    · subst h; exact .inl ⟨i, s, hi, ho, hv⟩
  have lk : SR C.K (fun a => U a ∨ a = p) (Wn (fun a => U a ∨ a = p) σ (r.set i (some (.lk ds)))) H (.ref p) (.lk ds) := by
    rcases hs with h | h <;> subst h
    · cases x with | ol e x => exact .lk e (.inr rfl) (x.less wsub)
    · cases x with | br e x => exact .lk e (.inr rfl) (x.less wsub)
  have slot : ∀ (j : Nat) (t : S), (r.set i (some (.lk ds)))[j]? = some (some t) → t.soft = false → ∃ u, r[j]? = some (some u) ∧ u.soft = false := fun j t h q => by
    rcases at_set h with ⟨rfl, e⟩ | ⟨n, h⟩
    · exact ⟨s, hi, soft_of_own ho⟩
    · exact ⟨t, h, q⟩
  refine ⟨⟨by rw [List.length_set]; exact st.len, fun j t h => ?_, fun j k t u w h1 q1 h2 q2 e1 e2 => ?_, fun a h z => ?_, fun a h => ?_⟩, own'⟩
  · rcases at_set h with ⟨rfl, e⟩ | ⟨n, h⟩
    · cases e; exact ⟨_, hv, lk⟩
    · obtain ⟨w, e, y⟩ := st.rep j t h
      exact ⟨w, e, y.less wsub fun q z1 z2 => .inl (y.lkLv z1 z2)⟩
  · obtain ⟨_, g1, g2⟩ := slot j t h1 q1
    obtain ⟨_, g3, g4⟩ := slot k u h2 q2
    exact st.inj j k _ _ w g1 g2 g3 g4 e1 e2
  · rcases z with z | z
    · exact st.dis a (own' a h).1 z
    · exact (own' a h).2 z
  · rcases h with h | h
    · exact st.uok a h
    · subst h
      exact st.wlv a (.inl ⟨i, s, hi, ho, hv⟩)
/-- behind the loop -/
theorem Sit.unlock (s0 : Sit C U H σ r) (hi : r[i]? = some (some s)) (hs : s = .ol ds ∨ s = .br ds) (hv : σ[i]? = some (some (V.ref p)))
    (st : Sit C U' H' σ' r') (a : Aft (fun a => U a ∨ a = p) H σ (r.set i (some (.lk ds))) U' H' σ' r') :
    Sit C (fun a => U' a ∧ a ≠ p) H' σ' (r'.set i (some s)) ∧ Aft U H σ r (fun a => U' a ∧ a ≠ p) H' σ' (r'.set i (some s)) ∧ (∀ a, Wn (fun a => U' a ∧ a ≠ p) σ' (r'.set i (some s)) a → Wn U' σ' r' a) := by
  have ho : s.own = true := by rcases hs with h | h <;> (subst h; rfl)
  have hlt := lt_of_at hi
  obtain ⟨sl, ownl⟩ := s0.lock hi hs hv
  have lp : Lv H p := s0.wlv p (.inl ⟨i, s, hi, ho, hv⟩)
  obtain ⟨t, ht, hsl, hσ⟩ := a.pin i (.lk ds) (List.getElem?_set_self hlt) rfl
  have ht' : t = .lk ds := hsl
  subst ht'
  rw [hv] at hσ
  have hlt' := lt_of_at ht
  obtain ⟨w, e, x⟩ := st.rep i _ ht
  rw [hσ] at e; cases e
  have up : U' p := x.lkLv rfl rfl
  have own' : ∀ b, Own σ' (r'.set i (some s)) b → Own σ' r' b ∨ b = p := fun b ⟨j, t, h1, h2, h3⟩ => by
    rcases at_set h1 with ⟨rfl, e⟩ | ⟨n, h1⟩
    · rw [hσ] at h3; cases h3; exact .inr rfl
    · exact .inl ⟨j, t, h1, h2, h3⟩
  have wsub : ∀ b, Wn (fun a => U' a ∧ a ≠ p) σ' (r'.set i (some s)) b → Wn U' σ' r' b := fun b h => by
    rcases h with h | h
    · rcases own' b h with h | h
      · exact .inl h
      · subst h; exact .inr up
    · exact .inr h.1
  have slot : ∀ (j : Nat) (t : S), (r'.set i (some s))[j]? = some (some t) → t.soft = false → ∃ u, r'[j]? = some (some u) ∧ u.soft = false := fun j t h q => by
    rcases at_set h with ⟨rfl, e⟩ | ⟨n, h⟩
    · exact ⟨_, ht, rfl⟩
    · exact ⟨t, h, q⟩
  have nU : ∀ b, U b → b ≠ p := fun b h z => by subst z; exact s0.dis b ⟨i, s, hi, ho, hv⟩ h
  refine ⟨⟨by rw [List.length_set]; exact st.len, fun j t h => ?_, fun j k t u w h1 q1 h2 q2 e1 e2 => ?_, fun b h z => ?_, fun b h => st.uok b h.1⟩, ⟨fun b h => ⟨a.sub b (.inl h), nU b h⟩, fun b h => ?_, fun b h => ?_, fun b o h n => ?_, a.there, fun j t h1 h2 => ?_, fun j t h1 h2 => ?_⟩, wsub⟩
  · rcases at_set h with ⟨rfl, e⟩ | ⟨n, h⟩
    · cases e
      refine ⟨_, hσ, ?_⟩
      cases x with
      | lk e1 u1 x1 => rcases hs with h | h <;> subst h
                       · exact .ol e1 (x1.less wsub)
                       · exact .br e1 (x1.less wsub)
    · obtain ⟨w, e, y⟩ := st.rep j t h
      refine ⟨w, e, y.less wsub fun q z1 z2 => ⟨y.lkLv z1 z2, fun z => n ?_⟩⟩
      subst z
      have tn : t.soft = false := by cases t <;> first | rfl | cases z1
      exact st.inj j i t _ _ h tn ht rfl e (by rw [hσ, z2])
  · obtain ⟨_, g1, g2⟩ := slot j t h1 q1
    obtain ⟨_, g3, g4⟩ := slot k u h2 q2
    exact st.inj j k _ _ w g1 g2 g3 g4 e1 e2
  · rcases own' b h with h | h
    · exact st.dis b h z.1
    · exact z.2 h
  · rcases a.new b h.1 with (z | z) | z | z
    · exact .inl z
    · exact (h.2 z).elim
    · exact .inr (.inl z)
    · exact .inr (.inr (ownl b z).1)
  · rcases own' b h with h | h
    · rcases a.grow b h with z | z
      · exact .inl (ownl b z).1
      · exact .inr z
    · subst h; exact .inl ⟨i, s, hi, ho, hv⟩
  · exact a.keep b o h fun z => n (ownl b z).1
  · by_cases n : i = j
    · subst n
      rw [hi] at h1; cases h1
      exact ⟨s, List.getElem?_set_self hlt', Sl.refl s, by rw [hσ, hv]⟩
    · obtain ⟨t', g1, g2, g3⟩ := a.pin j t (by rw [List.getElem?_set_ne n]; exact h1) h2
      exact ⟨t', by rw [List.getElem?_set_ne n]; exact g1, g2, g3⟩
  · rcases at_set h1 with ⟨rfl, e⟩ | ⟨n, h1⟩
    · cases e; rcases hs with h | h <;> (subst h; cases h2)
    · obtain ⟨g1, g2⟩ := a.lok j t h1 h2
      rw [List.getElem?_set_ne (fun z => n z.symm)] at g1
      exact ⟨g1, g2⟩
end
end GB
namespace GB
open PySem PySem.Spec PyProof.Rows L2
def lockO (o : Opd) (r : Rho) : Option (S × Rho × List (Nat × S)) := match o with
  | .val (.fz d) => some (.fz d, r, [])
  | .val (.ol ds) => some (.lk ds, r, [])
  | .val _ => none
  | .loc i => match r[i]? with
    | some (some (.fz d)) => some (.fz d, r, [])
    | some (some (.lk ds)) => some (.lk ds, r, [])
    | some (some (.ol ds)) => some (.lk ds, r.set i (some (.lk ds)), [(i, .ol ds)])
    | some (some (.br ds)) => some (.lk ds, r.set i (some (.lk ds)), [(i, .br ds)])
    | some (some (.kd o xs ks)) => some (.kd o xs ks, r, [])
    | some (some (.kt o xs ks)) => some (.kt o xs ks, r, [])
    | _ => none
def lockAll : List Opd → Rho → Option (List S × Rho × List (Nat × S))
  | [], r => some ([], r, [])
  | o :: os, r => match lockO o r with
    | some (s, r1, u1) => (match lockAll os r1 with | some (ss, r2, u2) => some (s :: ss, r2, u1 ++ u2) | none => none)
    | none => none
def unlR : List (Nat × S) → Rho → Rho
  | [], r => r
  | (i, s) :: u, r => (unlR u r).set i (some s)
def mapFl (f : Rho → Rho) : Fl → Fl
  | .nx r => .nx (f r) | .rt s r => .rt s (f r) | .bk r => .bk (f r) | .ct r => .ct (f r) | .ex c fs r => .ex c fs (f r) | .st => .st
section
variable {C : Ct} {U U' : Addr → Prop} {H H' : Hp} {σ σ' : St} {r r' : Rho}
/-- the way back from a locked state -/
def Back (C : Ct) (U : Addr → Prop) (H : Hp) (σ : St) (r : Rho) (U2 : Addr → Prop) (r2 : Rho) (u : List (Nat × S)) : Prop :=
  ∀ U' H' σ' r', Sit C U' H' σ' r' → Aft U2 H σ r2 U' H' σ' r' → ∃ U'', Sit C U'' H' σ' (unlR u r') ∧ Aft U H σ r U'' H' σ' (unlR u r') ∧ (∀ a, Wn U'' σ' (unlR u r') a → Wn U' σ' r' a) ∧ (∀ a, U' a → U'' a ∨ U2 a)
theorem Back.nil : Back C U H σ r U r [] := fun U' H' σ' r' s a => ⟨U', s, a, fun _ h => h, fun _ h => .inl h⟩
theorem lock1 {o : Opd} {v : V} {s : S} {r1 : Rho} {u : List (Nat × S)} (st : Sit C U H σ r) (k : OpOk C U H σ r o v) (h : lockO o r = some (s, r1, u)) :
    ∃ U1, Sit C U1 H σ r1 ∧ (∀ a, U a → U1 a) ∧ (∀ a, Wn U1 σ r1 a → Wn U σ r a) ∧ Per r r1 ∧ (∀ a, Own σ r1 a → Own σ r a) ∧ SR C.K U1 (Wn U1 σ r1) H v s ∧ s.own = false ∧ Back C U H σ r U1 r1 u := by
  have same : ∀ {s : S}, SR C.K U (Wn U σ r) H v s → s.own = false → r1 = r → u = [] → ∃ U1, Sit C U1 H σ r1 ∧ (∀ a, U a → U1 a) ∧ (∀ a, Wn U1 σ r1 a → Wn U σ r a) ∧ Per r r1 ∧ (∀ a, Own σ r1 a → Own σ r a) ∧ SR C.K U1 (Wn U1 σ r1) H v s ∧ s.own = false ∧ Back C U H σ r U1 r1 u := fun x n e1 e2 => by
    subst e1; subst e2
    exact ⟨U, st, fun _ h => h, fun _ h => h, Per.refl, fun _ h => h, x, n, Back.nil⟩
  cases o with
  | val t =>
    obtain ⟨x, hu, hh⟩ := k
    cases t with
    | fz d => cases h; exact same x rfl rfl rfl
    | ol ds => cases h; cases x with | ol e x => exact same (.lk e (hu _ rfl rfl) x) rfl rfl rfl
    | _ => cases h
  | loc i =>
    obtain ⟨hv, t, ht⟩ := k
    have lock : ∀ ds, (t = .ol ds ∨ t = .br ds) → s = .lk ds → r1 = r.set i (some (.lk ds)) → u = [(i, t)] → ∃ U1, Sit C U1 H σ r1 ∧ (∀ a, U a → U1 a) ∧ (∀ a, Wn U1 σ r1 a → Wn U σ r a) ∧ Per r r1 ∧ (∀ a, Own σ r1 a → Own σ r a) ∧ SR C.K U1 (Wn U1 σ r1) H v s ∧ s.own = false ∧ Back C U H σ r U1 r1 u := fun ds hs e1 e2 e3 => by
      have ho : t.own = true := by rcases hs with h | h <;> (subst h; rfl)
      obtain ⟨w, e, x⟩ := st.rep i t ht
      rw [hv] at e; cases e
      obtain ⟨p, e, l⟩ := x.ownLv ho
      subst e; subst e1; subst e2; subst e3
      obtain ⟨sl, own'⟩ := st.lock ht hs hv
      have hlt := lt_of_at ht
      obtain ⟨w, e, y⟩ := sl.rep i _ (List.getElem?_set_self hlt)
      rw [hv] at e; cases e
      refine ⟨_, sl, fun a h => .inl h, fun a h => ?_, fun j t' h => ?_, fun a h => (own' a h).1, y, rfl, fun U' H' σ' r' s' a' => ?_⟩
      · rcases h with h | h | h
        · exact .inl (own' a h).1
        · exact .inr h
        · subst h; exact .inl ⟨i, t, ht, ho, hv⟩
      · by_cases z : i = j
        · subst z; exact ⟨_, List.getElem?_set_self hlt⟩
        · exact ⟨t', by rw [List.getElem?_set_ne z]; exact h⟩
      · obtain ⟨s2, a2, w2⟩ := st.unlock ht hs hv s' a'
        refine ⟨_, s2, a2, w2, fun a h => ?_⟩
        by_cases z : a = p
        · exact .inr (.inr z)
        · exact .inl ⟨h, z⟩
    unfold lockO at h
    simp only [ht] at h
    cases t with
    | fz d =>
      cases h
      obtain ⟨w, e, x⟩ := st.rep i _ ht
      rw [hv] at e; cases e
      exact same x rfl rfl rfl
    | lk ds =>
      cases h
      obtain ⟨w, e, x⟩ := st.rep i _ ht
      rw [hv] at e; cases e
      exact same x rfl rfl rfl
    | kd _ _ ks =>
      cases h
      obtain ⟨w, e, x⟩ := st.rep i _ ht
      rw [hv] at e; cases e
      exact same x rfl rfl rfl
    | kt _ _ ks =>
      cases h
      obtain ⟨w, e, x⟩ := st.rep i _ ht
      rw [hv] at e; cases e
      exact same x rfl rfl rfl
    | ol ds => cases h; exact lock ds (.inl rfl) rfl rfl rfl
    | br ds => cases h; exact lock ds (.inr rfl) rfl rfl rfl
    | _ => cases h
theorem unlR_append (u1 u2 : List (Nat × S)) (r : Rho) : unlR (u1 ++ u2) r = unlR u1 (unlR u2 r) := by
  induction u1 with
  | nil => rfl
  | cons p u ih => obtain ⟨i, s⟩ := p; show (unlR (u ++ u2) r).set i (some s) = _; rw [ih]; rfl
theorem lock_all : ∀ {os : List Opd} {vs : List V} {ss : List S} {U : Addr → Prop} {r r2 : Rho} {u : List (Nat × S)}, Sit C U H σ r → OpsOk C U H σ r os vs → lockAll os r = some (ss, r2, u) →
    ∃ U2, Sit C U2 H σ r2 ∧ (∀ a, U a → U2 a) ∧ (∀ a, Wn U2 σ r2 a → Wn U σ r a) ∧ Per r r2 ∧ (∀ a, Own σ r2 a → Own σ r a) ∧ SRs C.K U2 (Wn U2 σ r2) H vs ss ∧ (∀ s ∈ ss, s.own = false) ∧ Back C U H σ r U2 r2 u := by
  intro os
  induction os with
  | nil =>
    intro vs ss U r r2 u st k h
    cases k
    cases h
    exact ⟨U, st, fun _ h => h, fun _ h => h, Per.refl, fun _ h => h, .nil, fun s h => by simp at h, Back.nil⟩
  | cons o os ih =>
    intro vs ss U r r2 u st k h
    cases k with
    | @cons _ v _ vs k1 k2 =>
      unfold lockAll at h
      cases e1 : lockO o r with
      | none => simp only [e1] at h; cases h
      | some q =>
        obtain ⟨s, r1, u1⟩ := q
        simp only [e1] at h
        cases e2 : lockAll os r1 with
        | none => simp only [e2] at h; cases h
        | some q =>
          obtain ⟨ss', r3, u2⟩ := q
          simp only [e2] at h
          cases h
          obtain ⟨U1, s1, b1, w1, p1, o1, x1, n1, k1'⟩ := lock1 st k1 e1
          have k2' : OpsOk C U1 H σ r1 os vs := Paired.mapP k2 fun o v q => by
            cases o with
            | loc i => exact ⟨q.1, let ⟨t, h⟩ := q.2; p1 i t h⟩
            | val t => exact ⟨q.1.less w1 fun p z1 z2 => b1 p (q.1.lkLv z1 z2), fun p z1 z2 => b1 p (q.2.1 p z1 z2), q.2.2⟩
          obtain ⟨U2, s2, b2, w2, p2, o2, x2, n2, kb⟩ := ih s1 k2' e2
          refine ⟨U2, s2, fun a h => b2 a (b1 a h), fun a h => w1 a (w2 a h), p1.trans p2, fun a h => o1 a (o2 a h), .cons (x1.less w2 fun p z1 z2 => b2 p (x1.lkLv z1 z2)) x2, fun t ht => ?_, fun U' H' σ' r' s' a' => ?_⟩
          · rcases List.mem_cons.mp ht with z | z
            · rw [z]; exact n1
            · exact n2 t z
          · obtain ⟨U3, s3, a3, w3, m3⟩ := kb U' H' σ' r' s' a'
            obtain ⟨U4, s4, a4, w4, m4⟩ := k1' U3 H' σ' _ s3 a3
            rw [unlR_append]
            refine ⟨U4, s4, a4, fun a h => w3 a (w4 a h), fun a h => ?_⟩
            rcases m3 a h with h | h
            · exact (m4 a h).elim .inl fun z => .inr (b2 a z)
            · exact .inr h
theorem RS.unlocked {U2 : Addr → Prop} {r2 : Rho} {u : List (Nat × S)} {D : Ends} {z : Fl} (s2 : Sit C U2 H σ r2) (ow : ∀ a, Own σ r2 a → Own σ r a) (b : Back C U H σ r U2 r2 u) (h : RS C U H σ r D (mapFl (unlR u) z)) : RS C U2 H σ r2 D z := by
  cases z with
  | nx r' => exact fun σ' H' U' s' a' => let ⟨U3, s3, a3, _⟩ := b U' H' σ' r' s' a'; h σ' H' U3 s3 a3
  | bk r' => exact fun σ' H' U' s' a' => let ⟨U3, s3, a3, _⟩ := b U' H' σ' r' s' a'; h σ' H' U3 s3 a3
  | ct r' => exact fun σ' H' U' s' a' => let ⟨U3, s3, a3, _⟩ := b U' H' σ' r' s' a'; h σ' H' U3 s3 a3
  | rt t r' =>
    intro v σ' H' U' s' a' k n
    obtain ⟨U3, s3, a3, w3, m3⟩ := b U' H' σ' r' s' a'
    refine h v σ' H' U3 s3 a3 ⟨k.1.less w3 (fun p z1 z2 => by have := k.2.2; rw [lkd_hard z1] at this; cases this), fun p z1 z2 => ?_, k.2.2⟩ fun p z1 z2 => (n p z1 z2).elim (fun q => .inl (ow p q)) .inr
    rcases m3 p (k.2.1 p z1 z2) with q | q
    · exact q
    · rcases n p z1 z2 with z | z
      · exact (s2.dis p z q).elim
      · exact ((s2.uok p q).ne z).elim
  | ex c fs r' =>
    intro cls d σ' H' U' s' a' x
    obtain ⟨U3, s3, a3, w3, m3⟩ := b U' H' σ' r' s' a'
    obtain ⟨e, dx, fv, e1, e2, e3, e4, e5⟩ := x
    exact h cls d σ' H' U3 s3 a3 ⟨e, dx, fv, e1, e2, e3, e4, e5.less w3⟩
  | st => exact h
end
def GItem (C : Ct) (J : It) (ds : List D) (vs : List V) (ss : List S) (b : Bool := false) : Prop :=
  ∃ G Y, Walk J ds.length G Y ∧ (∀ U W H, SRs C.K U W H vs ss → G H) ∧
    ∀ (i : Nat) H x H' d U W, ds[i]? = some d → SRs C.K U W H vs ss → (∀ a, W a → Lv H a) → Y i H x H' → (∀ a o, H a = some o → H' a = some o) ∧ RpB b C.K W H' x d
def IterOk (C : Ct) (w : List V → Hp → (It → Hp → Prop) → Prop) (mk : List S → Option (List D)) (b : Bool := false) : Prop :=
  ∀ (vs : List V) (H : Hp) (ss : List S) (ds : List D) (U W : Addr → Prop) (R : It → Hp → Prop), SRs C.K U W H vs ss → (∀ s ∈ ss, s.own = false) → mk ss = some ds → (∀ J, GItem C J ds vs ss b → R J H) → w vs H R
def GI (X : Cx) (C : Ct) (tg iter : Expr) (fa : Rho → Rs (List Opd)) (mk : List S → Option (List D)) (b : Bool := false) : Prop :=
  ∃ w, IterOk C w mk b ∧ PI X tg iter (fun σ H R => tA C fa σ H fun vs H1 => w vs H1 R)
def forL (fg : D → Rho → Option Rho) (f : Rho → Fl) : List D → Rho → Fl
  | [], r => .nx r
  | d :: ds, r => match fg d r with
    | none => .st
    | some r1 => (match f r1 with
      | .nx r2 => forL fg f ds r2
      | .ct r2 => forL fg f ds r2
      | .bk r2 => .nx r2
      | z => z)
def fFor (fa : Rho → Rs (List Opd)) (mk : List S → Option (List D)) (fg : D → Rho → Option Rho) (f : Rho → Fl) : Rho → Fl := fun r => ofR (fa r) fun os r1 => match lockAll os r1 with
  | some (ss, r2, u) => (match mk ss with | some ds => mapFl (unlR u) (forL fg f ds r2) | none => .st)
  | none => .st
theorem SRs.mono {K : PySem.W.Frag} {U W U' W' : Addr → Prop} {H H' : Hp} (m : Mono U W H U' W' H') : ∀ {vs : List V} {ss : List S}, SRs K U W H vs ss → (∀ s ∈ ss, s.own = false) → SRs K U' W' H' vs ss
  | _, _, .nil, _ => .nil
  | _, _, .cons x t, h => .cons (x.mono m fun a o z => by rw [h _ (List.mem_cons_self ..)] at z; cases z) (SRs.mono m t fun s hs => h s (List.mem_cons_of_mem _ hs))
section
variable {X : Cx} {C : Ct} {tg iter : Expr} {body : List Stmt} {f : Rho → Fl} {fg : D → Rho → Option Rho} {fa : Rho → Rs (List Opd)} {mk : List S → Option (List D)} {pos : Pos} {t : List Nat}
theorem tA_stmt {k : List Opd → Rho → Fl} {σ : St} {H : Hp} {Q : List V → Hp → Prop} {D : Ends} {U : Addr → Prop} {r : Rho} (s : Sit C U H σ r) (h : RS C U H σ r D (ofR (fa r) k))
    (hok : ∀ o r' v H' U', Sit C U' H' σ r' → Aft U H σ r U' H' σ r' → Per r r' → OpsOk C U' H' σ r' o v → NewS H o v → RS C U H σ r D (k o r') → Q v H') : tA C fa σ H Q := by
  refine ⟨U, r, s, ?_⟩
  cases e : fa r with
  | ok o r' => rw [e] at h; exact fun v H' U' s' a' p' k' n' => hok o r' v H' U' s' a' p' k' n' h
  | ex c fs r' => rw [e] at h; exact h
  | st => rw [e] at h; exact h
theorem gs_for {b : Bool} (hp : PassesOwn (model X.prog X.w) X.A X.env X.xe) (hc : X.calm = true) (hi : GI X C tg iter fa mk b) (hg : GG X C tg t fg b) (hb : GSs X C body f)
    (hs : ∀ x, foldedSetIterable iter X.env x = pure x := by intro _; rfl) : GS X C (.For tg iter body [] pos) (fFor fa mk fg f) := by
  obtain ⟨w, hw, hi⟩ := hi
  refine weakS (ps_for hp hc hi hg hb hs) fun D σ H h => ?_
  obtain ⟨U, r, s, h⟩ := h
  refine tA_stmt (D := D) s h fun os r1 vs H1 U1 s1 a1 p1 k1 n1 q => ?_
  cases e1 : lockAll os r1 with
  | none => simp only [e1] at q; exact (show False from q).elim
  | some z =>
    obtain ⟨ss, r2, u⟩ := z
    simp only [e1] at q
    cases e2 : mk ss with
    | none => simp only [e2] at q; exact (show False from q).elim
    | some ds =>
      simp only [e2] at q
      obtain ⟨U2, s2, b2, w2, p2, o2, x2, nn, kb⟩ := lock_all s1 k1 e1
      have q2 : RS C U2 H1 σ r2 D (forL fg f ds r2) := RS.unlocked s2 o2 kb (RS.before q a1)
      refine hw vs H1 ss ds U2 _ _ x2 nn e2 fun J ⟨G, Y, wk, hG, hY⟩ => ?_
      refine for_it wk (fun i σ' H' => ∃ U' r', Sit C U' H' σ' r' ∧ Aft U2 H1 σ r2 U' H' σ' r' ∧ RS C U2 H1 σ r2 D (forL fg f (ds.drop i) r')) ⟨U2, r2, s2, Aft.refl, q2⟩ ?_ ?_ ?_
      · rintro i σ' H' _ ⟨U', r', s', a', _⟩
        exact hG U' _ H' (x2.mono (a'.mono s2) nn)
      · rintro i x σ' H' H'' hi ⟨U', r', s', a', q'⟩ y
        have hd : ds[i]? = some ds[i] := List.getElem?_eq_getElem hi
        obtain ⟨kp, xd⟩ := hY i H' x H'' ds[i] U' _ hd (x2.mono (a'.mono s2) nn) s'.wlv y
        obtain ⟨s3, a3⟩ := s'.ext (U' := U') kp (fun _ h => h) (fun _ h => .inl h) fun a h => (s'.uok a h).grow kp
        rw [List.drop_eq_getElem_cons hi] at q'
        refine ⟨U', r', ds[i], s3, xd, ?_⟩
        rw [forL] at q'
        cases e3 : fg ds[i] r' with
        | none => simp only [e3] at q'; exact (show False from q').elim
        | some r3 =>
          simp only [e3] at q'
          intro σ4 U4 s4 a4 _ _
          have a5 := (a'.trans a3).trans a4
          refine ⟨U4, r3, s4, ?_⟩
          cases e4 : f r3 with
          | nx r5 => simp only [e4] at q'; exact fun σ5 H5 U5 s5 a6 => ⟨U5, r5, s5, a5.trans a6, q'⟩
          | ct r5 => simp only [e4] at q'; exact fun σ5 H5 U5 s5 a6 => ⟨U5, r5, s5, a5.trans a6, q'⟩
          | bk r5 => simp only [e4] at q'; exact fun σ5 H5 U5 s5 a6 => q' σ5 H5 U5 s5 (a5.trans a6)
          | rt z r5 => simp only [e4] at q'; exact RS.before q' a5
          | ex c fs r5 => simp only [e4] at q'; exact XWant.before (show XWant C U2 H1 σ r2 c fs r5 from q') a5
          | st => simp only [e4] at q'; exact q'
      · rintro σ' H' ⟨U', r', s', a', q'⟩
        rw [List.drop_length] at q'
        exact q' σ' H' U' s' a'
end
end GB
namespace GB
open PySem PySem.Spec PyProof.Rows L2
def wipeR (r : Rho) : List Nat → Rho
  | [] => r
  | v :: vs => (wipeR r vs).set v none
def restR (r0 r : Rho) : List Nat → Rho
  | [] => r
  | v :: vs => (restR r0 r vs).set v (r0[v]?).join
/-- the block's own slots hold nothing that may be written -/
def softs (r : Rho) (vs : List Nat) : Bool := vs.all fun v => match r[v]? with
  | some none => true
  | some (some (.fz _)) => true
  | _ => false
def cmpL (fg : D → Rho → Option Rho) (ft : Rho → Rs Bool) (fe : Rho → Rs Opd) (vs : List Nat) : List D → Rho → List D → Rs (List D)
  | [], r, acc => .ok acc r
  | d :: ds, r, acc => match fg d r with
    | none => .st
    | some r1 => (match ft r1 with
      | .ok false r2 => cmpL fg ft fe vs ds (wipeR r2 vs) acc
      | .ok true r2 => (match fe r2 with
        | .ok o r3 => (match frz1 o r3 with
          | some (y, r4) => if acc.length < 16777216 then cmpL fg ft fe vs ds (wipeR r4 vs) (acc ++ [y]) else .st
          | none => .st)
        | _ => .st)
      | _ => .st)
def eLc (fa : Rho → Rs (List Opd)) (mk : List S → Option (List D)) (fg : D → Rho → Option Rho) (ft : Rho → Rs Bool) (fe : Rho → Rs Opd) (vs : List Nat) : Rho → Rs Opd := fun r => (fa r).bind fun os r1 => match lockAll os r1 with
  | some (ss, r2, u) => (match mk ss with
    | some ds => if softs r2 vs then
        (match cmpL fg ft fe vs ds (wipeR r2 vs) [] with | .ok acc r3 => .ok (.val (.ol acc)) (unlR u (restR r2 r3 vs)) | _ => .st)
        else .st
    | none => .st)
  | none => .st
section
variable {C : Ct} {U U' : Addr → Prop} {H H' : Hp} {σ σ' : St} {r r' : Rho}
theorem wipe_at {vs : List Nat} {j : Nat} : ∀ {σ : St}, j ∉ vs → (wipe σ vs)[j]? = σ[j]? := by
  induction vs with
  | nil => intro σ _; rfl
  | cons v vs ih =>
    intro σ h
    have h1 : v ≠ j := fun z => h (by simp [z])
    show ((wipe σ vs).set v none)[j]? = _
    rw [List.getElem?_set_ne h1]
    exact ih fun z => h (List.mem_cons_of_mem _ z)
theorem wipeR_at {vs : List Nat} {j : Nat} : ∀ {r : Rho}, j ∉ vs → (wipeR r vs)[j]? = r[j]? := by
  induction vs with
  | nil => intro σ _; rfl
  | cons v vs ih =>
    intro σ h
    have h1 : v ≠ j := fun z => h (by simp [z])
    show ((wipeR σ vs).set v none)[j]? = _
    rw [List.getElem?_set_ne h1]
    exact ih fun z => h (List.mem_cons_of_mem _ z)
theorem wipeR_len {vs : List Nat} {r : Rho} : (wipeR r vs).length = r.length := by
  induction vs with
  | nil => rfl
  | cons v vs ih => show ((wipeR r vs).set v none).length = _; rw [List.length_set, ih]
theorem wipeR_in {vs : List Nat} {j : Nat} {s : S} : ∀ {r : Rho}, (wipeR r vs)[j]? = some (some s) → j ∉ vs ∧ r[j]? = some (some s) := by
  induction vs with
  | nil => intro r h; exact ⟨by simp, h⟩
  | cons v vs ih =>
    intro r h
    rcases at_set (show ((wipeR r vs).set v none)[j]? = _ from h) with ⟨_, e⟩ | ⟨n, h⟩
    · cases e
    · obtain ⟨h1, h2⟩ := ih h
      exact ⟨fun z => (List.mem_cons.mp z).elim n h1, h2⟩
theorem restR_len {vs : List Nat} {r0 r : Rho} : (restR r0 r vs).length = r.length := by
  induction vs with
  | nil => rfl
  | cons v vs ih => show ((restR r0 r vs).set v _).length = _; rw [List.length_set, ih]
theorem restR_in {vs : List Nat} {j : Nat} {s : S} {r0 : Rho} : ∀ {r : Rho}, (restR r0 r vs)[j]? = some (some s) → (j ∈ vs ∧ r0[j]? = some (some s)) ∨ (j ∉ vs ∧ r[j]? = some (some s)) := by
  induction vs with
  | nil => intro r h; exact .inr ⟨by simp, h⟩
  | cons v vs ih =>
    intro r h
    rcases at_set (show ((restR r0 r vs).set v (r0[v]?).join)[j]? = _ from h) with ⟨rfl, e⟩ | ⟨n, h⟩
    · refine .inl ⟨by simp, ?_⟩
      cases q : r0[j]? with
      | none => rw [q] at e; cases e
      | some x => rw [q] at e; rw [e]; rfl
    · rcases ih h with ⟨h1, h2⟩ | ⟨h1, h2⟩
      · exact .inl ⟨List.mem_cons_of_mem _ h1, h2⟩
      · exact .inr ⟨fun z => (List.mem_cons.mp z).elim n h1, h2⟩
theorem restR_at {vs : List Nat} {j : Nat} {r0 : Rho} : ∀ {r : Rho}, j ∉ vs → (restR r0 r vs)[j]? = r[j]? := by
  induction vs with
  | nil => intro r _; rfl
  | cons v vs ih =>
    intro r h
    have h1 : v ≠ j := fun z => h (by simp [z])
    show ((restR r0 r vs).set v _)[j]? = _
    rw [List.getElem?_set_ne h1]
    exact ih fun z => h (List.mem_cons_of_mem _ z)
theorem restR_self {vs : List Nat} {j : Nat} {r0 : Rho} : ∀ {r : Rho}, j ∈ vs → j < r.length → (restR r0 r vs)[j]? = some (r0[j]?).join := by
  induction vs with
  | nil => intro r h; simp at h
  | cons v vs ih =>
    intro r h hl
    show ((restR r0 r vs).set v _)[j]? = _
    by_cases z : v = j
    · subst z; rw [List.getElem?_set_self (by rw [restR_len]; exact hl)]
    · rw [List.getElem?_set_ne z]
      exact ih ((List.mem_cons.mp h).resolve_left fun q => z q.symm) hl
theorem wipe_len' {vs : List Nat} {σ : St} : (wipe σ vs).length = σ.length := wipe_length σ vs
/-- the block's own slots are emptied -/
theorem Sit.wiped {vs : List Nat} (s : Sit C U H σ r) : Sit C U H (wipe σ vs) (wipeR r vs) ∧ (∀ a, Own (wipe σ vs) (wipeR r vs) a → Own σ r a) := by
  have own' : ∀ a, Own (wipe σ vs) (wipeR r vs) a → Own σ r a := fun a ⟨j, t, h1, h2, h3⟩ => by
    obtain ⟨n, h1⟩ := wipeR_in h1
    rw [wipe_at n] at h3
    exact ⟨j, t, h1, h2, h3⟩
  have wsub : ∀ a, Wn U (wipe σ vs) (wipeR r vs) a → Wn U σ r a := fun a h => h.elim (fun z => .inl (own' a z)) .inr
  refine ⟨⟨by rw [wipe_len', wipeR_len]; exact s.len, fun j t h => ?_, fun i j t u v h1 q1 h2 q2 e1 e2 => ?_, fun a h => s.dis a (own' a h), s.uok⟩, own'⟩
  · obtain ⟨n, h⟩ := wipeR_in h
    obtain ⟨v, e, x⟩ := s.rep j t h
    exact ⟨v, by rw [wipe_at n]; exact e, x.less wsub fun p z1 z2 => x.lkLv z1 z2⟩
  · obtain ⟨n1, h1⟩ := wipeR_in h1
    obtain ⟨n2, h2⟩ := wipeR_in h2
    rw [wipe_at n1] at e1
    rw [wipe_at n2] at e2
    exact s.inj i j t u v h1 q1 h2 q2 e1 e2
theorem softs_at {vs : List Nat} (h : softs r vs = true) {j : Nat} (hj : j ∈ vs) {s : S} (e : r[j]? = some (some s)) : ∃ d, s = .fz d := by
  have := List.all_eq_true.mp h j hj
  rw [e] at this
  cases s with
  | fz d => exact ⟨d, rfl⟩
  | _ => cases this
/-- into the block -/
theorem Aft.wiped0 {vs : List Nat} (h : softs r vs = true) : Aft U H σ r U H (wipe σ vs) (wipeR r vs) := by
  refine ⟨fun _ h => h, fun _ h => .inl h, fun a ⟨j, t, h1, h2, h3⟩ => ?_, fun a o h _ => h, fun a o h => ⟨o, h⟩, fun i s h1 h2 => ?_, fun i s h1 h2 => ?_⟩
  · obtain ⟨n, h1⟩ := wipeR_in h1
    rw [wipe_at n] at h3
    exact .inl ⟨j, t, h1, h2, h3⟩
  · have n : i ∉ vs := fun z => by
      obtain ⟨d, rfl⟩ := softs_at h z h1
      cases h2
    exact ⟨s, by rw [wipeR_at n]; exact h1, Sl.refl s, wipe_at n⟩
  · obtain ⟨n, h1⟩ := wipeR_in h1
    exact ⟨h1, wipe_at n⟩
/-- a turn's end -/
theorem Aft.wiped {vs : List Nat} (h : softs r vs = true) (a : Aft U H σ r U' H' σ' r') : Aft U H σ r U' H' (wipe σ' vs) (wipeR r' vs) := by
  refine ⟨a.sub, a.new, fun b ⟨j, t, h1, h2, h3⟩ => ?_, a.keep, a.there, fun i s h1 h2 => ?_, fun i s h1 h2 => ?_⟩
  · obtain ⟨n, h1⟩ := wipeR_in h1
    rw [wipe_at n] at h3
    exact a.grow b ⟨j, t, h1, h2, h3⟩
  · have n : i ∉ vs := fun z => by
      obtain ⟨d, rfl⟩ := softs_at h z h1
      cases h2
    obtain ⟨s', g1, g2, g3⟩ := a.pin i s h1 h2
    exact ⟨s', by rw [wipeR_at n]; exact g1, g2, by rw [wipe_at n]; exact g3⟩
  · obtain ⟨n, h1⟩ := wipeR_in h1
    obtain ⟨g1, g2⟩ := a.lok i s h1 h2
    exact ⟨g1, by rw [wipe_at n]; exact g2⟩
/-- out of the block: what its slots held ahead of it -/
theorem Sit.rested {vs : List Nat} (s0 : Sit C U H σ r) (h : softs r vs = true) (s : Sit C U' H' (wipe σ vs) r') (a : Aft U H σ r U' H' (wipe σ vs) r') (hw : ∀ j ∈ vs, ∀ t, r'[j]? ≠ some (some t)) (hp : Per (wipeR r vs) r') :
    Sit C U' H' σ (restR r r' vs) ∧ Aft U H σ r U' H' σ (restR r r' vs) ∧ Per r (restR r r' vs) ∧ (∀ b, Wn U' σ (restR r r' vs) b → Wn U' (wipe σ vs) r' b) := by
  have own' : ∀ b, Own σ (restR r r' vs) b → Own (wipe σ vs) r' b := fun b ⟨j, t, h1, h2, h3⟩ => by
    rcases restR_in h1 with ⟨m, h1⟩ | ⟨n, h1⟩
    · obtain ⟨d, rfl⟩ := softs_at h m h1
      cases h2
    · exact ⟨j, t, h1, h2, by rw [wipe_at n]; exact h3⟩
  have wsub : ∀ b, Wn U' σ (restR r r' vs) b → Wn U' (wipe σ vs) r' b := fun b z => z.elim (fun z => .inl (own' b z)) .inr
  have hl : σ.length = r'.length := by rw [← s.len, wipe_len']
  refine ⟨⟨by rw [restR_len]; exact hl, fun j t h1 => ?_, fun i j t u v h1 q1 h2 q2 e1 e2 => ?_, fun b z => s.dis b (own' b z), s.uok⟩, ⟨a.sub, a.new, fun b z => a.grow b (own' b z), a.keep, a.there, fun i t h1 h2 => ?_, fun i t h1 h2 => ?_⟩, fun j t h1 => ?_, wsub⟩
  · rcases restR_in h1 with ⟨m, h1⟩ | ⟨n, h1⟩
    · obtain ⟨v, e, x⟩ := s0.rep j t h1
      obtain ⟨d, rfl⟩ := softs_at h m h1
      exact ⟨v, e, (x.mono (a.mono s0) fun _ _ z => by cases z).less wsub fun p z => by cases z⟩
    · obtain ⟨v, e, x⟩ := s.rep j t h1
      rw [wipe_at n] at e
      exact ⟨v, e, x.less wsub fun p z1 z2 => x.lkLv z1 z2⟩
  · rcases restR_in h1 with ⟨m, h1⟩ | ⟨n1, h1⟩
    · obtain ⟨d, rfl⟩ := softs_at h m h1; cases q1
    rcases restR_in h2 with ⟨m, h2⟩ | ⟨n2, h2⟩
    · obtain ⟨d, rfl⟩ := softs_at h m h2; cases q2
    exact s.inj i j t u v h1 q1 h2 q2 (by rw [wipe_at n1]; exact e1) (by rw [wipe_at n2]; exact e2)
  · have n : i ∉ vs := fun z => by
      obtain ⟨d, rfl⟩ := softs_at h z h1
      cases h2
    obtain ⟨s', g1, g2, g3⟩ := a.pin i t h1 h2
    exact ⟨s', by rw [restR_at n]; exact g1, g2, rfl⟩
  · rcases restR_in h1 with ⟨m, h1⟩ | ⟨n, h1⟩
    · obtain ⟨d, rfl⟩ := softs_at h m h1; cases h2
    · obtain ⟨g1, g2⟩ := a.lok i t h1 h2
      exact ⟨g1, rfl⟩
  · by_cases m : j ∈ vs
    · exact ⟨t, by rw [restR_self m (by rw [← hl, s0.len]; exact lt_of_at h1), h1]; rfl⟩
    · obtain ⟨t', q⟩ := hp j t (by rw [wipeR_at m]; exact h1)
      exact ⟨t', by rw [restR_at m]; exact q⟩
/-- an object of the others' is written: nobody sees it -/
theorem Sit.poke {p : Addr} {o : HO} (s0 : Sit C U H σ r) (s : Sit C U' H' σ' r') (a : Aft U H σ r U' H' σ' r') (hp : H p = none) (up : U' p) (ho : ∃ xs, o = .lst xs) :
    Sit C U' (upd H' p o) σ' r' ∧ Aft U H σ r U' (upd H' p o) σ' r' ∧ (∀ {vs : List V} {ds : List D}, Rps C.K (Wn U' σ' r') H' vs ds → Rps C.K (Wn U' σ' r') (upd H' p o) vs ds) := by
  obtain ⟨xs, rfl⟩ := ho
  have m : Mono (fun _ => False) (Wn U' σ' r') H' (fun _ => False) (Wn U' σ' r') (upd H' p (.lst xs)) :=
    ⟨s.wlv, fun b o n h => by rw [upd_ne (fun z => n (by rw [z]; exact .inr up))]; exact h, fun b o n _ => n, fun _ _ z => z.elim, fun _ z => z.elim⟩
  have keep : ∀ b o, b ≠ p → H' b = some o → upd H' p (.lst xs) b = some o := fun b o n h => by rw [upd_ne n]; exact h
  refine ⟨⟨s.len, fun j t h => ?_, s.inj, s.dis, fun b h => ?_⟩, ⟨a.sub, a.new, a.grow, fun b o h n => keep b o (fun z => by rw [z, hp] at h; cases h) (a.keep b o h n), fun b o h => ?_, a.pin, a.lok⟩, fun x => x.mono m⟩
  · obtain ⟨v, e, x⟩ := s.rep j t h
    refine ⟨v, e, ?_⟩
    have own : ∀ b, t.own = true → v = .ref b → b ≠ p := fun b z1 z2 z => by subst z; exact s.dis b ⟨j, t, h, z1, by rw [e, z2]⟩ up
    have lk : ∀ b, t.lkd = true → v = .ref b → b ≠ p := fun b z1 z2 z => by
      subst z
      obtain ⟨g1, g2⟩ := a.lok j t h z1
      obtain ⟨w, e', y⟩ := s0.rep j t g1
      rw [← g2, e] at e'; cases e'
      exact (s0.uok b (y.lkLv z1 z2)).ne hp
    cases x with
    | fz x => exact .fz (x.mono m)
    | ol e1 x => exact .ol (keep _ _ (own _ rfl rfl) e1) (x.mono m)
    | br e1 x => exact .br (keep _ _ (own _ rfl rfl) e1) (x.mono m)
    | lk e1 u x => exact .lk (keep _ _ (lk _ rfl rfl) e1) u (x.mono m)
    | od e1 x => exact .od (keep _ _ (own _ rfl rfl) e1) (x.mono m)
    | bd e1 x => exact .bd (keep _ _ (own _ rfl rfl) e1) (x.mono m)
    | kd e1 x => exact .kd (e1.to fun o h => keep _ _ (fun z => by subst z; exact (s.uok _ up).fzn h) h) (x.mono m)
    | exc e1 x => exact .exc (keep _ _ (fun z => by subst z; exact (s.uok _ up).xd e1) e1) (x.mono m)
    | nd x => exact .nd (x.mono m)
    | nh e1 x => exact .nh (e1.to fun o u h => keep _ _ (fun z => by subst z; exact (s.uok _ up).fzn h) h) (x.mono m)
    | ot e1 x => exact .ot (keep _ _ (own _ rfl rfl) e1) (x.mono m)
    | kt e1 x => exact .kt (e1.to fun o h => keep _ _ (fun z => by subst z; exact (s.uok _ up).fzn h) h) (x.mono m)
    | ky e1 => exact .ky (e1.to m.tup)
  · by_cases z : b = p
    · subst z; exact .inl ⟨xs, upd_same⟩
    · rcases s.uok b h with ⟨y, l⟩ | ⟨y, l⟩ | ⟨y, l⟩
      · exact .inl ⟨y, keep _ _ z l⟩
      · exact .inr (.inl ⟨y, keep _ _ z l⟩)
      · exact .inr (.inr ⟨y, keep _ _ z l⟩)
  · by_cases z : b = p
    · subst z; exact ⟨_, upd_same⟩
    · obtain ⟨o', h'⟩ := a.there b o h
      exact ⟨o', keep _ _ z h'⟩
theorem Sit.cast {C' : Ct} (h : C.K = C'.K) (s : Sit C U H σ r) : Sit C' U H σ r := ⟨s.len, fun i t e => by rw [← h]; exact s.rep i t e, s.inj, s.dis, s.uok⟩
end
end GB
namespace GB
open PySem PySem.Spec PyProof.Rows L2
/-- within a comprehension nothing is raised -/
def Ct.quiet (C : Ct) : Ct := { C with W := fun _ _ _ _ => False }
abbrev GTs (X : Cx) (C : Ct) (ifs : List Expr) (f : Rho → Rs Bool) : Prop := PTs X ifs (tT C f)
def eYes : Rho → Rs Bool := fun r => .ok true r
section
variable {X : Cx} {C : Ct} {e : Expr}
theorem weakTs {ifs : List Expr} {t t' : TT} (h : PTs X ifs t) (k : ∀ σ H Q, t' σ H Q → t σ H Q) : PTs X ifs t' := ⟨fun pins s σ H Q I q => h.run pins s σ H Q I (k σ H Q q)⟩
theorem gts_nil : GTs X C [] eYes := weakTs pts_nil fun σ H Q ⟨U, r, s, h⟩ => h H U s Aft.refl Per.refl
theorem gts_one {c : Expr} {f : Rho → Rs Bool} (h : GT X C c f) : GTs X C [c] f := pts_one h
theorem lc_reading {fa : Rho → Rs (List Opd)} {mk : List S → Option (List D)} {fg : D → Rho → Option Rho} {ft : Rho → Rs Bool} {fe : Rho → Rs Opd} {vs tg : List Nat} {w : List V → Hp → (It → Hp → Prop) → Prop} {bb : Bool} (hw : IterOk C w mk bb) (ht : ∀ j ∈ tg, j ∈ vs)
    {σ : St} {H : Hp} {Q : VK} (h : tE C (eLc fa mk fg ft fe vs) σ H Q) :
    tLc (fun σ H R => tA C fa σ H fun vs H1 => w vs H1 R) (tG C.quiet tg fg bb) (tT C.quiet ft) (tE C.quiet fe) vs σ H Q := by
  obtain ⟨U, r, s, h⟩ := h
  refine tA_then (R := RE C U H σ r Q) s h id (fun _ _ _ z => z) ?_
  intro os r1 zs H1 U1 s1 a1 p1 k1 n1 h1
  cases e1 : lockAll os r1 with
  | none => simp only [e1] at h1; exact (show False from h1).elim
  | some z =>
  obtain ⟨ss, r2, u⟩ := z
  simp only [e1] at h1
  cases e2 : mk ss with
  | none => simp only [e2] at h1; exact (show False from h1).elim
  | some ds =>
  simp only [e2] at h1
  by_cases hsf : softs r2 vs = true
  case neg => rw [if_neg hsf] at h1; exact (show False from h1).elim
  rw [if_pos hsf] at h1
  cases e3 : cmpL fg ft fe vs ds (wipeR r2 vs) [] with
  | st => simp only [e3] at h1; exact (show False from h1).elim
  | ex c fs r' => simp only [e3] at h1; exact (show False from h1).elim
  | ok acc rF =>
  simp only [e3] at h1
  obtain ⟨U2, s2, b2, w2, p2, o2, x2, nn, kb⟩ := lock_all s1 k1 e1
  refine hw zs H1 ss ds U2 _ _ x2 nn e2 fun J ⟨G, Y, wk, hG, hY⟩ => ?_
  intro D hD
  -- a turn's state
  let Pv : Nat → Hp → Prop := fun i H' => ∃ U' r' acc' xs, Sit C U' H' (wipe σ vs) r' ∧ Aft U2 H1 σ r2 U' H' (wipe σ vs) r' ∧ Per (wipeR r2 vs) r' ∧ (∀ j ∈ vs, ∀ t, r'[j]? ≠ some (some t)) ∧
    U' D ∧ H' D = some (.lst xs) ∧ Rps C.K (Wn U' (wipe σ vs) r') H' xs acc' ∧ cmpL fg ft fe vs (ds.drop i) r' acc' = .ok acc rF
  refine lc_it wk Pv ?_ ?_ ?_ ?_
  · obtain ⟨sw, _⟩ := s2.wiped (vs := vs)
    obtain ⟨s3, a3⟩ := own_set hD sw (upd_keep hD) (.inl ⟨[], upd_same⟩)
    refine ⟨_, _, [], [], s3, (Aft.wiped0 hsf).trans a3, Per.refl, fun j hj t z => (wipeR_in z).1 hj, .inr rfl, upd_same, .nil, e3⟩
  · rintro i H' _ ⟨U', r', acc', xs, s', a', _⟩
    exact hG U' _ H' (x2.mono (a'.mono s2) nn)
  · rintro i x H' H'' hi ⟨U', r', acc', xs, s', a', pe', hw', uD, eD, xD, ec⟩ y
    have hd : ds[i]? = some ds[i] := List.getElem?_eq_getElem hi
    obtain ⟨kp, xd⟩ := hY i H' x H'' ds[i] U' _ hd (x2.mono (a'.mono s2) nn) s'.wlv y
    obtain ⟨s3, a3⟩ := s'.ext (U' := U') kp (fun _ h => h) (fun _ h => .inl h) fun a h => (s'.uok a h).grow kp
    rw [List.drop_eq_getElem_cons hi, cmpL] at ec
    refine ⟨U', r', ds[i], (Sit.cast (C := C) (C' := C.quiet) rfl s3), xd, ?_⟩
    cases e4 : fg ds[i] r' with
    | none => simp only [e4] at ec; cases ec
    | some r3 =>
    simp only [e4] at ec
    intro σ4 U4 s4 a4 ⟨p4, l4⟩ o4
    have weq : wipe σ4 vs = wipe σ vs := by
      apply List.ext_getElem?
      intro j
      by_cases hj : j ∈ vs
      · have : ∀ σ : St, j < σ.length → (wipe σ vs)[j]? = some none := fun σ hl => by
          have key : ∀ (us : List Nat), j ∈ us → (wipe σ us)[j]? = some none := by
            intro us
            induction us with
            | nil => intro h; simp at h
            | cons v us ih =>
              intro h
              show ((wipe σ us).set v none)[j]? = _
              by_cases z : v = j
              · subst z; rw [List.getElem?_set_self (by rw [wipe_len']; exact hl)]
              · rw [List.getElem?_set_ne z]; exact ih ((List.mem_cons.mp h).resolve_left fun q => z q.symm)
          exact key vs hj
        by_cases hl : j < σ.length
        · rw [this σ hl, this σ4 (by rw [l4, wipe_len']; exact hl)]
        · rw [List.getElem?_eq_none (by rw [wipe_len', l4, wipe_len']; omega), List.getElem?_eq_none (by rw [wipe_len']; omega)]
      · rw [wipe_at hj, o4 j fun z => hj (ht j z)]
    refine ⟨weq, U4, r3, s4, ?_⟩
    have a5 : Aft U2 H1 σ r2 U4 H'' σ4 r3 := (a'.trans a3).trans a4
    have uD4 : U4 D := a4.sub D uD
    have xD4 : Rps C.K (Wn U4 σ4 r3) H'' xs acc' := (xD.mono (a3.mono s')).mono (a4.mono (Sit.cast (C := C) (C' := C.quiet) rfl s3))
    have turn : ∀ {r5 : Rho} {H5 : Hp} {U5 : Addr → Prop} {acc5 : List GB.D} {xs5 : List V}, Sit C U5 H5 σ4 r5 → Aft U2 H1 σ r2 U5 H5 σ4 r5 → Per r3 r5 → U5 D → H5 D = some (.lst xs5) → Rps C.K (Wn U5 σ4 r5) H5 xs5 acc5 →
        cmpL fg ft fe vs (ds.drop (i + 1)) (wipeR r5 vs) acc5 = .ok acc rF → Pv (i + 1) H5 := fun {r5 H5 U5 acc5 xs5} s5 a5 p5 u5 e5 x5 c5 => by
      obtain ⟨sw, ow⟩ := s5.wiped (vs := vs)
      have aw := Aft.wiped hsf a5
      have wsub : ∀ a, Wn U5 (wipe σ4 vs) (wipeR r5 vs) a → Wn U5 σ4 r5 a := fun a z => z.elim (fun z => .inl (ow a z)) .inr
      rw [weq] at sw aw wsub
      refine ⟨U5, _, acc5, xs5, sw, aw, fun j t hj => ?_, fun j hj t z => (wipeR_in z).1 hj, u5, e5, x5.less wsub, c5⟩
      obtain ⟨n, _⟩ := wipeR_in hj
      obtain ⟨t', q⟩ := pe' j t hj
      obtain ⟨t', q⟩ := p4 j t' q
      obtain ⟨t', q⟩ := p5 j t' q
      exact ⟨t', by rw [wipeR_at n]; exact q⟩
    cases e5 : ft r3 with
    | st => simp only [e5] at ec; cases ec
    | ex c fs r' => simp only [e5] at ec; cases ec
    | ok b r5 =>
    simp only [e5] at ec
    intro H6 U6 s6 a6 p6
    have s6' : Sit C U6 H6 σ4 r5 := Sit.cast (C := C.quiet) (C' := C) rfl s6
    have s4' : Sit C U4 H'' σ4 r3 := Sit.cast (C := C.quiet) (C' := C) rfl s4
    have kD : ∀ {U7 : Addr → Prop} {H7 : Hp} {σ7 : St} {r7 : Rho} {xs : List V}, H'' D = some (.lst xs) → Aft U4 H'' σ4 r3 U7 H7 σ7 r7 → H7 D = some (.lst xs) := fun h a => a.keep D _ h fun z => s4.dis D z uD4
    have eD'' : H'' D = some (.lst xs) := kp D _ eD
    cases b with
    | false =>
      simp only [] at ec
      rw [if_neg Bool.false_ne_true]
      exact turn s6' (a5.trans a6) p6 (a6.sub D uD4) (kD eD'' a6) (xD4.mono (a6.mono s4')) ec
    | true =>
      simp only [] at ec
      rw [if_pos rfl]
      refine ⟨U6, r5, s6, ?_⟩
      cases e6 : fe r5 with
      | st => simp only [e6] at ec; cases ec
      | ex c fs r' => simp only [e6] at ec; cases ec
      | ok o r6 =>
      simp only [e6] at ec
      intro yv H7 U7 s7 a7 p7 k7 n7
      have s7' : Sit C U7 H7 σ4 r6 := Sit.cast (C := C.quiet) (C' := C) rfl s7
      have k7' : OpOk C U7 H7 σ4 r6 o yv := k7
      obtain ⟨U8, s8, a8, u8, k8⟩ := op1_drop s6' s7' a7 k7' n7
      cases e7 : frz1 o r6 with
      | none => simp only [e7] at ec; cases ec
      | some z =>
      obtain ⟨y, r8⟩ := z
      simp only [e7] at ec
      by_cases hz : acc'.length < 16777216
      case neg => rw [if_neg hz] at ec; cases ec
      rw [if_pos hz] at ec
      obtain ⟨s9, a9, p9, x9⟩ := frz1_ok s8 k8 e7
      have a10 : Aft U4 H'' σ4 r3 U8 H7 σ4 r8 := (a6.trans a8).trans a9
      have uD8 : U8 D := a10.sub D uD4
      have eD7 : H7 D = some (.lst xs) := kD eD'' a10
      have xD9 : Rps C.K (Wn U8 σ4 r8) H7 xs acc' := xD4.mono (a10.mono s4')
      refine ⟨xs, eD7, by rw [sizeLine_eq, xD9.len]; exact hz, ?_⟩
      obtain ⟨s11, a11, carry⟩ := s2.poke s9 (a5.trans a10) hD uD8 ⟨xs ++ [yv], rfl⟩
      have app : ∀ {xs : List V} {ds : List GB.D}, Rps C.K (Wn U8 σ4 r8) H7 xs ds → Rps C.K (Wn U8 σ4 r8) H7 (xs ++ [yv]) (ds ++ [y]) := by
        intro xs ds q
        induction xs generalizing ds with
        | nil => cases q; exact .cons x9 .nil
        | cons a xs ih => cases q with | cons q1 q2 => exact .cons q1 (ih q2)
      exact turn s11 a11 ((p6.trans p7).trans p9) uD8 upd_same (carry (app xD9)) ec
  · rintro H' ⟨U', r', acc', xs, s', a', pe', hw', uD, eD, xD, ec⟩
    rw [List.drop_length, cmpL] at ec
    cases ec
    obtain ⟨s3, a3, p3, w3⟩ := s2.rested hsf s' a' hw' pe'
    obtain ⟨U4, s4, a4, w4, m4⟩ := kb U' H' σ _ s3 a3
    have nD : ¬ U2 D := fun z => (s2.uok D z).ne hD
    refine h1 (.ref D) H' U4 s4 (a1.trans a4) ?_ ⟨.ol eD ((xD.less w3).less w4), fun p _ z => ?_, rfl⟩ fun t p z1 z2 z3 => ?_
    · intro j t hj
      obtain ⟨t', q⟩ := p1 j t hj
      obtain ⟨t', q⟩ := p2 j t' q
      obtain ⟨t', q⟩ := p3 j t' q
      have key : ∀ (u : List (Nat × S)) (r : Rho) (t : S), r[j]? = some (some t) → ∃ t', (unlR u r)[j]? = some (some t') := by
        intro u
        induction u with
        | nil => exact fun r t h => ⟨t, h⟩
        | cons q u ih =>
          intro r t h
          obtain ⟨k, s⟩ := q
          obtain ⟨t', h'⟩ := ih r t h
          show ∃ t', ((unlR u r).set k (some s))[j]? = some (some t')
          by_cases z : k = j
          · subst z; exact ⟨s, List.getElem?_set_self (lt_of_at h')⟩
          · exact ⟨t', by rw [List.getElem?_set_ne z]; exact h'⟩
      exact key u _ t' q
    · cases z
      exact (m4 D uD).resolve_right nD
    · cases z3; exact a1.back hD
theorem ge_lc {b : Bool} {elt tgt iter : Expr} {ifs : List Expr} {scope : Scope} {own : List (Str × Nat)} {pos : Pos} {fa : Rho → Rs (List Opd)} {mk : List S → Option (List D)} {fg : D → Rho → Option Rho} {ft : Rho → Rs Bool} {fe : Rho → Rs Opd} {tg : List Nat} (hc : X.calm = true) (hN : X.N.Nodup) (hi : GI X C tgt iter fa mk b) (ok : BlkOk X.N X.env.scope scope own)
    (ht : ∀ j ∈ tg, j ∈ own.map (·.2))
    (hg : ∀ (s : Shared) (H : Hp) (c : Addr) (cl : List (Str × Addr)) (fp : List Addr), GG (X.blk s H scope (compEnvC scope cl c X.env) fp) C.quiet tgt tg fg b) (hft : ∀ (s : Shared) (H : Hp) (c : Addr) (cl : List (Str × Addr)) (fp : List Addr), GTs (X.blk s H scope (compEnvC scope cl c X.env) fp) C.quiet ifs ft)
    (he : ∀ (s : Shared) (H : Hp) (c : Addr) (cl : List (Str × Addr)) (fp : List Addr), GE (X.blk s H scope (compEnvC scope cl c X.env) fp) C.quiet elt fe) (hs : ∀ x, foldedSetIterable iter X.env x = pure x := by intro _; rfl) :
    GE X C (.ListComp elt [⟨tgt, iter, ifs, 0⟩] scope pos) (eLc fa mk fg ft fe (own.map (·.2))) := by
  obtain ⟨w, hw, hi⟩ := hi
  exact weakE (pe_lc hc hN hi ok hg hft he hs) fun σ H Q h => lc_reading hw ht h
theorem gs_setLc {b : Bool} {i : Nat} {y : Str} {py : Pos} {elt tgt iter : Expr} {ifs : List Expr} {scope : Scope} {own : List (Str × Nat)} {pos spos : Pos} {fa : Rho → Rs (List Opd)} {mk : List S → Option (List D)} {fg : D → Rho → Option Rho} {ft : Rho → Rs Bool} {fe : Rho → Rs Opd} {tg : List Nat} (hc : X.calm = true) (hN : X.N.Nodup)
    (hy : X.N[i]? = some y) (hyl : X.env.scope.names.lookup y = some .local) (hsw : swapsWith (.ListComp elt [⟨tgt, iter, ifs, 0⟩] scope pos) (some (.Name y py)) spos.line X.env = pure true) (hi : GI X C tgt iter fa mk b) (ok : BlkOk X.N X.env.scope scope own)
    (ht : ∀ j ∈ tg, j ∈ own.map (·.2))
    (hg : ∀ (s : Shared) (H : Hp) (c : Addr) (cl : List (Str × Addr)) (fp : List Addr), GG (X.blk s H scope (compEnvC scope cl c X.env) fp) C.quiet tgt tg fg b) (hft : ∀ (s : Shared) (H : Hp) (c : Addr) (cl : List (Str × Addr)) (fp : List Addr), GTs (X.blk s H scope (compEnvC scope cl c X.env) fp) C.quiet ifs ft)
    (he : ∀ (s : Shared) (H : Hp) (c : Addr) (cl : List (Str × Addr)) (fp : List Addr), GE (X.blk s H scope (compEnvC scope cl c X.env) fp) C.quiet elt fe) (hs : ∀ x, foldedSetIterable iter X.env x = pure x := by intro _; rfl) :
    GS X C (.Assign [.Name y py] (.ListComp elt [⟨tgt, iter, ifs, 0⟩] scope pos) spos) (fSet i (eLc fa mk fg ft fe (own.map (·.2)))) := by
  obtain ⟨w, hw, hi⟩ := hi
  refine weakS (ps_setLc hc hN hy hyl hsw hi ok hg hft he hs) fun D σ H h => ?_
  obtain ⟨U, r, s, h⟩ := h
  exact lc_reading hw ht (tE_stmt (k := putS i) s h fun o r' v H' U' s' a' p' k' n' q => put_ok s s' a' k' n' q)
end
end GB
namespace GB
open PySem PySem.Spec PyProof.Rows L2
section
variable {X : Cx} {C : Ct} {a b c e : Expr} {es : List Expr} {fa fb fc fe fo : Rho → Rs Opd} {ft gt : Rho → Rs Bool} {pos : Pos}
/-- the first of two that goes -/
def eAlt (f g : Rho → Rs Opd) : Rho → Rs Opd := fun r => match f r with
  | .st => g r
  | z => z
theorem ge_alt {f g : Rho → Rs Opd} (h : GE X C e f) (h' : GE X C e g) : GE X C e (eAlt f g) := by
  refine weakE (orE h h') fun σ H Q q => ?_
  obtain ⟨U, r, s, q⟩ := q
  unfold eAlt at q
  cases e1 : f r with
  | st => rw [e1] at q; exact .inr ⟨U, r, s, q⟩
  | ok o r' => rw [e1] at q; exact .inl ⟨U, r, s, by rw [e1]; exact q⟩
  | ex c fs r' => rw [e1] at q; exact .inl ⟨U, r, s, by rw [e1]; exact q⟩
def eIf (ft : Rho → Rs Bool) (fa fb : Rho → Rs Opd) : Rho → Rs Opd := fun r => (ft r).bind fun b r1 => if b then fa r1 else fb r1
theorem ge_if (hc : GT X C c ft) (ha : GE X C a fa) (hb : GE X C b fb) : GE X C (.IfExp c a b pos) (eIf ft fa fb) := by
  refine weakE (pe_ifExp hc ha hb) fun σ H Q h => ?_
  obtain ⟨U, r, s, h⟩ := h
  refine tT_then (R := RE C U H σ r Q) s h id (fun _ _ _ z => z) fun b r1 H1 U1 s1 a1 p1 h1 => ?_
  cases b with
  | true => exact ⟨U1, r1, s1, RE.before h1 a1 p1⟩
  | false => exact ⟨U1, r1, s1, RE.before h1 a1 p1⟩
def blOf (o : Opd) (r : Rho) : Option Bool := match res r o with
  | some (.fz (.bl b)) => some b
  | _ => none
def eAnd (fa fb : Rho → Rs Opd) : Rho → Rs Opd := fun r => (fa r).bind fun o r1 => match blOf o r1 with
  | some true => fb r1
  | some false => .ok (.val (.fz (.bl false))) r1
  | none => .st
def eOr (fa fb : Rho → Rs Opd) : Rho → Rs Opd := fun r => (fa r).bind fun o r1 => match blOf o r1 with
  | some true => .ok (.val (.fz (.bl true))) r1
  | some false => fb r1
  | none => .st
def eNot (fa : Rho → Rs Opd) : Rho → Rs Opd := fun r => (fa r).bind fun o r1 => match blOf o r1 with
  | some b => .ok (.val (.fz (.bl (!b)))) r1
  | none => .st
theorem blOf_ok {U : Addr → Prop} {H : Hp} {σ : St} {r : Rho} {o : Opd} {v : V} {k : Bool} (s : Sit C U H σ r) (x : OpOk C U H σ r o v) (h : blOf o r = some k) : v = .bl k := by
  obtain ⟨t, e, y⟩ := x.res s
  unfold blOf at h
  rw [e] at h
  cases y with
  | fz y => cases y <;> first | (cases h; rfl) | cases h
  | _ => cases h
theorem bl_ok {U : Addr → Prop} {H : Hp} {σ : St} {r : Rho} {k : Bool} : OpOk C U H σ r (.val (.fz (.bl k))) (.bl k) := ⟨.fz (.bl k), fun p z => (nomatch z), rfl⟩
theorem bl_new {H : Hp} {d : D} {v : V} : New H (.val (.fz d)) v := fun _ _ z q _ => by cases z; cases q
theorem ge_one {op} (h : GE X C a fa) : GE X C (.BoolOp op [a] pos) fa := pe_one h
theorem ge_and {rest : List Expr} (ha : GE X C a fa) (hb : GE X C (.BoolOp .And (b :: rest) pos) fb) : GE X C (.BoolOp .And (a :: b :: rest) pos) (eAnd fa fb) := by
  refine weakE (pe_and ha hb) fun σ H Q h => ?_
  obtain ⟨U, r, s, h⟩ := h
  refine tE_then (R := RE C U H σ r Q) s h id (fun _ _ _ z => z) fun o r1 v H1 U1 s1 a1 p1 k1 n1 h1 => ?_
  cases e1 : blOf o r1 with
  | none => simp only [e1] at h1; exact (show False from h1).elim
  | some k =>
    refine ⟨k, blOf_ok s1 k1 e1, ?_⟩
    cases k with
    | true => simp only [e1] at h1; exact ⟨U1, r1, s1, RE.before h1 a1 p1⟩
    | false => simp only [e1] at h1; exact h1 _ H1 U1 s1 a1 p1 bl_ok bl_new
/-- one operand and a word's function -/
theorem ge_un {rr : V → Hp → VK → Prop} {p : Pr} (hp : PN C (fun vs H Q => ∃ x, vs = [x] ∧ rr x H Q) p) (h : PE X e (tUn rr (tE C fa))) : GE X C e (eCall p (eCons fa eNil)) := by
  refine weakE h fun σ H Q h => ?_
  obtain ⟨U, r, s, h⟩ := h
  refine tE_then (g := fun o r1 => eP p [o] r1) (R := RE C U H σ r Q) s ?_ id (fun _ _ _ z => z) ?_
  · refine cast ?_ h
    unfold eCall eCons eNil Rs.bind
    cases fa r <;> rfl
  intro o r1 v H1 U1 s1 a1 p1 k1 n1 h1
  obtain ⟨x, e, q⟩ := eP_fin hp s1 a1 p1 (.cons k1 .nil) h1
  cases e
  exact q
/-- a op b op c -/
def eChain (p p' : Pr) (fa fb fc : Rho → Rs Opd) : Rho → Rs Opd := fun r => (fa r).bind fun o1 r1 => (fb r1).bind fun o2 r2 => (eP p [o1, o2] r2).bind fun o3 r3 => match o3 with
  | .val (.fz (.bl true)) => (fc r3).bind fun o4 r4 => eP p' [o2, o4] r4
  | .val (.fz (.bl false)) => .ok (.val (.fz (.bl false))) r3
  | _ => .st
def eMeth (tt : S → Bool) (p : Pr) (fo : Rho → Rs Opd) (fa : Rho → Rs (List Opd)) : Rho → Rs Opd := fun r => (fo r).bind fun o r1 => match res r1 o with
  | some s => if tt s then (fa r1).bind fun os r2 => eP p (o :: os) r2 else .st
  | none => .st
theorem ge_meth {K : PySem.W.Frag} {T : String} {rr : V → List V → Hp → VK → Prop} {tt : S → Bool} {p : Pr} {fa : Rho → Rs (List Opd)} (h : PE X e (tBM K T rr (tE C fo) (tA C fa))) (hT : ∀ U W H v s, SR C.K U W H v s → tt s = true → tyV K T v H)
    (hp : PN C (fun vs H Q => ∃ x xs, vs = x :: xs ∧ rr x xs H Q) p) : GE X C e (eMeth tt p fo fa) := by
  refine weakE h fun σ H Q h => ?_
  obtain ⟨U, r, s, h⟩ := h
  refine tE_then (R := RE C U H σ r Q) s h id (fun _ _ _ z => z) fun o r1 v H1 U1 s1 a1 p1 k1 n1 h1 => ?_
  obtain ⟨t, e, x⟩ := k1.res s1
  simp only [e] at h1
  by_cases ht : tt t = true
  · rw [if_pos ht] at h1
    refine ⟨hT _ _ _ _ _ x ht, ?_⟩
    refine tA_then (R := RE C U H σ r Q) s1 h1 id (fun _ _ _ z => XWant.before z a1) fun os r2 vs H2 U2 s2 a2 p2 k2 n2 h2 => ?_
    obtain ⟨x, xs, e, q⟩ := eP_fin hp s2 (a1.trans a2) (p1.trans p2) (.cons (k1.after a2 s1 p2) k2) h2
    cases e
    exact q
  · rw [if_neg ht] at h1
    exact (show False from h1).elim
theorem ge_meth0 {K : PySem.W.Frag} {T : String} {rr : V → List V → Hp → VK → Prop} {tt : S → Bool} {p : Pr} (h : PE X e (tBM0 K T rr (tE C fo))) (hT : ∀ U W H v s, SR C.K U W H v s → tt s = true → tyV K T v H)
    (hp : PN C (fun vs H Q => ∃ x xs, vs = x :: xs ∧ rr x xs H Q) p) : GE X C e (eMeth tt p fo eNil) := by
  refine weakE h fun σ H Q h => ?_
  obtain ⟨U, r, s, h⟩ := h
  refine tE_then (R := RE C U H σ r Q) s h id (fun _ _ _ z => z) fun o r1 v H1 U1 s1 a1 p1 k1 n1 h1 => ?_
  obtain ⟨t, e, x⟩ := k1.res s1
  simp only [e] at h1
  by_cases ht : tt t = true
  · rw [if_pos ht] at h1
    refine ⟨hT _ _ _ _ _ x ht, ?_⟩
    obtain ⟨x, xs, e, q⟩ := eP_fin hp s1 a1 p1 (.cons k1 .nil) (show RE C U H σ r Q (eP p [o] r1) from h1)
    cases e
    exact q
  · rw [if_neg ht] at h1
    exact (show False from h1).elim
end
section
variable {C : Ct} {U U' : Addr → Prop} {H H' : Hp} {σ σ' : St} {r r' : Rho} {i : Nat} {s s' : S} {p : Addr}
/-- what stands at p is what s' says -/
inductive At (K : PySem.W.Frag) (W : Addr → Prop) (H : Hp) : S → HO → Prop
  | ol {xs : List V} {ds : List D} : Rps K W H xs ds → At K W H (.ol ds) (.lst xs)
  | br {xs : List V} {ds : List D} : Rps K W H xs ds → At K W H (.br ds) (.lst xs)
  | od {xs : List (Key × V)} {ds : List (Key × D)} : KR K W H xs ds → At K W H (.od ds) (.dK xs)
  | bd {xs : List (Key × V)} {ds : List (Key × D)} : KR K W H xs ds → At K W H (.bd ds) (.dK xs)
  | ot {xs : List (List Key × V)} {ds : List (List Key × D)} : KR K W H xs ds → At K W H (.ot ds) (.dT xs)
theorem At.own {K : PySem.W.Frag} {W : Addr → Prop} {o : HO} (x : At K W H s o) : s.own = true := by cases x <;> rfl
theorem Sit.write {o : HO} (st : Sit C U H σ r) (hi : r[i]? = some (some s)) (ho : s.own = true) (hv : σ[i]? = some (some (V.ref p))) (x : At C.K (Wn U σ r) H s' o) (hl : s.hard = true → Sl s s') :
    Sit C U (upd H p o) σ (r.set i (some s')) ∧ Aft U H σ r U (upd H p o) σ (r.set i (some s')) ∧ Per r (r.set i (some s')) ∧ (∀ {v d}, Rp C.K (Wn U σ r) H v d → Rp C.K (Wn U σ (r.set i (some s'))) (upd H p o) v d) := by
  have hlt := lt_of_at hi
  have op : Own σ r p := ⟨i, s, hi, ho, hv⟩
  have ho' := x.own
  have own' : ∀ a, Own σ (r.set i (some s')) a → Own σ r a := fun a ⟨j, t, h1, h2, h3⟩ => by
    rcases at_set h1 with ⟨rfl, e⟩ | ⟨n, h1⟩
    · exact ⟨j, s, hi, ho, h3⟩
    · exact ⟨j, t, h1, h2, h3⟩
  have wsub : ∀ a, Wn U σ (r.set i (some s')) a → Wn U σ r a := fun a z => z.elim (fun z => .inl (own' a z)) .inr
  have keep : ∀ b o', b ≠ p → H b = some o' → upd H p o b = some o' := fun b o' n h => by rw [upd_ne n]; exact h
  have m : Mono (fun _ => False) (Wn U σ r) H (fun _ => False) (Wn U σ (r.set i (some s'))) (upd H p o) :=
    ⟨st.wlv, fun b o' n h => keep b o' (fun z => n (by rw [z]; exact .inl op)) h, fun b o' n h z => n (wsub b z), fun _ _ z => z.elim, fun _ z => z.elim⟩
  have lp : ∃ xs, o = .lst xs ∨ (∃ k, o = .dK k) ∨ ∃ k, o = .dT k := by
    cases x with
    | ol y => exact ⟨_, .inl rfl⟩
    | br y => exact ⟨_, .inl rfl⟩
    | od y => exact ⟨[], .inr (.inl ⟨_, rfl⟩)⟩
    | bd y => exact ⟨[], .inr (.inl ⟨_, rfl⟩)⟩
    | ot y => exact ⟨[], .inr (.inr ⟨_, rfl⟩)⟩
  refine ⟨⟨by rw [List.length_set]; exact st.len, fun j t h => ?_, fun j k t u w h1 q1 h2 q2 e1 e2 => ?_, fun a h => st.dis a (own' a h), fun a h => ?_⟩, ⟨fun _ h => h, fun _ h => .inl h, fun a h => .inl (own' a h), fun a o' h n => keep a o' (fun z => n (by rw [z]; exact op)) h, fun a o' h => ?_, fun j t h1 h2 => ?_, fun j t h1 h2 => ?_⟩, fun j t h => ?_, fun y => y.mono m⟩
  · rcases at_set h with ⟨rfl, e⟩ | ⟨n, h⟩
    · cases e
      refine ⟨_, hv, ?_⟩
      cases x with
      | ol y => exact .ol upd_same (y.mono m)
      | br y => exact .br upd_same (y.mono m)
      | od y => exact .od upd_same (y.mono m)
      | bd y => exact .bd upd_same (y.mono m)
      | ot y => exact .ot upd_same (y.mono m)
    · obtain ⟨w, e, y⟩ := st.rep j t h
      refine ⟨w, e, ?_⟩
      have ne : t.soft = false → ∀ b, w = .ref b → b ≠ p := fun z1 b z2 z => n (by
        subst z
        exact st.inj j i t s _ h z1 hi (soft_of_own ho) (by rw [e, z2]) hv)
      cases y with
      | fz y => exact .fz (y.mono m)
      | ol e1 y => exact .ol (keep _ _ (ne rfl _ rfl) e1) (y.mono m)
      | br e1 y => exact .br (keep _ _ (ne rfl _ rfl) e1) (y.mono m)
      | lk e1 u y => exact .lk (keep _ _ (ne rfl _ rfl) e1) u (y.mono m)
      | od e1 y => exact .od (keep _ _ (ne rfl _ rfl) e1) (y.mono m)
      | bd e1 y => exact .bd (keep _ _ (ne rfl _ rfl) e1) (y.mono m)
      | kd e1 y => exact .kd (e1.to fun o h => keep _ _ (fun z => by subst z; exact (st.wlv _ (.inl op)).fzn h) h) (y.mono m)
      | exc e1 y => exact .exc (keep _ _ (fun z => by subst z; exact (st.wlv _ (.inl op)).xd e1) e1) (y.mono m)
      | nd y => exact .nd (y.mono m)
      | nh e1 y => exact .nh (e1.to fun o u h => keep _ _ (fun z => by subst z; exact (st.wlv _ (.inl op)).fzn h) h) (y.mono m)
      | ot e1 y => exact .ot (keep _ _ (ne rfl _ rfl) e1) (y.mono m)
      | kt e1 y => exact .kt (e1.to fun o h => keep _ _ (fun z => by subst z; exact (st.wlv _ (.inl op)).fzn h) h) (y.mono m)
      | ky e1 => exact .ky (e1.to m.tup)
  · have slot : ∀ (j : Nat) (t : S), (r.set i (some s'))[j]? = some (some t) → t.soft = false → ∃ u, r[j]? = some (some u) ∧ u.soft = false := fun j t h q => by
      rcases at_set h with ⟨rfl, e⟩ | ⟨n, h⟩
      · exact ⟨s, hi, soft_of_own ho⟩
      · exact ⟨t, h, q⟩
    obtain ⟨_, g1, g2⟩ := slot j t h1 q1
    obtain ⟨_, g3, g4⟩ := slot k u h2 q2
    exact st.inj j k _ _ w g1 g2 g3 g4 e1 e2
  · have n : a ≠ p := fun z => by subst z; exact st.dis a op h
    rcases st.uok a h with ⟨y, l⟩ | ⟨y, l⟩ | ⟨y, l⟩
    · exact .inl ⟨y, keep _ _ n l⟩
    · exact .inr (.inl ⟨y, keep _ _ n l⟩)
    · exact .inr (.inr ⟨y, keep _ _ n l⟩)
  · by_cases z : a = p
    · subst z; exact ⟨_, upd_same⟩
    · exact ⟨o', keep _ _ z h⟩
  · by_cases n : i = j
    · subst n
      rw [hi] at h1; cases h1
      exact ⟨s', List.getElem?_set_self hlt, hl h2, rfl⟩
    · exact ⟨t, by rw [List.getElem?_set_ne n]; exact h1, Sl.refl t, rfl⟩
  · rcases at_set h1 with ⟨rfl, e⟩ | ⟨n, h1⟩
    · cases e; cases x <;> cases h2
    · exact ⟨h1, rfl⟩
  · by_cases n : i = j
    · subst n; exact ⟨s', List.getElem?_set_self hlt⟩
    · exact ⟨t, by rw [List.getElem?_set_ne n]; exact h⟩
end
/-- a writing method by its function: what the thing is then, what it gives -/
abbrev Mu := S → List D → Option (S × D)
def MuOk (C : Ct) (rr : V → List V → Hp → VK → Prop) (m : Mu) : Prop :=
  ∀ (U W : Addr → Prop) (H : Hp) (p : Addr) (s s' : S) (vs : List V) (ds : List D) (d : D) (Q : VK), s.own = true → W p → (∀ a, W a → Lv H a) → SR C.K U W H (.ref p) s → Rps C.K W H vs ds → m s ds = some (s', d) →
    (∀ v o, At C.K W H s' o → (s.hard = true → Sl s s') → Rp C.K W H v d → Q v (upd H p o)) → rr (.ref p) vs H Q
def ownAt (r : Rho) (i : Nat) : Option S := match r[i]? with
  | some (some s) => if s.own then some s else none
  | _ => none
def mutP (m : Mu) (i : Nat) (os : List Opd) (r1 : Rho) : Rs Opd := match frzAll os r1 with
  | some (ds, r2) => (match ownAt r2 i with
    | some s => (match m s ds with | some (s', d) => .ok (.val (.fz d)) (r2.set i (some s')) | none => .st)
    | none => .st)
  | none => .st
def eMut (tt : S → Bool) (m : Mu) (i : Nat) (fa : Rho → Rs (List Opd)) : Rho → Rs Opd := fun r => match ownAt r i with
  | some s => if tt s then (fa r).bind (mutP m i) else .st
  | none => .st
section
variable {X : Cx} {C : Ct} {e : Expr} {fa : Rho → Rs (List Opd)}
theorem ownAt_of {r : Rho} {i : Nat} {s : S} (h : ownAt r i = some s) : r[i]? = some (some s) ∧ s.own = true := by
  unfold ownAt at h
  cases e : r[i]? with
  | none => rw [e] at h; cases h
  | some q =>
    cases q with
    | none => rw [e] at h; cases h
    | some t =>
      rw [e] at h
      dsimp only at h
      by_cases ho : t.own = true
      · rw [if_pos ho] at h; cases h; exact ⟨rfl, ho⟩
      · rw [if_neg ho] at h; cases h
theorem mutP_fin {rr : V → List V → Hp → VK → Prop} {m : Mu} (hm : MuOk C rr m) {i : Nat} {U U' : Addr → Prop} {H H' : Hp} {σ : St} {r r' : Rho} {os : List Opd} {vs : List V} {v0 : V} {Q : VK} (hv : σ[i]? = some (some v0)) (s0 : Sit C U H σ r) (s : Sit C U' H' σ r') (a : Aft U H σ r U' H' σ r') (pe : Per r r') (k : OpsOk C U' H' σ r' os vs) (n : NewS H os vs)
    (h : RE C U H σ r Q (mutP m i os r')) : rr v0 vs H' Q := by
  obtain ⟨U2, s2, a2, u2, k2⟩ := ops_drop s0 s a k n
  unfold mutP at h
  cases e1 : frzAll os r' with
  | none => simp only [e1] at h; exact (show False from h).elim
  | some z =>
    obtain ⟨ds, r2⟩ := z
    simp only [e1] at h
    obtain ⟨s3, a3, p3, x3⟩ := frzAll_ok s2 k2 e1
    cases e2 : ownAt r2 i with
    | none => simp only [e2] at h; exact (show False from h).elim
    | some t =>
      simp only [e2] at h
      obtain ⟨g1, g2⟩ := ownAt_of e2
      cases e3 : m t ds with
      | none => simp only [e3] at h; exact (show False from h).elim
      | some z =>
        obtain ⟨t', d⟩ := z
        simp only [e3] at h
        obtain ⟨w, ew, x⟩ := s3.rep i t g1
        rw [hv] at ew; cases ew
        obtain ⟨p, ep, l⟩ := x.ownLv g2
        subst ep
        refine hm U2 _ H' p t t' vs ds d Q g2 (.inl ⟨i, t, g1, g2, hv⟩) s3.wlv x x3 e3 fun v o xo hl xd => ?_
        obtain ⟨s4, a4, p4, c4⟩ := s3.write g1 g2 hv xo hl
        exact h v _ U2 s4 ((a2.trans a3).trans a4) ((pe.trans p3).trans p4) ⟨.fz (c4 xd), fun p z => (nomatch z), rfl⟩ bl_new
theorem ge_mut {K : PySem.W.Frag} {T : String} {rr : V → List V → Hp → VK → Prop} {tt : S → Bool} {m : Mu} {i : Nat} (h : PE X e (tBM K T rr (tVar i) (tA C fa))) (hT : ∀ U W H v s, SR C.K U W H v s → tt s = true → tyV K T v H) (hm : MuOk C rr m) : GE X C e (eMut tt m i fa) := by
  refine weakE h fun σ H Q h => ?_
  obtain ⟨U, r, s, h⟩ := h
  unfold eMut at h
  cases e1 : ownAt r i with
  | none => simp only [e1] at h
  | some t =>
    simp only [e1] at h
    obtain ⟨g1, g2⟩ := ownAt_of e1
    obtain ⟨v, ev, x⟩ := s.rep i t g1
    by_cases ht : tt t = true
    · rw [if_pos ht] at h
      refine ⟨v, ev, hT _ _ _ _ _ x ht, ?_⟩
      exact tA_then (R := RE C U H σ r Q) s h id (fun _ _ _ z => z) fun os r2 vs H2 U2 s2 a2 p2 k2 n2 h2 => mutP_fin hm ev s s2 a2 p2 k2 n2 h2
    · rw [if_neg ht] at h
      exact h.elim
theorem ge_mut0 {K : PySem.W.Frag} {T : String} {rr : V → List V → Hp → VK → Prop} {tt : S → Bool} {m : Mu} {i : Nat} (h : PE X e (tBM0 K T rr (tVar i))) (hT : ∀ U W H v s, SR C.K U W H v s → tt s = true → tyV K T v H) (hm : MuOk C rr m) : GE X C e (eMut tt m i eNil) := by
  refine weakE h fun σ H Q h => ?_
  obtain ⟨U, r, s, h⟩ := h
  unfold eMut at h
  cases e1 : ownAt r i with
  | none => simp only [e1] at h
  | some t =>
    simp only [e1] at h
    obtain ⟨g1, g2⟩ := ownAt_of e1
    obtain ⟨v, ev, x⟩ := s.rep i t g1
    by_cases ht : tt t = true
    · rw [if_pos ht] at h
      exact ⟨v, ev, hT _ _ _ _ _ x ht, mutP_fin hm ev s s Aft.refl Per.refl .nil .nil (show RE C U H σ r Q (mutP m i [] r) from h)⟩
    · rw [if_neg ht] at h
      exact h.elim
end
end GB
namespace GB
open PySem PySem.Spec PyProof.Rows L2
/-- a def's promise where no repr is under way -/
structure FnG (P : Program) (w : World) (K : PySem.W.Frag) (mg : Str → Option Value) (base : Heap) (k : Nat) (f : Addr) (fd : FuncData) (ps : List Str) (sp : Sp) : Prop where
  len : ∀ vs H Q E, sp vs H Q E → vs.length = ps.length
  go : ∀ (A : Around) (l : List Env) (t : Shared) (H : Hp) (args : Args) (us : List Value) (vs : List V) (Q : VK) (E : XK), Room k A → A.guards = some [] → Env0 P w K mg base A l t H →
    BindsTo t fd args (ps.zip us) → Vals vs us → sp vs H Q E → codeAny (model P w) A (.call (.ref f) args) (CR (L2.CX P w) l P w H t Q E) t
def ct0 (K : PySem.W.Frag) (mg : Str → Option Value) : Ct := ⟨K, mg, fun _ _ _ _ => False⟩
section
variable {P : Program} {w : World} {K : PySem.W.Frag} {mg : Str → Option Value} {base : Heap}
theorem FnG.up {j k : Nat} {f : Addr} {fd : FuncData} {ps : List Str} {sp : Sp} (F : FnG P w K mg base j f fd ps sp) (h : j ≤ k) : FnG P w K mg base k f fd ps sp :=
  ⟨F.len, fun A l t H args us vs Q E hr => F.go A l t H args us vs Q E (hr.mono h)⟩
/-- the words behind a body that are told to the caller -/
def outsL : List S → Rho → List S
  | [], _ => []
  | s :: ss, r => (if s.hard then (match r.head? with | some (some t) => t | _ => s) else s) :: outsL ss r.tail
def startR (n : Nat) (ss : List S) : Rho := words ss ++ List.replicate (n - ss.length) none
def runF (n : Nat) (body : Rho → Fl) : Fs := fun ss => match body (startR n ss) with
  | .nx r => .ok (.fz .non) (outsL ss r)
  | .rt s r => .ok s (outsL ss r)
  | .ex c fs r => .ex c fs (outsL ss r)
  | _ => .st
theorem outsL_len : ∀ (ss : List S) (r : Rho), (outsL ss r).length = ss.length
  | [], _ => rfl
  | _ :: ss, r => congrArg (· + 1) (outsL_len ss r.tail)
theorem outsL_at : ∀ {ss : List S} {r : Rho} {k : Nat} {s : S}, ss[k]? = some s → (outsL ss r)[k]? = some (if s.hard then (match r[k]? with | some (some t) => t | _ => s) else s)
  | [], _, _, _, h => by simp at h
  | s :: ss, r, 0, t, h => by
    cases h
    show some _ = some _
    cases r <;> rfl
  | s :: ss, r, k + 1, t, h => by
    have q := outsL_at (r := r.tail) (show ss[k]? = some t from by simpa using h)
    show (outsL ss r.tail)[k]? = _
    rw [q]
    cases r with
    | nil => simp
    | cons a r => simp
/-- at the entry -/
theorem start_sit {C : Ct} {U : Addr → Prop} {H : Hp} {N : List Str} {vs : List V} {ss : List S} (s : Sit C U H (slots vs) (words ss)) (hl : vs.length = ss.length) (hn : vs.length ≤ N.length) :
    Sit C U H (start N vs) (startR N.length ss) ∧ (∀ a, Own (start N vs) (startR N.length ss) a ↔ Own (slots vs) (words ss) a) := by
  have rAt : ∀ (i : Nat) (t : S), (startR N.length ss)[i]? = some (some t) → (words ss)[i]? = some (some t) := fun i t h => by
    unfold startR at h
    by_cases q : i < (words ss).length
    · rw [List.getElem?_append_left q] at h; exact h
    · rw [List.getElem?_append_right (by omega), List.getElem?_replicate] at h
      split at h <;> cases h
  have vAt : ∀ (i : Nat) (v : V), (slots vs)[i]? = some (some v) → (start N vs)[i]? = some (some v) := fun i v h => by
    unfold L2.start
    rw [List.getElem?_append_left (lt_of_at h)]
    exact h
  have back : ∀ (i : Nat) (v : V) (t : S), (words ss)[i]? = some (some t) → (start N vs)[i]? = some (some v) → (slots vs)[i]? = some (some v) := fun i v t ht h => by
    unfold L2.start at h
    rw [List.getElem?_append_left (by simpa [slots, hl] using (show i < (words ss).length from lt_of_at ht))] at h
    exact h
  have own : ∀ a, Own (start N vs) (startR N.length ss) a ↔ Own (slots vs) (words ss) a := fun a => by
    constructor
    · rintro ⟨i, t, h1, h2, h3⟩
      exact ⟨i, t, rAt i t h1, h2, back i _ t (rAt i t h1) h3⟩
    · rintro ⟨i, t, h1, h2, h3⟩
      refine ⟨i, t, ?_, h2, vAt i _ h3⟩
      unfold startR
      rw [List.getElem?_append_left (lt_of_at h1)]
      exact h1
  have wsub : ∀ a, Wn U (start N vs) (startR N.length ss) a → Wn U (slots vs) (words ss) a := fun a z => z.elim (fun z => .inl ((own a).mp z)) .inr
  refine ⟨⟨?_, fun i t h => ?_, fun i j t u v h1 q1 h2 q2 e1 e2 => ?_, fun a h => s.dis a ((own a).mp h), s.uok⟩, own⟩
  · unfold L2.start startR
    simp only [List.length_append, List.length_map, List.length_replicate, words]
    omega
  · obtain ⟨v, e, x⟩ := s.rep i t (rAt i t h)
    exact ⟨v, vAt i v e, x.less wsub fun p z1 z2 => x.lkLv z1 z2⟩
  · exact s.inj i j t u v (rAt i t h1) q1 (rAt j u h2) q2 (back i v t (rAt i t h1) e1) (back j v u (rAt j u h2) e2)
/-- behind the body: the caller's view -/
theorem end_sit {C : Ct} {U U' : Addr → Prop} {H H' : Hp} {N : List Str} {vs : List V} {ss : List S} {σ' : St} {r' : Rho} (s0 : Sit C U H (slots vs) (words ss)) (hl : vs.length = ss.length) (hn : vs.length ≤ N.length) (hh : ∀ s ∈ ss, s.own = true → s.hard = true)
    (s' : Sit C U' H' σ' r') (a' : Aft U H (start N vs) (startR N.length ss) U' H' σ' r') :
    ∃ U'', Sit C U'' H' (slots vs) (words (outsL ss r')) ∧ Aft U H (slots vs) (words ss) U'' H' (slots vs) (words (outsL ss r')) ∧ (∀ a, Wn U'' (slots vs) (words (outsL ss r')) a → Wn U' σ' r' a) ∧
      (∀ a, U' a → U'' a) := by
  obtain ⟨st, own⟩ := start_sit s0 hl hn
  have ownw : ∀ a, Own (slots vs) (words ss) a → Own (start N vs) (startR N.length ss) a := fun a => (own a).mpr
  have sAt : ∀ (i : Nat) (t : S), (words ss)[i]? = some (some t) → (startR N.length ss)[i]? = some (some t) := fun i t h => by
    unfold startR
    rw [List.getElem?_append_left (lt_of_at h)]; exact h
  have vAt : ∀ (i : Nat) (v : V), (slots vs)[i]? = some (some v) → (start N vs)[i]? = some (some v) := fun i v h => by
    unfold L2.start
    rw [List.getElem?_append_left (lt_of_at h)]
    exact h
  -- a word told to the caller: a tied one's own slot, or the argument's own word
  have cases' : ∀ (k : Nat) (t : S), (words (outsL ss r'))[k]? = some (some t) → ∃ s v, ss[k]? = some s ∧ vs[k]? = some v ∧ ((s.hard = true ∧ r'[k]? = some (some t) ∧ Sl s t ∧ σ'[k]? = some (some v)) ∨ (s.hard = false ∧ t = s)) := fun k t h => by
    rw [words_at] at h
    have hk : k < ss.length := by have := lt_of_at h; rw [outsL_len] at this; exact this
    have e : ss[k]? = some ss[k] := List.getElem?_eq_getElem hk
    have ev : vs[k]? = some vs[k] := List.getElem?_eq_getElem (by omega)
    refine ⟨ss[k], vs[k]'(by omega), e, ev, ?_⟩
    rw [outsL_at e] at h
    cases hb : (ss[k]).hard with
    | false => rw [hb] at h; cases h; exact .inr ⟨rfl, rfl⟩
    | true =>
      rw [hb] at h
      obtain ⟨t', g1, g2, g3⟩ := a'.pin k _ (sAt k _ (words_at.mpr e)) hb
      simp only [if_pos, g1] at h
      cases h
      exact .inl ⟨rfl, g1, g2, by rw [g3]; exact vAt k _ (slots_at.mpr ev)⟩
  have owno : ∀ a, Own (slots vs) (words (outsL ss r')) a → Own (slots vs) (words ss) a ∧ Own σ' r' a := fun a ⟨k, t, h1, h2, h3⟩ => by
    obtain ⟨s, v, e1, e2, h⟩ := cases' k t h1
    rw [slots_at] at h3
    rw [e2] at h3; cases h3
    rcases h with ⟨g1, g2, g3, g4⟩ | ⟨g1, g2⟩
    · refine ⟨⟨k, s, words_at.mpr e1, ?_, slots_at.mpr e2⟩, ⟨k, t, g2, h2, g4⟩⟩
      cases s <;> simp [S.hard] at g1 <;> simp [Sl] at g3
      · rfl
      · subst g3; cases h2
      · rfl
      · subst g3; cases h2
    · subst g2
      have := hh _ (List.mem_of_getElem? e1) h2
      rw [g1] at this; cases this
  -- all that the body held and the caller has not: the caller need not know
  refine ⟨fun a => U' a ∨ (Own σ' r' a ∧ ¬ Own (slots vs) (words (outsL ss r')) a ∧ False), ?_⟩
  have wsub : ∀ a, Wn (fun a => U' a ∨ (Own σ' r' a ∧ ¬ Own (slots vs) (words (outsL ss r')) a ∧ False)) (slots vs) (words (outsL ss r')) a → Wn U' σ' r' a := fun a z => by
    rcases z with z | z | z
    · exact .inl (owno a z).2
    · exact .inr z
    · exact z.2.2.elim
  have m : Mono U (Wn U (slots vs) (words ss)) H U' (Wn U' σ' r') H' := by
    have q := a'.mono st
    have e : Wn U (start N vs) (startR N.length ss) = Wn U (slots vs) (words ss) := by
      funext a
      exact propext ⟨fun z => z.elim (fun z => .inl ((own a).mp z)) .inr, fun z => z.elim (fun z => .inl ((own a).mpr z)) .inr⟩
    rw [e] at q
    exact q
  refine ⟨⟨by simp only [slots, words, List.length_map, outsL_len]; exact hl, fun k t h => ?_, fun i j t u v h1 q1 h2 q2 e1 e2 => ?_, fun a h z => ?_, fun a h => ?_⟩, ⟨fun a h => .inl (a'.sub a h), fun a h => ?_, fun a h => .inl (owno a h).1, fun a o h n => a'.keep a o h fun z => n ((own a).mp z), a'.there, fun k s h1 h2 => ?_, fun k t h1 h2 => ?_⟩, wsub, fun a h => .inl h⟩
  · obtain ⟨s, v, e1, e2, h⟩ := cases' k t h
    refine ⟨v, slots_at.mpr e2, ?_⟩
    rcases h with ⟨g1, g2, g3, g4⟩ | ⟨g1, g2⟩
    · obtain ⟨w', e, x⟩ := s'.rep k t g2
      rw [g4] at e; cases e
      exact x.less wsub fun p z1 z2 => .inl (x.lkLv z1 z2)
    · subst g2
      obtain ⟨w', e, x⟩ := s0.rep k t (words_at.mpr e1)
      rw [slots_at] at e
      rw [e2] at e; cases e
      refine (x.mono m fun a o ho _ _ => ?_).less wsub fun p z1 z2 => ?_
      · have := hh _ (List.mem_of_getElem? e1) ho; rw [g1] at this; cases this
      · have := lkd_hard z1; rw [g1] at this; cases this
  · obtain ⟨s1, v1, f1, f2, h⟩ := cases' i t h1
    obtain ⟨s2, v2, f3, f4, h'⟩ := cases' j u h2
    rw [slots_at] at e1 e2
    rw [f2] at e1; cases e1
    rw [f4] at e2; cases e2
    rcases h with ⟨g1, g2, g3, g4⟩ | ⟨g1, g2⟩
    · rcases h' with ⟨g5, g6, g7, g8⟩ | ⟨g5, g6⟩
      · exact s'.inj i j t u _ g2 q1 g6 q2 g4 g8
      · subst g6
        rcases soft_cases q2 with z | z
        · have := hh _ (List.mem_of_getElem? f3) z; rw [g5] at this; cases this
        · have := lkd_hard z; rw [g5] at this; cases this
    · subst g2
      rcases soft_cases q1 with z | z
      · have := hh _ (List.mem_of_getElem? f1) z; rw [g1] at this; cases this
      · have := lkd_hard z; rw [g1] at this; cases this
  · rcases z with z | z
    · exact s'.dis a (owno a h).2 z
    · exact z.2.2
  · rcases h with h | h
    · exact s'.uok a h
    · exact h.2.2.elim
  · rcases h with h | h
    · rcases a'.new a h with z | z | z
      · exact .inl z
      · exact .inr (.inl z)
      · exact .inr (.inr ((own a).mp z))
    · exact h.2.2.elim
  · have e1 := words_at.mp h1
    refine ⟨_, words_at.mpr (outsL_at e1), ?_, rfl⟩
    obtain ⟨t', g1, g2, g3⟩ := a'.pin k s (sAt k s h1) h2
    rw [h2]
    simp only [if_pos, g1]
    exact g2
  · obtain ⟨s, v, e1, e2, h⟩ := cases' k t h1
    rcases h with ⟨g1, g2, g3, g4⟩ | ⟨g1, g2⟩
    · obtain ⟨f1, f2⟩ := a'.lok k t g2 h2
      refine ⟨?_, rfl⟩
      unfold startR at f1
      by_cases q : k < (words ss).length
      · rw [List.getElem?_append_left q] at f1; exact f1
      · exact absurd (by simpa [words] using lt_of_at e1) q
    · subst g2
      have := lkd_hard h2; rw [g1] at this; cases this
end
end GB
namespace GB
open PySem PySem.Spec PyProof.Rows L2
section
variable {P : Program} {w : World} {K : PySem.W.Frag} {mg : Str → Option Value} {base : Heap}
abbrev bodyCx (P : Program) (w : World) (K : PySem.W.Frag) (mg : Str → Option Value) (base : Heap) (N : List Str) (qual : Str) (st : Stmt) (f : Addr) (cdv : Value) (A : Around) (l : List Env) (t : Shared) (H : Hp) (E : XK) : Cx :=
  cxOf (L2.CX P w) P w K mg base N qual (defScope st) f cdv A l t H E
abbrev bodyCt (K : PySem.W.Frag) (mg : Str → Option Value) (E : XK) : Ct := ⟨K, mg, fun cls d _ H => E cls d H⟩
/-- THE RULE for a def: its body's function -/
theorem def_ok {x qual : Str} {st : Stmt} {f : Addr} {fd : FuncData} {N ps : List Str} {k : Nat} {body : Rho → Fl} (F : Fun K x qual st f fd) (Sc : FnScope N ps (defScope st))
    (hb : ∀ (cdv : Value) (A : Around) (l : List Env) (t : Shared) (H : Hp) (E : XK), Room k (A.deeper (envOfC qual (defScope st) t.heap.objs.size f cdv)) → A.guards = some [] → GSs (bodyCx P w K mg base N qual st f cdv A l t H E) (bodyCt K mg E) (defBody st) body) :
    FnG P w K mg base (k + 1) f fd ps (spF (ct0 K mg) ps.length (runF N.length body)) := by
  obtain ⟨oc, od, kV, doc, pm, an, cdv, ct, osl, rfl, lk, hcd⟩ := F.ex
  refine ⟨fun vs H Q E h => h.1, fun A l t H args us vs Q E room gu e0 bnd rel q => ?_⟩
  have hvl := q.1
  have inK : K.In t.heap := e0.mod.kin.keeps fun b o e => (e0.bs b o e).1
  have nolim : t.heap.NoLimit := e0.mod.nolimit.keeps fun b o e => (e0.bs b o e).1
  refine codeAny_call_function room.depth (inK _ _ lk) rfl Sc.co Sc.gen rfl (PySem.W.codeRec_of inK hcd) (bnd _ _ _ _ ?_)
  refine wpAny_newFunctionEnv_cells Sc.kind (fun y hy => ?_) fun env he s1 ic => ?_
  · obtain ⟨n, v⟩ := y
    rcases Sc.par n (List.of_mem_zip hy).1 with z | z
    · exact Or.inl z
    · exact Or.inr ⟨z, PySem.W.cellsFrom_some _ _ _ (.inl z)⟩
  subst he
  refine ⟨nolim.keeps ic.toInCall.keep, codeAny_func ?_⟩
  have I : Inv (bodyCx P w K mg base N qual st f cdv A l t H E) [] (L2.start N vs) H s1 := inv_start Sc room.hd e0 hvl rel ic
  obtain ⟨_, U, ss, hh, sit, q⟩ := q
  have hl : vs.length = ss.length := by have := sit.len; simpa [slots, words] using this
  have hpl : vs.length ≤ N.length := by
    have z := congrArg List.length Sc.pre
    rw [List.length_take] at z
    omega
  obtain ⟨st0, own⟩ := start_sit sit hl hpl
  have fin : ∀ {σ' : St} {H' : Hp} {v : V} {u : Value} {s' : Shared}, Inv (bodyCx P w K mg base N qual st f cdv A l t H E) [] σ' H' s' → RelV v u → Q v H' → CE l P w H t Q u s' :=
    fun {σ' H' v u s'} J r z => ⟨v, H', J.os, J.bare, J.base, J.hok, r, z⟩
  have want : tS (bodyCt K mg E) body { nx := fun _ H' => Q .non H', rt := Q } (L2.start N vs) H := by
    refine ⟨U, startR N.length ss, Sit.cast (C := ct0 K mg) (C' := bodyCt K mg E) rfl st0, ?_⟩
    unfold runF at q
    have val : ∀ {s : S} {v : V} {σ' : St} {H' : Hp} {U' : Addr → Prop} {r' : Rho}, (match (FR.ok s (outsL ss r')) with
        | .ok s outs => ∀ v H' U', Sit (ct0 K mg) U' H' (slots vs) (words outs) → Aft U H (slots vs) (words ss) U' H' (slots vs) (words outs) → OpOk (ct0 K mg) U' H' (slots vs) (words outs) (.val s) v → New H (.val s) v → Q v H'
        | .ex c fs outs => ∀ cls d H' U', Sit (ct0 K mg) U' H' (slots vs) (words outs) → Aft U H (slots vs) (words ss) U' H' (slots vs) (words outs) → XRp (ct0 K mg) (Wn U' (slots vs) (words outs)) c fs cls d H' → E cls d H'
        | .st => False) → Sit (bodyCt K mg E) U' H' σ' r' → Aft U H (L2.start N vs) (startR N.length ss) U' H' σ' r' → OpOk (bodyCt K mg E) U' H' σ' r' (.val s) v → NewO H (L2.start N vs) (startR N.length ss) s v → Q v H' := fun {s v σ' H' U' r'} z s' a' k n => by
      obtain ⟨U2, s2, a2, w2, u2⟩ := end_sit sit hl hpl hh (Sit.cast (C := bodyCt K mg E) (C' := ct0 K mg) rfl s') a'
      refine z v H' U2 s2 a2 ⟨k.1.less w2 (fun p z1 z2 => by have := k.2.2; rw [lkd_hard z1] at this; cases this), fun p z1 z2 => u2 p (k.2.1 p z1 z2), k.2.2⟩ fun t p z1 z2 z3 => ?_
      cases z1
      rcases n p z2 z3 with z | z
      · -- an argument's own thing is not handed back
        have z := (own p).mp z
        obtain ⟨i, t, h1, h2, h3⟩ := z
        have hd := hh t (List.mem_of_getElem? (words_at.mp h1)) h2
        obtain ⟨t', g1, g2, g3⟩ := a'.pin i t (by unfold startR; rw [List.getElem?_append_left (lt_of_at h1)]; exact h1) hd
        have ho : t'.own = true := by
          cases t <;> simp [S.hard] at hd <;> simp [S.own] at h2 <;> simp [Sl] at g2 <;> (obtain ⟨_, rfl⟩ := g2; rfl)
        have e3 : (L2.start N vs)[i]? = some (some (V.ref p)) := by
          unfold L2.start
          rw [List.getElem?_append_left (lt_of_at h3)]; exact h3
        exact (s'.dis p ⟨i, t', g1, ho, by rw [g3]; exact e3⟩ (k.2.1 p z2 z3)).elim
      · exact z
    cases e : body (startR N.length ss) with
    | st => rw [e] at q; exact q
    | bk r' => rw [e] at q; exact (show False from q).elim
    | ct r' => rw [e] at q; exact (show False from q).elim
    | nx r' =>
      rw [e] at q
      exact fun σ' H' U' s' a' => val (s := .fz .non) (v := .non) q s' a' ⟨.fz .non, fun p z => (nomatch z), rfl⟩ fun p z => (nomatch z)
    | rt s r' =>
      rw [e] at q
      exact fun v σ' H' U' s' a' k n => val q s' a' k n
    | ex c fs r' =>
      rw [e] at q
      intro cls d σ' H' U' s' a' x
      obtain ⟨U2, s2, a2, w2, u2⟩ := end_sit sit hl hpl hh (Sit.cast (C := bodyCt K mg E) (C' := ct0 K mg) rfl s') a'
      obtain ⟨b, dx, fv, e1, e2, e3, e4, e5⟩ := x
      exact q cls d H' U2 s2 a2 ⟨b, dx, fv, e1, e2, e3, e4, e5.less w2⟩
  refine wpAny_mono ((hb cdv A l t H E (room.deeper _) gu).run [] s1 (L2.start N vs) H _ I want) (fun fl s' z => ?_) fun e s' z => z
  cases fl with
  | next => obtain ⟨σ', H', J, z⟩ := z; exact fin (v := V.non) (u := Value.none) J rfl z
  | ret u => obtain ⟨v, σ', H', J, r, z⟩ := z; exact fin J r z
  | brk => obtain ⟨_, _, _, z⟩ := z; exact z.elim
  | cont => obtain ⟨_, _, _, z⟩ := z; exact z.elim
end
section
variable {X : Cx} {C : Ct} {k n : Nat} {f : Addr} {fd : FuncData} {ps : List Str} {x : Str} {p pos : Pos} {e : Expr} {es : List Expr} {F : Fs} {fa : Rho → Rs (List Opd)}
theorem spF_cast {C C' : Ct} (h : C.K = C'.K) (h' : C.mg = C'.mg) {n : Nat} {F : Fs} {vs : List V} {H : Hp} {Q : VK} {E : XK} (q : spF C n F vs H Q E) : spF C' n F vs H Q E := by
  obtain ⟨l, U, ss, hh, s, q⟩ := q
  refine ⟨l, U, ss, hh, s.cast h, ?_⟩
  cases e : F ss with
  | st => rw [e] at q; exact q
  | ok s outs =>
    rw [e] at q
    intro v H' U' s' a' k n
    refine q v H' U' (s'.cast h.symm) a' ?_ n
    unfold OpOk at k ⊢
    rw [h]; exact k
  | ex c fs outs =>
    rw [e] at q
    intro cls d H' U' s' a' x
    refine q cls d H' U' (s'.cast h.symm) a' ?_
    unfold XRp at x ⊢
    rw [h, h']; exact x
theorem run_def {pins : List (Addr × Obj)} {σ : St} {H : Hp} {t : Shared} {Q : VK} {us : List Value} {vs : List V} {sp : Sp} {E : XK} {W : WX} (G : FnG X.prog X.w X.K X.mg X.base k f fd ps sp) (hr : Room k X.A) (gu : X.A.guards = some []) (hb : Binds X.K fd ps []) (tk : Takes X W) (hE : ∀ cls d H', E cls d H' → W cls d σ H')
    (I : Inv X pins σ H t) (r : Vals vs us) (h : sp vs H Q E) : wpAny (model X.prog X.w) X.A (call (.ref f) us) (EP X pins σ Q) X.xe t := by
  have le : us.length = ps.length := by rw [← r.length]; exact G.len _ _ _ _ h
  have bnd := hb t us I.kIn (by rw [List.append_nil]; exact le)
  rw [List.append_nil] at bnd
  refine wpAny_call (codeAny_mono (G.go X.A X.stack t H ⟨us, []⟩ us vs Q E hr gu I.env0 bnd r h) fun res t' z => ?_)
  cases res with
  | error ex => exact tk ex t' (XE.of_call I (fun cls d H' q => hE cls d H' q) z)
  | ok fl =>
    cases fl with
    | ret u => exact I.after z
    | next => exact z.elim
    | brk => exact z.elim
    | cont => exact z.elim
/-- f(e, ..) -/
theorem ge_callF (G : FnG X.prog X.w X.K X.mg X.base k f fd ps (spF (ct0 X.K X.mg) n F)) (hr : Room k X.A) (gu : X.A.guards = some []) (hg : Gl X x) (hm : X.mg x = some (.ref f)) (hk : PySem.W.keepIn X.K (.ref f) = true) (hb : Binds X.K fd ps [])
    (tk : Takes X C.W) (ha : GA X C (e :: es) fa) (ar : Ar fa n) (hK : C.K = X.K := by rfl) (hM : C.mg = X.mg := by rfl) (hdb : (x == ("__debug__" : Str)) = false := by decide)
    (he : starEach (e :: es) X.env = (false, eval e X.env) :: starEach es X.env := by rfl) (hpl : (backTo pos (starEach es X.env)).any (·.1) = false := by rfl) : GE X C (.Call (.Name x p) (e :: es) [] pos) (eFn F fa) := by
  refine ⟨fun pins t σ H Q I h => ?_⟩
  have h := fn_reading (E := fun cls d H2 => C.W cls d σ H2) ar (fun _ _ _ z => z) h
  refine wpAny_Call_Name_kw (ld_glob I hg hm ?_ hdb)
  refine PySem.W.callWith_K (h₀ := X.base) I.ok.mod.kin hk (thn (ha.run pos pins t σ H _ I h) fun us t1 ⟨vs, H1, I1, r, q⟩ => ⟨I1.kIn, ?_⟩) he hpl
  have q : spF C n F (vs ++ []) H1 Q (fun cls d H2 => C.W cls d σ H2) := q
  rw [List.append_nil] at q
  exact run_def G hr gu hb tk (fun _ _ _ z => z) I1 r (spF_cast hK hM q)
end
end GB
namespace GB
open PySem PySem.Spec PyProof.Rows L2
theorem scr_of {K : PySem.W.Frag} {H : Hp} {a : Addr} {xs : List V} (hO : Only H) (h : SqL K H a xs) : Scr K H a xs := by
  rcases h with (h | ⟨o, h⟩) | h
  · rcases hO a with z | ⟨_, _, z⟩ <;> (rw [h] at z; cases z)
  · exact .inl ⟨o, h⟩
  · exact .inr h
theorem ints_rps {K : PySem.W.Frag} {W : Addr → Prop} {H : Hp} : ∀ ns : List Int, Rps K W H (ns.map V.int) (ns.map D.int)
  | [] => .nil
  | n :: ns => .cons (.int n) (ints_rps ns)
/-- the law's def, at the heap behind the top -/
theorem law_run {P : Program} {w : World} {K : PySem.W.Frag} {mg mb : Str → Option Value} {k : Nat} {fa a : Addr} {fd : FuncData} {x : Str} {t : Shared} {us : List Value} {ns : List Int} {F : Fs}
    (KX : K.In t.heap) (gl : t.heap.Ns mainGlobals mg) (bl : t.heap.Ns builtinsNs mb) (bb : ∀ y : Str, y ≠ "__name__" → mb y = bootBuiltins y) (nl : t.heap.NoLimit) (ge : t.gens = #[])
    (at' : t.heap.get? a = some { cls := .type "list", data := .seq us.toArray }) (hi : IntsAre us ns) (sz : ns.length ≤ sizeLine) (room : Room k callerA)
    (G : ∀ base : Heap, K.In base → base.Ns mainGlobals mg → FnG P w K mg base k fa fd [x] (spF (ct0 K mg) 1 F)) (bd : ∀ (s : Shared) (u : Value), BindsTo s fd ⟨[u], []⟩ [(x, u)])
    (hF : F [.fz (.scr (ns.map D.int))] = .ok (.fz (.bl true)) [.fz (.scr (ns.map D.int))]) :
    codeAny (model P w) callerA (.call (.ref fa) ⟨[.ref a], []⟩) (fun r s' => r = .ok (.ret (.bool true)) ∧ OldK t.heap s'.heap ∧ s'.os = t.os ∧ AllBare s'.gens) t := by
  have rel := vals_ints hi
  have le := hi.length
  have main : ∀ H : Hp, Only H → SqL K H a (ns.map V.int) → HOk P w H t.heap → (∀ b, H b ≠ none → b = a ∧ K.lookup a = none) → codeAny (model P w) callerA (.call (.ref fa) ⟨[.ref a], []⟩) (fun r s' => r = .ok (.ret (.bool true)) ∧ OldK t.heap s'.heap ∧ s'.os = t.os ∧ AllBare s'.gens) t := by
    intro H only seq hok lone
    have other : ∀ {b : Addr} {o : Obj}, t.heap.get? b = some o → (∀ z : o = { cls := .type "list", data := .seq us.toArray }, b ≠ a) → (hidT t.heap H).get? b = some o := fun {b o} e n => by
      refine hidT_get e ?_
      cases q : H b with
      | none => rfl
      | some u =>
        obtain ⟨z, _⟩ := lone b (by rw [q]; simp)
        have e2 := e
        rw [z, at'] at e2
        exact absurd z (n (Option.some.inj e2).symm)
    have ns' : ∀ {b : Addr} {m : Str → Option Value}, t.heap.Ns b m → (hidT t.heap H).Ns b m := by
      rintro b m ⟨o, es, ep, e, d, r⟩
      refine ⟨o, es, ep, other e (fun z => ?_), d, r⟩
      rw [z] at d; cases d
    have inB : K.In (hidT t.heap H) := fun b o e => by
      refine hidT_get (KX b o e) ?_
      cases q : H b with
      | none => rfl
      | some u =>
        obtain ⟨z1, z2⟩ := lone b (by rw [q]; simp)
        rw [z1, z2] at e; cases e
    have md : Mod K mg (hidT t.heap H) := { kin := inB, glob := ns' gl, blt := ⟨mb, ns' bl, bb⟩, nolimit := let ⟨mc, h1, h2⟩ := nl; ⟨mc, ns' h1, h2⟩ }
    have none_in : ∀ b : Addr, b ∉ frs ([] : List Env) := fun b z => by simp [frs] at z
    have ev : Env0 P w K mg (hidT t.heap H) callerA [] t H := { frames := rfl, mod := md, bs := fun b o e => of_hidT e, bsz := Nat.le_of_eq (hidT_size _ _), funs := trivial, frf := fun b hb => absurd hb (none_in b), hok := hok, bare := .of_eq ge }
    have lvn : ∀ b, ¬ Lv H b := fun b z => by
      rcases only b with q | ⟨_, _, q⟩ <;> (rcases z with ⟨_, z⟩ | ⟨_, z⟩ | ⟨_, z⟩ <;> (rw [q] at z; cases z))
    have sit : Sit (ct0 K mg) (fun _ => False) H (slots [V.ref a]) (words [.fz (.scr (ns.map D.int))]) := by
      have noOwn : ∀ b, ¬ Own (slots [V.ref a]) (words [.fz (.scr (ns.map D.int))]) b := by
        rintro b ⟨i, s, h1, h2, _⟩
        match i, h1 with
        | 0, h1 => cases h1; cases h2
        | i + 1, h1 => simp [words] at h1
      refine ⟨rfl, fun i s h => ?_, fun i j s u v h1 q1 => ?_, fun b h => (noOwn b h).elim, fun b z => z.elim⟩
      · match i, h with
        | 0, h => cases h; exact ⟨_, rfl, .fz (.scr (scr_of only seq) (ints_rps ns))⟩
        | i + 1, h => simp [words] at h
      · match i, h1 with
        | 0, h1 => cases h1; cases q1
        | i + 1, h1 => simp [words] at h1
    have promise : spF (ct0 K mg) 1 F [V.ref a] H (fun v _ => v = .bl true) fun _ _ _ => False := by
      refine ⟨rfl, _, [.fz (.scr (ns.map D.int))], fun s hs ho => ?_, sit, ?_⟩
      · rw [List.mem_singleton.mp hs] at ho; cases ho
      · rw [hF]
        intro v H' U' s' a' k n
        cases k.1 with | fz x => cases x; rfl
    refine codeAny_mono ((G _ inB (ns' gl)).go callerA [] t H ⟨[.ref a], []⟩ [.ref a] [.ref a] _ _ room rfl ev (bd t (.ref a)) (.cons rfl .nil) promise) fun r s' h => ?_
    cases r with
    | error e =>
      obtain ⟨_, _, _, _, _, _, _, _, _, _, _, _, z⟩ := h
      exact z.elim
    | ok fl =>
      cases fl with
      | next => exact h.elim
      | brk => exact h.elim
      | cont => exact h.elim
      | ret u =>
        obtain ⟨v, H', os, bare, un, hok', r', q⟩ := h
        have q : v = .bl true := q
        subst q
        have r' : u = Value.bool true := r'
        refine ⟨by rw [r'], OldK.of_keep fun b o e => ?_, os, bare⟩
        rcases only b with z | ⟨ob, xs, z⟩
        · exact un.keep b o e z (none_in b) (by simp)
        · obtain ⟨e1, _⟩ := hok b _ z
          obtain ⟨e2, _⟩ := hok' b _ (un.frzs b ob _ z)
          rw [e] at e1
          rw [Option.some.inj e1]; exact e2
  cases hk : K.lookup a with
  | some o =>
    have e := KX a o hk
    rw [at'] at e
    have e := Option.some.inj e
    subst e
    refine main (fun _ => none) (fun _ => .inl rfl) (.inr ⟨_, us.toArray, _, hk, rfl, rfl, rfl, ?_, by simpa using rel⟩) (fun b u z => ?_) fun b z => absurd rfl z
    · rw [List.size_toArray, le]; exact sz
    · exact nomatch (show (none : Option HO) = some u from z)
  | none =>
    let H0 : Hp := fun b => if b = a then some (.frz { cls := .type "list", data := .seq us.toArray } (.lst (ns.map V.int))) else none
    have ya : H0 a = some (.frz { cls := .type "list", data := .seq us.toArray } (.lst (ns.map V.int))) := if_pos rfl
    have na : ∀ b, b ≠ a → H0 b = none := fun b h => if_neg h
    refine main H0 (fun b => ?_) (.inl (.inr ⟨_, ya⟩)) (fun b u z => ?_) fun b z => ⟨Classical.byContradiction fun n => z (na b n), hk⟩
    · by_cases hb : b = a
      · subst hb; exact .inr ⟨_, _, ya⟩
      · exact .inl (na b hb)
    · by_cases hb : b = a
      · subst hb
        rw [ya] at z
        have z := Option.some.inj z
        subst z
        exact ⟨at', by rw [List.length_map]; exact sz, us, _, rel, at'⟩
      · rw [na b hb] at z; cases z
/-- the goal that k_head leaves -/
theorem law_walk {l : PySem.W.OpenLaw} {n k : Nat} {q : Program} {loose : List Str} {XP : (Str → Option Value) → Heap → Prop} {YP : World → Heap → Prop} {d : DefRec} {K : Params → PySem.W.Frag} {x : Str} {F : Fs}
    (h1 : l.most = some n) (h2 : n ≤ sizeLine) (h3 : d.params.defaults = []) (room : Room k callerA) (hY : ∀ (w : World) (h : Heap), YP w h → (K w.params).In h)
    (G : ∀ (w : World) (mg : Str → Option Value) (fa : Addr) (h : Heap), (K w.params).In h → h.Ns mainGlobals mg → mg d.name = some (.ref fa) → ∃ fd : FuncData, (∀ (s : Shared) (u : Value), BindsTo s fd ⟨[u], []⟩ [(x, u)]) ∧
        ∀ base : Heap, (K w.params).In base → base.Ns mainGlobals mg → FnG l.prog w (K w.params) mg base k fa fd [x] (spF (ct0 (K w.params) mg) 1 F))
    (hF : ∀ ns : List Int, ns.length ≤ n → F [.fz (.scr (ns.map D.int))] = .ok (.fz (.bl true)) [.fz (.scr (ns.map D.int))]) :
    PySem.W.WalkO q loose XP YP l.row.toRowW d [] (fun f vs => PySem.call f vs) := by
  refine Att.attach_call h1 h3 ?_
  intro w s₀ t mg mb fa o pm cd doc a us ns gr Y _ _ _ hm at' hi le ge
  obtain ⟨fd, bd, H⟩ := G w mg fa t.heap (hY w _ Y) gr.T.g hm
  exact law_run (hY w _ Y) gr.T.g gr.T.b gr.T.builtins gr.T.nolimit ge at' hi (Nat.le_trans le h2) room H bd (hF ns le)
end GB
namespace GB
open PySem PySem.Spec PyProof.Rows L2
def p1 (f : S → Option S) : Pr := fun ss => match ss with | [a] => f a | _ => none
def p2 (f : S → S → Option S) : Pr := fun ss => match ss with | [a, b] => f a b | _ => none
def p3 (f : S → S → S → Option S) : Pr := fun ss => match ss with | [a, b, c] => f a b c | _ => none
section
variable {C : Ct}
theorem pn1 {rr : V → Hp → VK → Prop} {f : S → Option S} (h : ∀ (U W : Addr → Prop) (H : Hp) (x : V) (a s : S) (Q : VK), (∀ a, W a → Lv H a) → SR C.K U W H x a → f a = some s → (∀ v H', Got C.K W H s v H' → Q v H') → rr x H Q) :
    PN C (fun vs H Q => ∃ x, vs = [x] ∧ rr x H Q) (p1 f) := by
  intro U W H vs ss s Q lv hs hp q
  match ss, hs, hp with
  | [a], .cons x .nil, hp => exact ⟨_, rfl, h U W H _ a s Q lv x hp q⟩
theorem pn2 {rr : R2} {f : S → S → Option S} (h : ∀ (U W : Addr → Prop) (H : Hp) (x y : V) (a b s : S) (Q : VK), (∀ a, W a → Lv H a) → SR C.K U W H x a → SR C.K U W H y b → f a b = some s → (∀ v H', Got C.K W H s v H' → Q v H') → rr x y H Q) :
    PN C (fun vs H Q => ∃ x y, vs = [x, y] ∧ rr x y H Q) (p2 f) := by
  intro U W H vs ss s Q lv hs hp q
  match ss, hs, hp with
  | [a, b], .cons x (.cons y .nil), hp => exact ⟨_, _, rfl, h U W H _ _ a b s Q lv x y hp q⟩
/-- a receiver and one argument -/
theorem pnm1 {rr : V → List V → Hp → VK → Prop} {f : S → S → Option S} (h : ∀ (U W : Addr → Prop) (H : Hp) (x y : V) (a b s : S) (Q : VK), (∀ a, W a → Lv H a) → SR C.K U W H x a → SR C.K U W H y b → f a b = some s → (∀ v H', Got C.K W H s v H' → Q v H') → rr x [y] H Q) :
    PN C (fun vs H Q => ∃ x xs, vs = x :: xs ∧ rr x xs H Q) (p2 f) := by
  intro U W H vs ss s Q lv hs hp q
  match ss, hs, hp with
  | [a, b], .cons x (.cons y .nil), hp => exact ⟨_, _, rfl, h U W H _ _ a b s Q lv x y hp q⟩
theorem pnm0 {rr : V → List V → Hp → VK → Prop} {f : S → Option S} (h : ∀ (U W : Addr → Prop) (H : Hp) (x : V) (a s : S) (Q : VK), (∀ a, W a → Lv H a) → SR C.K U W H x a → f a = some s → (∀ v H', Got C.K W H s v H' → Q v H') → rr x [] H Q) :
    PN C (fun vs H Q => ∃ x xs, vs = x :: xs ∧ rr x xs H Q) (p1 f) := by
  intro U W H vs ss s Q lv hs hp q
  match ss, hs, hp with
  | [a], .cons x .nil, hp => exact ⟨_, _, rfl, h U W H _ a s Q lv x hp q⟩
def asL : S → Option (List D)
  | .fz (.lst ds) => some ds | .ol ds => some ds | .br ds => some ds | .lk ds => some ds | _ => none
/-- lists, the script too -/
def asLs : S → Option (List D)
  | .fz (.scr ds) => some ds
  | s => asL s
variable {K : PySem.W.Frag} {U W : Addr → Prop} {H : Hp} {v : V} {s : S}
theorem asL_of (x : SR K U W H v s) {ds : List D} (h : asL s = some ds) : ∃ p xs, v = .ref p ∧ H p = some (.lst xs) ∧ Rps K W H xs ds := by
  cases x with
  | fz x => cases x <;> first | (cases h; done) | (cases h; exact ⟨_, _, rfl, by assumption, by assumption⟩)
  | ol e x => cases h; exact ⟨_, _, rfl, e, x⟩
  | br e x => cases h; exact ⟨_, _, rfl, e, x⟩
  | lk e u x => cases h; exact ⟨_, _, rfl, e, x⟩
  | _ => cases h
theorem asLs_of (x : SR K U W H v s) {ds : List D} (h : asLs s = some ds) : ∃ p xs, v = .ref p ∧ SqL K H p xs ∧ Rps K W H xs ds := by
  by_cases hs : ∃ d, s = .fz (.scr d)
  · obtain ⟨d, rfl⟩ := hs
    cases h
    cases x with | fz x => cases x with | scr e x => exact ⟨_, _, rfl, e.seq, x⟩
  · have h' : asL s = some ds := by
      cases s with
      | fz d => cases d <;> first | exact h | exact absurd ⟨_, rfl⟩ hs
      | _ => exact h
    obtain ⟨p, xs, e1, e2, e3⟩ := asL_of x h'
    exact ⟨p, xs, e1, .of e2, e3⟩
theorem rps_append : ∀ {xs ys : List V} {ds es : List D}, Rps K W H xs ds → Rps K W H ys es → Rps K W H (xs ++ ys) (ds ++ es)
  | _, _, _, _, .nil, h => h
  | _, _, _, _, .cons x t, h => .cons x (rps_append t h)
theorem rps_take : ∀ {xs : List V} {ds : List D} (n : Nat), Rps K W H xs ds → Rps K W H (xs.take n) (ds.take n)
  | _, _, 0, _ => .nil
  | _, _, _ + 1, .nil => .nil
  | _, _, n + 1, .cons x t => .cons x (rps_take n t)
theorem rps_drop : ∀ {xs : List V} {ds : List D} (n : Nat), Rps K W H xs ds → Rps K W H (xs.drop n) (ds.drop n)
  | _, _, 0, h => h
  | _, _, _ + 1, .nil => .nil
  | _, _, n + 1, .cons x t => rps_drop n t
theorem rps_at : ∀ {xs : List V} {ds : List D} {n : Nat} {d : D}, Rps K W H xs ds → ds[n]? = some d → ∃ x, xs[n]? = some x ∧ Rp K W H x d
  | _, _, _, _, .nil, h => by simp at h
  | _, _, 0, _, .cons x t, h => by cases h; exact ⟨_, rfl, x⟩
  | _, _, n + 1, _, .cons x t, h => by
    obtain ⟨y, e, z⟩ := rps_at (n := n) t (by simpa using h)
    exact ⟨y, by simpa using e, z⟩
theorem rps_set : ∀ {xs : List V} {ds : List D} {v : V} {d : D} (n : Nat), Rps K W H xs ds → Rp K W H v d → Rps K W H (xs.set n v) (ds.set n d)
  | _, _, _, _, _, .nil, _ => .nil
  | _, _, _, _, 0, .cons _ t, h => .cons h t
  | _, _, _, _, n + 1, .cons x t, h => .cons x (rps_set n t h)
theorem rps_rep {xs : List V} {ds : List D} (h : Rps K W H xs ds) : ∀ n, Rps K W H (List.replicate n xs).flatten (List.replicate n ds).flatten
  | 0 => .nil
  | n + 1 => by rw [List.replicate_succ, List.replicate_succ]; exact rps_append h (rps_rep h n)
def big (n : Nat) : Bool := decide (n ≤ 16777216)
theorem big_le {n : Nat} (h : big n = true) : n ≤ sizeLine := by rw [sizeLine_eq]; exact of_decide_eq_true h
def fAdd : S → S → Option S
  | .fz (.int i), .fz (.int j) => some (.fz (.int (i + j)))
  | .fz (.str a), .fz (.str b) => if big (a.length + b.length) then some (.fz (.str (a ++ b))) else none
  | .fz (.tup a), .fz (.tup b) => if a.isEmpty then some (.fz (.tup b)) else if big (a.length + b.length) then some (.fz (.tup (a ++ b))) else none
  | a, b => match asL a, asL b with
    | some x, some y => if big (x.length + y.length) then some (.ol (x ++ y)) else none
    | _, _ => none
/-- () + u is u itself -/
def rCat0 (K : PySem.W.Frag) : R2 := fun x y H Q => ∃ a b ys, x = .ref a ∧ y = .ref b ∧ SqT K H a [] ∧ SqT K H b ys ∧ Q (.ref b) H
theorem op_cat0 {X : Cx} : OpR X (binaryOp .Add) (rCat0 X.K) := by
  intro pins s σ H x y v u Q I rx ry h
  obtain ⟨a, b, ys, rfl, rfl, ha, hb, q⟩ := h
  cases rx
  cases ry
  obtain ⟨l1, w1, k1, _⟩ := I.tuple ha
  obtain ⟨l2, w2, k2, _⟩ := I.tuple hb
  cases w1
  obtain ⟨⟨c1, d1, t1, z1⟩, g1, f1, n1, m1⟩ := id k1
  obtain ⟨⟨c2, d2, t2, z2⟩, g2, f2, n2, m2⟩ := id k2
  simp only at f1 m1 f2 m2
  subst f1 m1 f2 m2
  exact concat_meets ⟨_, g1, rfl⟩ ⟨_, g2, rfl⟩ noFill_tuple_add seq_tuple_add PySem.F.slot_tuple_add PySem.F.entry_tuple_add (PySem.F.args_tuple_add_2 _ _) (tuple_addW0 a b _ l2.toArray n1 n2 d1 d2 z1 z2 rfl) ⟨g1, g2, ⟨.ref b, H, I, rfl, q⟩⟩
/-- t + u, t not empty: a new tuple, or t itself -/
def rCatTX (K : PySem.W.Frag) : R2 := fun x y H Q => ∃ a b xs ys, x = .ref a ∧ y = .ref b ∧ SqT K H a xs ∧ SqT K H b ys ∧ xs ≠ [] ∧ xs.length + ys.length ≤ sizeLine ∧
  (ys = [] → Q (.ref a) H) ∧ (ys ≠ [] → ∀ p o, TupO o → H p = none → Q (.ref p) (upd H p (.frz o (.tup (xs ++ ys)))))
theorem op_catTX {X : Cx} : OpR X (binaryOp .Add) (rCatTX X.K) := by
  intro pins s σ H x y v u Q I rx ry h
  obtain ⟨a, b, xs, ys, rfl, rfl, ha, hb, hx, hz, q1, q2⟩ := h
  cases rx
  cases ry
  obtain ⟨its, r1, p1, _⟩ := I.tuple ha
  obtain ⟨its2, r2, p2, _⟩ := I.tuple hb
  refine HT.cat_tup p1 p2 (fun z => hx (r1.nil_iff.mp z)) (fun z => ⟨.ref a, H, I, rfl, q1 (r2.nil_iff.mp z)⟩) (fun z => ?_) (by rw [← r1.length, ← r2.length]; exact hz)
  refine ⟨.ref s.heap.objs.size, _, I.laid (t' := s.toks) (o := .frz _ (.tup (xs ++ ys))) (fun b ob q => Heap.get?_push_of_some _ q) (Nat.le_refl _) ⟨Heap.get?_push_size _ rfl, ?_⟩, rfl, q2 (fun w => z (r2.nil_iff.mpr w)) _ _ ⟨rfl, rfl⟩ (I.hok.fresh (Nat.le_refl _))⟩
  exact ⟨by rw [List.length_append]; exact hz, _, r1.append r2, IsTup.new _ _⟩
def rAddU (K : PySem.W.Frag) : R2 := fun x y H Q => rI0 (fun i j => .int (i + j)) x y H Q ∨ (∃ i j, x = .str i ∧ y = .str j ∧ i.length + j.length ≤ sizeLine ∧ Q (.str (i ++ j)) H) ∨ (rCatTX K x y H Q ∨ rCat0 K x y H Q) ∨ rCat x y H Q
theorem op_addU {X : Cx} : OpR X (binaryOp .Add) (rAddU X.K) := op_add.or (op_add_str.or ((op_catTX.or op_cat0).or op_cat))
theorem str_len (l : List Nat) : (⟨l.toArray⟩ : Str).length = l.length := by simp [Str.length]
theorem str_app (a b : List Nat) : (⟨a.toArray⟩ : Str) ++ ⟨b.toArray⟩ = ⟨(a ++ b).toArray⟩ := by
  show Str.mk _ = _
  simp
theorem pn_add : PN C (fun vs H Q => ∃ x y, vs = [x, y] ∧ rAddU C.K x y H Q) (p2 fAdd) := by
  refine pn2 fun U W H x y a b s Q lv xa xb h q => ?_
  have lists : (match asL a, asL b with
      | some x, some y => if big (x.length + y.length) then some (S.ol (x ++ y)) else none
      | _, _ => none) = some s → rCat x y H Q := fun h => by
    cases e1 : asL a with
    | none => rw [e1] at h; cases h
    | some da =>
      cases e2 : asL b with
      | none => rw [e1, e2] at h; cases h
      | some db =>
        rw [e1, e2] at h
        dsimp only at h
        by_cases hb : big (da.length + db.length) = true
        · rw [if_pos hb] at h; cases h
          obtain ⟨p, xs, rfl, hp, hx⟩ := asL_of xa e1
          obtain ⟨p', ys, rfl, hp', hy⟩ := asL_of xb e2
          refine ⟨p, p', xs, ys, rfl, rfl, hp, hp', by rw [hx.len, hy.len]; exact big_le hb, fun z hz => q _ _ ?_⟩
          exact Got.newL (C := C) lv hz (rps_append hx hy)
        · rw [if_neg hb] at h; cases h
  cases a with
  | fz a =>
    cases a with
    | int i =>
      cases b with
      | fz b =>
        cases b with
        | int j =>
          cases h
          cases xa with | fz xa => cases xa; cases xb with | fz xb => cases xb; exact .inl ⟨i, j, rfl, rfl, q _ _ (.same (.int _))⟩
        | _ => first | exact .inr (.inr (.inr (lists h))) | (cases h)
      | _ => exact .inr (.inr (.inr (lists h)))
    | str l =>
      cases b with
      | fz b =>
        cases b with
        | str m =>
          have h : (if big (l.length + m.length) then some (S.fz (.str (l ++ m))) else none) = some s := h
          by_cases hb : big (l.length + m.length) = true
          · rw [if_pos hb] at h; cases h
            cases xa with | fz xa => cases xa; cases xb with | fz xb => cases xb; exact .inr (.inl ⟨_, _, rfl, rfl, by rw [str_len, str_len]; exact big_le hb, by rw [str_app]; exact q _ _ (.same (.str _))⟩)
          · rw [if_neg hb] at h; cases h
        | _ => first | exact .inr (.inr (.inr (lists h))) | (cases h)
      | _ => exact .inr (.inr (.inr (lists h)))
    | tup l =>
      cases b with
      | fz b =>
        cases b with
        | tup m =>
          have h : (if l.isEmpty = true then some (S.fz (.tup m)) else if big (l.length + m.length) = true then some (S.fz (.tup (l ++ m))) else none) = some s := h
          cases xa with
          | fz xa =>
            cases xa with
            | @tup p xs _ ea ta =>
              cases xb with
              | fz xb =>
                cases xb with
                | @tup p' ys _ eb tb =>
                  by_cases he : l.isEmpty = true
                  · rw [if_pos he] at h; cases h
                    have : l = [] := List.isEmpty_iff.mp he
                    subst this
                    cases ta
                    exact .inr (.inr (.inl (.inr ⟨p, p', ys, rfl, rfl, ea.sq, eb.sq, q _ _ (.same (.tup eb tb))⟩)))
                  · rw [if_neg he] at h
                    by_cases hb : big (l.length + m.length) = true
                    · rw [if_pos hb] at h; cases h
                      refine .inr (.inr (.inl (.inl ⟨p, p', xs, ys, rfl, rfl, ea.sq, eb.sq, fun z => ?_, by rw [ta.len, tb.len]; exact big_le hb, fun z => ?_, fun _ z o ho hz => ?_⟩)))
                      · subst z; cases ta; exact he rfl
                      · subst z; cases tb
                        rw [List.append_nil] at q
                        exact q _ _ (.same (.tup ea ta))
                      · exact q _ _ (Got.newT (C := C) lv hz ho (rps_append ta tb))
                    · rw [if_neg hb] at h; cases h
        | _ => first | exact .inr (.inr (.inr (lists h))) | (cases h)
      | _ => exact .inr (.inr (.inr (lists h)))
    | _ => exact .inr (.inr (.inr (lists h)))
  | _ => exact .inr (.inr (.inr (lists h)))
theorem sr_int {i : Int} (x : SR K U W H v (.fz (.int i))) : v = .int i := by cases x with | fz x => cases x; rfl
theorem sr_str {l : List Nat} (x : SR K U W H v (.fz (.str l))) : v = .str ⟨l.toArray⟩ := by cases x with | fz x => cases x; rfl
theorem sr_bl {b : Bool} (x : SR K U W H v (.fz (.bl b))) : v = .bl b := by cases x with | fz x => cases x; rfl
theorem sr_non (x : SR K U W H v (.fz .non)) : v = .non := by cases x with | fz x => cases x; rfl
/-- two ints: what a function of ints asks -/
def fInts (f : Int → Int → Option S) : S → S → Option S
  | .fz (.int i), .fz (.int j) => f i j
  | _, _ => none
theorem pn_ints {rr : R2} {f : Int → Int → Option S} (h : ∀ (W : Addr → Prop) (H : Hp) (i j : Int) (s : S) (Q : VK), f i j = some s → (∀ v H', Got C.K W H s v H' → Q v H') → rr (.int i) (.int j) H Q) : PN C (fun vs H Q => ∃ x y, vs = [x, y] ∧ rr x y H Q) (p2 (fInts f)) := by
  refine pn2 fun U W H x y a b s Q lv xa xb hf q => ?_
  cases a with
  | fz a =>
    cases a with
    | int i =>
      cases b with
      | fz b =>
        cases b with
        | int j => rw [sr_int xa, sr_int xb]; exact h W H i j s Q hf q
        | _ => cases hf
      | _ => cases hf
    | _ => cases hf
  | _ => cases hf
theorem pn_sub : PN C (fun vs H Q => ∃ x y, vs = [x, y] ∧ rI0 (fun i j => .int (i - j)) x y H Q) (p2 (fInts fun i j => some (.fz (.int (i - j))))) :=
  pn_ints fun W H i j s Q h q => by cases h; exact ⟨i, j, rfl, rfl, q _ _ (.same (.int _))⟩
def fModI (i j : Int) : Option S := if 0 < j then some (.fz (.int (i % j))) else none
theorem pn_mod : PN C (fun vs H Q => ∃ x y, vs = [x, y] ∧ rI (fun _ j => 0 < j) (fun i j => .int (i % j)) x y H Q) (p2 (fInts fModI)) :=
  pn_ints fun W H i j s Q h q => by
    unfold fModI at h
    by_cases z : 0 < j
    · rw [if_pos z] at h; cases h; exact ⟨i, j, rfl, rfl, z, q _ _ (.same (.int _))⟩
    · rw [if_neg z] at h; cases h
def fDivI (i j : Int) : Option S := if 0 < j ∧ j < 1073741824 then some (.fz (.int (i / j))) else none
theorem pn_div : PN C (fun vs H Q => ∃ x y, vs = [x, y] ∧ rI CDiv (fun i j => .int (i / j)) x y H Q) (p2 (fInts fDivI)) :=
  pn_ints fun W H i j s Q h q => by
    unfold fDivI at h
    by_cases z : 0 < j ∧ j < 1073741824
    · rw [if_pos z] at h; cases h; exact ⟨i, j, rfl, rfl, z, q _ _ (.same (.int _))⟩
    · rw [if_neg z] at h; cases h
def fPowI (i j : Int) : Option S := if 0 ≤ j ∧ j ≤ 1000000 ∧ i.natAbs < 2 ^ 64 then some (.fz (.int (i ^ j.toNat))) else none
theorem pn_pow : PN C (fun vs H Q => ∃ x y, vs = [x, y] ∧ rI CPow (fun i j => .int (i ^ j.toNat)) x y H Q) (p2 (fInts fPowI)) :=
  pn_ints fun W H i j s Q h q => by
    unfold fPowI at h
    by_cases z : 0 ≤ j ∧ j ≤ 1000000 ∧ i.natAbs < 2 ^ 64
    · rw [if_pos z] at h; cases h; exact ⟨i, j, rfl, rfl, z, q _ _ (.same (.int _))⟩
    · rw [if_neg z] at h; cases h
/-- ints; a list so many times -/
def fMul : S → S → Option S
  | .fz (.int i), .fz (.int j) => if (-(2 ^ 64) < i ∧ i < 2 ^ 64) ∨ (-(2 ^ 64) < j ∧ j < 2 ^ 64) then some (.fz (.int (i * j))) else none
  | a, .fz (.int k) => (match asL a with
    | some ds => if -(2 ^ 63) ≤ k ∧ k < 2 ^ 63 ∧ ds.length * k.toNat ≤ 16777216 then some (.ol (List.replicate k.toNat ds).flatten) else none
    | none => none)
  | _, _ => none
def rMulU : R2 := fun x y H Q => rI CMul (fun i j => .int (i * j)) x y H Q ∨ rRep x y H Q
theorem op_mulU {X : Cx} : OpR X (binaryOp .Mult) rMulU := op_mul.or op_rep
theorem pn_mul : PN C (fun vs H Q => ∃ x y, vs = [x, y] ∧ rMulU x y H Q) (p2 fMul) := by
  refine pn2 fun U W H x y a b s Q lv xa xb h q => ?_
  cases b with
  | fz b =>
    cases b with
    | int k =>
      rw [sr_int xb]
      by_cases ha : ∃ i, a = .fz (.int i)
      · obtain ⟨i, rfl⟩ := ha
        rw [sr_int xa]
        have h : (if (-(2 ^ 64) < i ∧ i < 2 ^ 64) ∨ (-(2 ^ 64) < k ∧ k < 2 ^ 64) then some (S.fz (.int (i * k))) else none) = some s := h
        by_cases z : (-(2 ^ 64) < i ∧ i < 2 ^ 64) ∨ (-(2 ^ 64) < k ∧ k < 2 ^ 64)
        · rw [if_pos z] at h; cases h; exact .inl ⟨i, k, rfl, rfl, z, q _ _ (.same (.int _))⟩
        · rw [if_neg z] at h; cases h
      · have h : (match asL a with
            | some ds => if -(2 ^ 63) ≤ k ∧ k < 2 ^ 63 ∧ ds.length * k.toNat ≤ 16777216 then some (S.ol (List.replicate k.toNat ds).flatten) else none
            | none => none) = some s := by
          cases a with
          | fz a => cases a <;> first | exact h | exact absurd ⟨_, rfl⟩ ha
          | _ => exact h
        cases e1 : asL a with
        | none => rw [e1] at h; cases h
        | some ds =>
          rw [e1] at h
          dsimp only at h
          by_cases z : -(2 ^ 63) ≤ k ∧ k < 2 ^ 63 ∧ ds.length * k.toNat ≤ 16777216
          · rw [if_pos z] at h; cases h
            obtain ⟨p, xs, rfl, hp, hx⟩ := asL_of xa e1
            refine .inr ⟨p, k, xs, rfl, rfl, hp, z.1, z.2.1, by rw [hx.len, sizeLine_eq]; exact z.2.2, fun l hl => q _ _ ?_⟩
            exact Got.newL (C := C) lv hl (rps_rep hx _)
          · rw [if_neg z] at h; cases h
    | _ => cases a <;> first | cases h | (rename_i d; cases d <;> cases h)
  | _ => cases a <;> first | cases h | (rename_i d; cases d <;> cases h)
def fNeg : S → Option S
  | .fz (.int i) => some (.fz (.int (-i)))
  | _ => none
theorem pn_neg : PN C (fun vs H Q => ∃ x, vs = [x] ∧ rU (fun i => .int (-i)) x H Q) (p1 fNeg) := by
  refine pn1 fun U W H x a s Q lv xa h q => ?_
  cases a with
  | fz a =>
    cases a with
    | int i => cases h; rw [sr_int xa]; exact ⟨i, rfl, q _ _ (.same (.int _))⟩
    | _ => cases h
  | _ => cases h
end
end GB
namespace GB
open PySem PySem.Spec PyProof.Rows L2
section
variable {C : Ct} {K : PySem.W.Frag} {U W : Addr → Prop} {H : Hp} {v : V} {s : S}
mutual
def D.py : D → PyData
  | .non => .none
  | .bl b => .bool b
  | .int i => .int i
  | .str l => .str ⟨l.toArray⟩
  | .tup ds => .tuple (pyAll ds)
  | .lst ds => .list (pyAll ds)
  | .scr ds => .list (pyAll ds)
  | .dic _ _ => .dict []
def pyAll : List D → List PyData
  | [] => []
  | d :: ds => d.py :: pyAll ds
end
mutual
theorem Rp.dp : ∀ {v : V} {d : D}, Rp K W H v d → d.py.hasDict = false → Dp K H v d.py
  | _, _, .non, _ => .non
  | _, _, .bl b, _ => .bl b
  | _, _, .int i, _ => .int i
  | _, _, .str l, _ => .str _
  | _, _, .tup h t, q => .tup h.sq (Rps.dp t (by rw [D.py, PyData.hasDict] at q; exact q))
  | _, _, .lst h n t, q => .lst (.of h) (Rps.dp t (by rw [D.py, PyData.hasDict] at q; exact q))
  | _, _, .scr h t, q => .lst h.seq (Rps.dp t (by rw [D.py, PyData.hasDict] at q; exact q))
  | _, _, .dic _ _ _ _, q => absurd q (by rw [D.py, PyData.hasDict]; exact Bool.noConfusion)
theorem Rps.dp : ∀ {v : List V} {d : List D}, Rps K W H v d → PyData.hasDictAll (pyAll d) = false → DpAll K H v (pyAll d)
  | _, _, .nil, _ => .nil
  | _, _, .cons h t, q => by
    rw [pyAll, PyData.hasDictAll, Bool.or_eq_false_iff] at q
    exact .cons (Rp.dp h q.1) (Rps.dp t q.2)
end
/-- a word as a tree -/
def S.tree : S → Option D
  | .fz d => some d
  | .ol ds => some (.lst ds) | .br ds => some (.lst ds) | .lk ds => some (.lst ds)
  | _ => none
theorem tree_dp (x : SR K U W H v s) {d : D} (h : s.tree = some d) (q : d.py.hasDict = false) : Dp K H v d.py := by
  have ql : ∀ ds, (D.lst ds).py.hasDict = false → PyData.hasDictAll (pyAll ds) = false := fun ds q => by rw [D.py, PyData.hasDict] at q; exact q
  cases x with
  | fz x => cases h; exact x.dp q
  | ol e x => cases h; exact .lst (.of e) (x.dp (ql _ q))
  | br e x => cases h; exact .lst (.of e) (x.dp (ql _ q))
  | lk e u x => cases h; exact .lst (.of e) (x.dp (ql _ q))
  | _ => cases h
/-- equal, as trees; told only where both may be compared -/
def D.same (a b : D) : Bool := PyData.eqv a.py b.py
def D.fit (d : D) : Bool := SeqAt.shaped d.py && !d.py.hasDict
def eqS : S → S → Option Bool
  | .fz (.int i), .fz (.int j) => some (decide (i = j))
  | .fz (.str a), .fz (.str b) => some (decide (a = b))
  | .fz (.bl a), .fz (.bl b) => some (decide (a = b))
  | a, b => match a.tree, b.tree with
    | some x, some y => if x.fit && y.fit then some (x.same y) else none
    | _, _ => none
def rEqU (K : PySem.W.Frag) : R2 := fun x y H Q => rEq x y H Q ∨ rEqD K x y H Q
def rNeU (K : PySem.W.Frag) : R2 := fun x y H Q => rNe x y H Q ∨ rNeD K x y H Q
theorem op_eqU {X : Cx} (hu : X.A.units + 64 < cLine) : OpR X (compareOp .Eq) (rEqU X.K) := op_eq.or (op_eqD hu)
theorem op_neU {X : Cx} (hu : X.A.units + 64 < cLine) : OpR X (compareOp .NotEq) (rNeU X.K) := op_ne.or (op_neD hu)
theorem eqS_of {x y : V} {a b : S} {k : Bool} (xa : SR K U W H x a) (xb : SR K U W H y b) (h : eqS a b = some k) : (scal x y = true ∧ decide (x = y) = k) ∨ ∃ d e, Dp K H x d ∧ Dp K H y e ∧ SeqAt.shaped d = true ∧ SeqAt.shaped e = true ∧ PyData.eqv d e = k := by
  have deep : (match a.tree, b.tree with
      | some x, some y => if (x.fit && y.fit) = true then some (x.same y) else none
      | _, _ => none) = some k → ∃ d e, Dp K H x d ∧ Dp K H y e ∧ SeqAt.shaped d = true ∧ SeqAt.shaped e = true ∧ PyData.eqv d e = k := fun h => by
    cases e1 : a.tree with
    | none => rw [e1] at h; cases h
    | some da =>
      cases e2 : b.tree with
      | none => rw [e1, e2] at h; cases h
      | some db =>
        rw [e1, e2] at h
        dsimp only at h
        by_cases z : (da.fit && db.fit) = true
        · rw [if_pos z] at h; cases h
          rw [Bool.and_eq_true] at z
          have z1 := Bool.and_eq_true_iff.mp (show (SeqAt.shaped da.py && !da.py.hasDict) = true from z.1)
          have z2 := Bool.and_eq_true_iff.mp (show (SeqAt.shaped db.py && !db.py.hasDict) = true from z.2)
          exact ⟨_, _, tree_dp xa e1 (by simpa using z1.2), tree_dp xb e2 (by simpa using z2.2), z1.1, z2.1, rfl⟩
        · rw [if_neg z] at h; cases h
  cases a with
  | fz a =>
    cases a with
    | int i =>
      cases b with
      | fz b =>
        cases b with
        | int j => cases h; rw [sr_int xa, sr_int xb]; exact .inl ⟨rfl, by simp⟩
        | _ => exact .inr (deep h)
      | _ => exact .inr (deep h)
    | str l =>
      cases b with
      | fz b =>
        cases b with
        | str m => cases h; rw [sr_str xa, sr_str xb]; exact .inl ⟨rfl, by simp⟩
        | _ => exact .inr (deep h)
      | _ => exact .inr (deep h)
    | bl l =>
      cases b with
      | fz b =>
        cases b with
        | bl m => cases h; rw [sr_bl xa, sr_bl xb]; exact .inl ⟨rfl, by simp⟩
        | _ => exact .inr (deep h)
      | _ => exact .inr (deep h)
    | _ => exact .inr (deep h)
  | _ => exact .inr (deep h)
def fEq (a b : S) : Option S := (eqS a b).map fun k => .fz (.bl k)
def fNe (a b : S) : Option S := (eqS a b).map fun k => .fz (.bl (!k))
theorem pn_eq : PN C (fun vs H Q => ∃ x y, vs = [x, y] ∧ rEqU C.K x y H Q) (p2 fEq) := by
  refine pn2 fun U W H x y a b s Q lv xa xb h q => ?_
  unfold fEq at h
  cases e : eqS a b with
  | none => rw [e] at h; cases h
  | some k =>
    rw [e] at h; cases h
    have fin := q (.bl k) H (.same (.bl k))
    rcases eqS_of xa xb e with ⟨h1, h2⟩ | ⟨d, e', h1, h2, h3, h4, h5⟩
    · exact .inl ⟨h1, by rw [h2]; exact fin⟩
    · exact .inr ⟨d, e', h1, h2, h3, h4, by rw [h5]; exact fin⟩
theorem pn_ne : PN C (fun vs H Q => ∃ x y, vs = [x, y] ∧ rNeU C.K x y H Q) (p2 fNe) := by
  refine pn2 fun U W H x y a b s Q lv xa xb h q => ?_
  unfold fNe at h
  cases e : eqS a b with
  | none => rw [e] at h; cases h
  | some k =>
    rw [e] at h; cases h
    have fin := q (.bl (!k)) H (.same (.bl (!k)))
    rcases eqS_of xa xb e with ⟨h1, h2⟩ | ⟨d, e', h1, h2, h3, h4, h5⟩
    · exact .inl ⟨h1, by rw [h2]; exact fin⟩
    · exact .inr ⟨d, e', h1, h2, h3, h4, by rw [h5]; exact fin⟩
theorem pn_cmpI (f : Int → Int → Bool) : PN C (fun vs H Q => ∃ x y, vs = [x, y] ∧ rI0 (fun i j => .bl (f i j)) x y H Q) (p2 (fInts fun i j => some (.fz (.bl (f i j))))) :=
  pn_ints fun W H i j s Q h q => by cases h; exact ⟨i, j, rfl, rfl, q _ _ (.same (.bl _))⟩
/-- p stands in l from i on -/
def subAtL (p l : List Nat) (i : Nat) : Bool := decide (i + p.length ≤ l.length) && ((l.drop i).take p.length == p)
/-- the first place where p stands in l -/
def subIx (p l : List Nat) : Option Nat := (List.range (l.length + 1)).find? (subAtL p l)
open Builtin.Str PySem.StrLaws in
theorem occ_after (s sub : Str) (hi : Nat) : ∀ (l : List Nat) (st : Array Nat × Nat), 1 ≤ st.1.size → (forIn l st (occBody s sub hi 1)).run.fst = st.1
  | [], _, _ => rfl
  | a :: l, st, h => by
    rw [List.forIn_cons]
    unfold occBody
    have c : ¬ (((st.fst.size < 1 ∧ st.snd ≤ a) ∧ a + sub.length ≤ hi) ∧ subAt s sub a = true) := fun z => absurd z.1.1.1 (Nat.not_lt.mpr h)
    rw [if_neg c]
    exact occ_after s sub hi l _ h
open Builtin.Str PySem.StrLaws in
theorem occ_first (s sub : Str) (hi : Nat) (P : Nat → Bool) (hP : ∀ i, P i = true ↔ (i + sub.length ≤ hi ∧ subAt s sub i = true)) : ∀ (l : List Nat) (fr : Nat), (∀ i ∈ l, fr ≤ i) →
    (forIn l ((#[] : Array Nat), fr) (occBody s sub hi 1)).run.fst.toList = (l.find? P).toList
  | [], _, _ => rfl
  | a :: l, fr, hf => by
    rw [List.forIn_cons]
    have ha : fr ≤ a := hf a (List.mem_cons_self ..)
    cases hp : P a with
    | true =>
      have z := (hP a).mp hp
      have c1 : (((#[] : Array Nat), fr).fst.size < 1 ∧ ((#[] : Array Nat), fr).snd ≤ a) ∧ a + sub.length ≤ hi := ⟨⟨by simp, ha⟩, z.1⟩
      have e : occBody s sub hi 1 a (#[], fr) = pure (ForInStep.yield (#[a], a + sub.length)) := by
        unfold occBody
        rw [if_pos ⟨c1, z.2⟩]
        rfl
      rw [e]
      show (forIn l (#[a], a + sub.length) (occBody s sub hi 1)).run.fst.toList = _
      rw [occ_after s sub hi l _ (by simp), List.find?_cons_of_pos hp]
      rfl
    | false =>
      have z : ¬ (a + sub.length ≤ hi ∧ subAt s sub a = true) := fun q => by rw [(hP a).mpr q] at hp; cases hp
      have e : occBody s sub hi 1 a (#[], fr) = pure (ForInStep.yield (#[], fr)) := by
        unfold occBody
        rw [if_neg fun q => z ⟨q.1.2, q.2⟩]
      rw [e]
      show (forIn l (#[], fr) (occBody s sub hi 1)).run.fst.toList = _
      rw [occ_first s sub hi P hP l fr (fun i h => hf i (List.mem_cons_of_mem _ h)), List.find?_cons_of_neg (by simp [hp])]
theorem occ_subIx (l p : List Nat) : Builtin.Str.occurrences ⟨l.toArray⟩ ⟨p.toArray⟩ 0 (⟨l.toArray⟩ : Str).length 1 = (subIx p l).toList := by
  rw [PySem.StrLaws.occ_eq, occ_first _ _ _ (subAtL p l) (fun i => ?_) _ _ (fun _ _ => Nat.zero_le _)]
  · rw [str_len, List.range'_eq_map_range]
    simp [subIx]
  · unfold subAtL
    rw [PySem.StrLaws.subAt_eq, str_len, str_len, Bool.and_eq_true, decide_eq_true_eq]
mutual
def D.flat : D → Bool
  | .tup _ => false | .lst _ => false | .scr _ => false | .dic _ _ => false | _ => true
end
def eqFlat : D → D → Bool
  | .non, .non => true
  | .bl a, .bl b => a == b
  | .int a, .int b => a == b
  | .str a, .str b => a == b
  | .bl a, .int b => (if a then 1 else 0) == b
  | .int a, .bl b => a == (if b then 1 else 0)
  | _, _ => false
end
end GB
namespace GB
open PySem PySem.Spec PyProof.Rows L2
section
variable {C : Ct} {K : PySem.W.Frag} {U W : Addr → Prop} {H : Hp} {v : V} {s : S}
/-- a list or a tuple that is read -/
def asQ : S → Option (List D)
  | .fz (.tup ds) => some ds
  | s => asLs s
theorem asQ_of (x : SR K U W H v s) {ds : List D} (h : asQ s = some ds) : ∃ p xs, v = .ref p ∧ (SqL K H p xs ∨ SqT K H p xs) ∧ Rps K W H xs ds := by
  by_cases hs : ∃ d, s = .fz (.tup d)
  · obtain ⟨d, rfl⟩ := hs
    cases h
    cases x with | fz x => cases x with | tup e x => exact ⟨_, _, rfl, .inr e.sq, x⟩
  · have h' : asLs s = some ds := by
      cases s with
      | fz d => cases d <;> first | exact h | exact absurd ⟨_, rfl⟩ hs
      | _ => exact h
    obtain ⟨p, xs, e1, e2, e3⟩ := asLs_of x h'
    exact ⟨p, xs, e1, .inl e2, e3⟩
theorem asQX_of (x : SR K U W H v s) {ds : List D} (h : asQ s = some ds) : ∃ p xs, v = .ref p ∧ (SqL K H p xs ∨ SqX K H p xs) ∧ Rps K W H xs ds := by
  by_cases hs : ∃ d, s = .fz (.tup d)
  · obtain ⟨d, rfl⟩ := hs
    cases h
    cases x with | fz x => cases x with | tup e x => exact ⟨_, _, rfl, .inr e, x⟩
  · have h' : asLs s = some ds := by
      cases s with
      | fz d => cases d <;> first | exact h | exact absurd ⟨_, rfl⟩ hs
      | _ => exact h
    obtain ⟨p, xs, e1, e2, e3⟩ := asLs_of x h'
    exact ⟨p, xs, e1, .inl e2, e3⟩
theorem flat_v {d : D} (x : Rp K W H v d) (h : d.flat = true) : flatV v = true := by cases x <;> first | rfl | cases h
theorem strBeq (a b : List Nat) : ((⟨a.toArray⟩ : Str) == ⟨b.toArray⟩) = (a == b) := by
  rw [Bool.eq_iff_iff, beq_iff_eq, beq_iff_eq]
  simp
theorem eqFlat_v {w : V} {a b : D} (x : Rp K W H v a) (y : Rp K W H w b) (ha : a.flat = true) (hb : b.flat = true) : eqV v w = eqFlat a b := by
  cases x <;> first | (cases ha; done) | (cases y <;> first | (cases hb; done) | rfl | exact strBeq _ _)
theorem rps_flat : ∀ {xs : List V} {ds : List D}, Rps K W H xs ds → ds.all D.flat = true → xs.all flatV = true
  | _, _, .nil, _ => rfl
  | _, _, .cons x t, h => by
    rw [List.all_cons, Bool.and_eq_true] at h ⊢
    exact ⟨flat_v x h.1, rps_flat t h.2⟩
theorem inV_of {d : D} (x : Rp K W H v d) (hd : d.flat = true) : ∀ {xs : List V} {ds : List D}, Rps K W H xs ds → ds.all D.flat = true → inV v xs = ds.any fun e => eqFlat e d
  | _, _, .nil, _ => rfl
  | _, _, .cons y t, h => by
    rw [List.all_cons, Bool.and_eq_true] at h
    show (eqV _ v || inV v _) = (eqFlat _ d || _)
    rw [eqFlat_v y x h.1 hd, inV_of x hd t h.2]
/-- x in xs: a text in a text; a flat thing in a list or tuple of such -/
def inS : S → S → Option Bool
  | .fz (.str a), .fz (.str b) => some (subIx a b).isSome
  | .fz d, s => match asQ s with
    | some ds => if d.flat && ds.all D.flat then some (ds.any fun e => eqFlat e d) else none
    | none => none
  | _, _ => none
def rInU (K : PySem.W.Frag) : R2 := fun x y H Q => (∃ i j, x = .str i ∧ y = .str j ∧ Q (.bl (!(Builtin.Str.occurrences j i 0 j.length 1).isEmpty)) H) ∨ rIn K false x y H Q
def rNotInU (K : PySem.W.Frag) : R2 := fun x y H Q => (∃ i j, x = .str i ∧ y = .str j ∧ Q (.bl (!(!(Builtin.Str.occurrences j i 0 j.length 1).isEmpty))) H) ∨ rIn K true x y H Q
theorem op_inU {X : Cx} : OpR X (compareOp .In) (rInU X.K) := op_in_str.or op_in_seq
theorem op_notInU {X : Cx} : OpR X (compareOp .NotIn) (rNotInU X.K) := op_notin_str.or op_notIn_seq
theorem opt_emp {o : Option Nat} : (!o.toList.isEmpty) = o.isSome := by cases o <;> rfl
theorem inS_of {x y : V} {a b : S} {k : Bool} (xa : SR K U W H x a) (xb : SR K U W H y b) (h : inS a b = some k) : (∃ i j, x = .str i ∧ y = .str j ∧ (!(Builtin.Str.occurrences j i 0 j.length 1).isEmpty) = k) ∨
    (∃ p xs, y = .ref p ∧ (SqL K H p xs ∨ SqT K H p xs) ∧ flatV x = true ∧ xs.all flatV = true ∧ inV x xs = k) := by
  have seq : ∀ {d : D}, a = .fz d → (match asQ b with
      | some ds => if (d.flat && ds.all D.flat) = true then some (ds.any fun e => eqFlat e d) else none
      | none => none) = some k → ∃ p xs, y = .ref p ∧ (SqL K H p xs ∨ SqT K H p xs) ∧ flatV x = true ∧ xs.all flatV = true ∧ inV x xs = k := fun {d} e g => by
    subst e
    cases e1 : asQ b with
    | none => rw [e1] at g; cases g
    | some ds =>
      rw [e1] at g
      dsimp only at g
      by_cases z : (d.flat && ds.all D.flat) = true
      · rw [if_pos z] at g; cases g
        rw [Bool.and_eq_true] at z
        cases xa with
        | fz xa =>
          obtain ⟨p, xs, e, q, t⟩ := asQ_of xb e1
          exact ⟨p, xs, e, q, flat_v xa z.1, rps_flat t z.2, inV_of xa z.1 t z.2⟩
      · rw [if_neg z] at g; cases g
  cases a with
  | fz a =>
    cases a with
    | str l =>
      by_cases hb : ∃ m, b = .fz (.str m)
      · obtain ⟨m, rfl⟩ := hb
        cases h
        rw [sr_str xa, sr_str xb]
        exact .inl ⟨_, _, rfl, rfl, by rw [occ_subIx, opt_emp]⟩
      · refine .inr (seq rfl ?_)
        cases b with
        | fz b => cases b <;> first | exact h | exact absurd ⟨_, rfl⟩ hb
        | _ => exact h
    | _ => exact .inr (seq rfl h)
  | _ => cases h
def fIn (a b : S) : Option S := (inS a b).map fun k => .fz (.bl k)
def fNotIn (a b : S) : Option S := (inS a b).map fun k => .fz (.bl (!k))
theorem pn_in : PN C (fun vs H Q => ∃ x y, vs = [x, y] ∧ rInU C.K x y H Q) (p2 fIn) := by
  refine pn2 fun U W H x y a b s Q lv xa xb h q => ?_
  unfold fIn at h
  cases e : inS a b with
  | none => rw [e] at h; cases h
  | some k =>
    rw [e] at h; cases h
    have fin := q (.bl k) H (.same (.bl k))
    rcases inS_of xa xb e with ⟨i, j, h1, h2, h3⟩ | ⟨p, xs, h1, h2, h3, h4, h5⟩
    · exact .inl ⟨i, j, h1, h2, by rw [h3]; exact fin⟩
    · exact .inr ⟨p, xs, h1, h2, h3, h4, by show Q (.bl (inV x xs)) H; rw [h5]; exact fin⟩
theorem pn_notIn : PN C (fun vs H Q => ∃ x y, vs = [x, y] ∧ rNotInU C.K x y H Q) (p2 fNotIn) := by
  refine pn2 fun U W H x y a b s Q lv xa xb h q => ?_
  unfold fNotIn at h
  cases e : inS a b with
  | none => rw [e] at h; cases h
  | some k =>
    rw [e] at h; cases h
    have fin := q (.bl (!k)) H (.same (.bl (!k)))
    rcases inS_of xa xb e with ⟨i, j, h1, h2, h3⟩ | ⟨p, xs, h1, h2, h3, h4, h5⟩
    · exact .inl ⟨i, j, h1, h2, by rw [h3]; exact fin⟩
    · exact .inr ⟨p, xs, h1, h2, h3, h4, by show Q (.bl (!inV x xs)) H; rw [h5]; exact fin⟩
def D.isNon : D → Bool
  | .non => true
  | _ => false
def fIsN : S → S → Option S
  | .fz d, .fz .non => some (.fz (.bl d.isNon))
  | _, _ => none
def fIsNotN : S → S → Option S
  | .fz d, .fz .non => some (.fz (.bl (!d.isNon)))
  | _, _ => none
theorem non_dec {d : D} (x : Rp K W H v d) : decide (v = .non) = d.isNon := by cases x <;> simp [D.isNon]
theorem pn_isN : PN C (fun vs H Q => ∃ x y, vs = [x, y] ∧ (y = .non ∧ Q (.bl (decide (x = .non))) H)) (p2 fIsN) := by
  refine pn2 (rr := fun x y H Q => y = .non ∧ Q (.bl (decide (x = .non))) H) fun U W H x y a b s Q lv xa xb h q => ?_
  cases a with
  | fz a =>
    cases b with
    | fz b =>
      cases b with
      | non => cases h; cases xa with | fz xa => exact ⟨sr_non xb, by rw [non_dec xa]; exact q _ _ (.same (.bl _))⟩
      | _ => cases h
    | _ => cases h
  | _ => cases h
theorem pn_isNotN : PN C (fun vs H Q => ∃ x y, vs = [x, y] ∧ (y = .non ∧ Q (.bl (!decide (x = .non))) H)) (p2 fIsNotN) := by
  refine pn2 (rr := fun x y H Q => y = .non ∧ Q (.bl (!decide (x = .non))) H) fun U W H x y a b s Q lv xa xb h q => ?_
  cases a with
  | fz a =>
    cases b with
    | fz b =>
      cases b with
      | non =>
        cases h
        cases xa with
        | fz xa =>
          refine ⟨sr_non xb, ?_⟩
          rw [non_dec xa]
          exact q _ _ (.same (.bl _))
      | _ => cases h
    | _ => cases h
  | _ => cases h
def lenS : S → Option Nat
  | .fz (.str l) => if big l.length then some l.length else none
  | s => (asQ s).map List.length
def fLen (a : S) : Option S := (lenS a).map fun n => .fz (.int n)
theorem pn_len : PN C (fun vs H Q => ∃ x n, vs = [x] ∧ LenV C.K x H n ∧ Q (.int n) H) (p1 fLen) := by
  have main : PN C (fun vs H Q => ∃ x, vs = [x] ∧ ∃ n, LenV C.K x H n ∧ Q (.int n) H) (p1 fLen) := by
    refine pn1 fun U W H x a s Q lv xa h q => ?_
    unfold fLen at h
    have seq : ∀ n, (asQ a).map List.length = some n → Q (.int n) H → ∃ n, LenV C.K x H n ∧ Q (.int n) H := fun n h f => by
      cases e : asQ a with
      | none => rw [e] at h; cases h
      | some ds =>
        rw [e] at h; cases h
        obtain ⟨p, xs, rfl, e2, t⟩ := asQ_of xa e
        rcases e2 with e2 | e2
        · exact ⟨_, .inl ⟨xs, e2, t.len.symm⟩, f⟩
        · exact ⟨_, .inr ⟨xs, e2, t.len.symm⟩, f⟩
    cases e : lenS a with
    | none => rw [e] at h; cases h
    | some n =>
      rw [e] at h; cases h
      have fin := q (.int n) H (.same (.int n))
      by_cases hs : ∃ l, a = .fz (.str l)
      · obtain ⟨l, rfl⟩ := hs
        have e : (if big l.length then some l.length else none) = some n := e
        by_cases z : big l.length = true
        · rw [if_pos z] at e; cases e
          rw [sr_str xa]
          exact ⟨_, ⟨by rw [str_len]; exact big_le z, (str_len l).symm⟩, fin⟩
        · rw [if_neg z] at e; cases e
      · refine seq n ?_ fin
        cases a with
        | fz a => cases a <;> first | exact e | exact absurd ⟨_, rfl⟩ hs
        | _ => exact e
  intro U W H vs ss s Q lv hs hp q
  obtain ⟨x, e, n, h1, h2⟩ := main U W H vs ss s Q lv hs hp q
  exact ⟨x, n, e, h1, h2⟩
def fList (a : S) : Option S := (asQ a).map .ol
theorem pn_list : PN C (fun vs H Q => ∃ p ys, vs = [.ref p] ∧ (SqL C.K H p ys ∨ SqT C.K H p ys) ∧ ∀ l, H l = none → Q (.ref l) (upd H l (.lst ys))) (p1 fList) := by
  have main : PN C (fun vs H Q => ∃ x, vs = [x] ∧ ∃ p ys, x = .ref p ∧ (SqL C.K H p ys ∨ SqT C.K H p ys) ∧ ∀ l, H l = none → Q (.ref l) (upd H l (.lst ys))) (p1 fList) := by
    refine pn1 fun U W H x a s Q lv xa h q => ?_
    unfold fList at h
    cases e : asQ a with
    | none => rw [e] at h; cases h
    | some ds =>
      rw [e] at h; cases h
      obtain ⟨p, xs, rfl, e2, t⟩ := asQ_of xa e
      exact ⟨p, xs, rfl, e2, fun l hl => q _ _ (Got.newL (C := C) lv hl t)⟩
  intro U W H vs ss s Q lv hs hp q
  obtain ⟨x, e, p, ys, e2, h1, h2⟩ := main U W H vs ss s Q lv hs hp q
  subst e2
  exact ⟨p, ys, e, h1, h2⟩
def fTuple (a : S) : Option S := (asQ a).map fun ds => .fz (.tup ds)
theorem call_tuple_ofX {X : Cx} : CallR X (.type "tuple") (fun xs H Q => ∃ p ys, xs = [.ref p] ∧ ((SqL X.K H p ys ∧ ∀ l o, TupO o → H l = none → Q (.ref l) (upd H l (.frz o (.tup ys)))) ∨ (SqT X.K H p ys ∧ Q (.ref p) H))) := by
  intro pins s σ H xs us Q I r h
  obtain ⟨p, ys, rfl, h⟩ := h
  obtain ⟨u, rfl, rx⟩ := vals1 r
  cases rx
  rcases h with ⟨hq, q⟩ | ⟨hq, q⟩
  · obtain ⟨its, r', pl, hz⟩ := I.list hq
    have hlen := r'.length
    refine call_tuple_list pl.isList (fun h' kp => ?_) (by simp only [List.size_toArray] <;> omega)
    have I1 : Inv X pins σ H { s with heap := h' } := I.kept (t' := s.toks) kp
    have I2 : Inv X pins σ (upd H h'.objs.size (.frz { cls := .type "tuple", data := .seq its.toArray } (.tup ys))) { s with heap := h'.push { cls := .type "tuple", data := .seq its.toArray } } :=
      I1.laid (t' := s.toks) (fun b o e => Heap.get?_push_of_some _ e) (Nat.le_refl _) (show ObjOk X.prog X.w _ _ _ (.frz { cls := .type "tuple", data := .seq its.toArray } (.tup ys)) from ⟨Heap.get?_push_size _ rfl, hz, its, r', IsTup.new _ _⟩)
    exact ⟨.ref h'.objs.size, _, I2, rfl, q _ _ ⟨rfl, rfl⟩ (I1.hok.fresh (Nat.le_refl _))⟩
  · obtain ⟨its, r', pl, hz⟩ := I.tuple hq
    exact call_tuple_same pl ⟨.ref p, H, I, rfl, q⟩
theorem pn_tuple : PN C (fun vs H Q => ∃ p ys, vs = [.ref p] ∧ ((SqL C.K H p ys ∧ ∀ l o, TupO o → H l = none → Q (.ref l) (upd H l (.frz o (.tup ys)))) ∨ (SqT C.K H p ys ∧ Q (.ref p) H))) (p1 fTuple) := by
  have main : PN C (fun vs H Q => ∃ x, vs = [x] ∧ ∃ p ys, x = .ref p ∧ ((SqL C.K H p ys ∧ ∀ l o, TupO o → H l = none → Q (.ref l) (upd H l (.frz o (.tup ys)))) ∨ (SqT C.K H p ys ∧ Q (.ref p) H))) (p1 fTuple) := by
    refine pn1 fun U W H x a s Q lv xa h q => ?_
    unfold fTuple at h
    cases e : asQ a with
    | none => rw [e] at h; cases h
    | some ds =>
      rw [e] at h; cases h
      obtain ⟨p, xs, rfl, e2, t⟩ := asQX_of xa e
      refine ⟨p, xs, rfl, ?_⟩
      rcases e2 with e2 | e2
      · exact .inl ⟨e2, fun l o ho hl => q _ _ (Got.newT (C := C) lv hl ho t)⟩
      · exact .inr ⟨e2.sq, q _ _ (.same (.tup e2 t))⟩
  intro U W H vs ss s Q lv hs hp q
  obtain ⟨x, e, p, ys, e2, h1⟩ := main U W H vs ss s Q lv hs hp q
  subst e2
  exact ⟨p, ys, e, h1⟩
def fInt1 : S → Option S
  | .fz (.int i) => some (.fz (.int i))
  | .fz (.bl b) => some (.fz (.int (if b then 1 else 0)))
  | _ => none
theorem pn_int1 : PN C (fun xs H Q => (∃ i, xs = [.int i] ∧ Q (.int i) H) ∨ ∃ k, xs = [.bl k] ∧ Q (.int (if k then 1 else 0)) H) (p1 fInt1) := by
  intro U W H vs ss s Q lv hs hp q
  match ss, hs, hp with
  | [a], .cons xa .nil, hp =>
    cases a with
    | fz a =>
      cases a with
      | int i => cases hp; rw [sr_int xa]; exact .inl ⟨i, rfl, q _ _ (.same (.int _))⟩
      | bl b => cases hp; rw [sr_bl xa]; exact .inr ⟨b, rfl, q _ _ (.same (.int _))⟩
      | _ => cases hp
    | _ => cases hp
def fIx : S → S → Option S
  | .fz (.str l), .fz (.int i) => if big l.length then (atI l i).map fun c => .fz (.str [c]) else none
  | a, .fz (.int i) => match asQ a with
    | some ds => (atI ds i).map .fz
    | none => none
  | _, _ => none
theorem atI_rps {xs : List V} {ds : List D} (t : Rps K W H xs ds) {i : Int} {d : D} (h : atI ds i = some d) : ∃ x, atI xs i = some x ∧ Rp K W H x d := by
  unfold atI at h ⊢
  rw [t.len]
  cases e : ixN ds.length i with
  | none => rw [e] at h; cases h
  | some j => rw [e] at h; exact rps_at t h
theorem pn_ix : PN C (fun vs H Q => ∃ x y, vs = [x, y] ∧ rIx C.K x y H Q) (p2 fIx) := by
  refine pn2 fun U W H x y a b s Q lv xa xb h q => ?_
  cases b with
  | fz b =>
    cases b with
    | int i =>
      rw [sr_int xb]
      by_cases hs : ∃ l, a = .fz (.str l)
      · obtain ⟨l, rfl⟩ := hs
        have h : (if big l.length then (atI l i).map fun c => S.fz (.str [c]) else none) = some s := h
        by_cases z : big l.length = true
        · rw [if_pos z] at h
          cases e : atI l i with
          | none => rw [e] at h; cases h
          | some c =>
            rw [e] at h; cases h
            rw [sr_str xa]
            exact .inr (.inr ⟨_, i, c, rfl, rfl, by rw [str_len]; exact big_le z, e, q _ _ (.same (.str [c]))⟩)
        · rw [if_neg z] at h; cases h
      · have h : (match asQ a with | some ds => (atI ds i).map S.fz | none => none) = some s := by
          cases a with
          | fz a => cases a <;> first | exact h | exact absurd ⟨_, rfl⟩ hs
          | _ => exact h
        cases e : asQ a with
        | none => rw [e] at h; cases h
        | some ds =>
          rw [e] at h
          dsimp only at h
          cases e2 : atI ds i with
          | none => rw [e2] at h; cases h
          | some d =>
            rw [e2] at h; cases h
            obtain ⟨p, xs, rfl, e3, t⟩ := asQ_of xa e
            obtain ⟨w, e4, y⟩ := atI_rps t e2
            rcases e3 with e3 | e3
            · exact .inl ⟨p, xs, i, w, rfl, rfl, e3, e4, q _ _ (.same y)⟩
            · exact .inr (.inl ⟨p, xs, i, w, rfl, rfl, e3, e4, q _ _ (.same y)⟩)
    | _ => cases a <;> first | cases h | (rename_i d; cases d <;> cases h)
  | _ => cases a <;> first | cases h | (rename_i d; cases d <;> cases h)
end
end GB
namespace GB
open PySem PySem.Spec PyProof.Rows L2
/-- the first of two word functions that answers -/
def orP (p q : Pr) : Pr := fun ss => match p ss with
  | none => q ss
  | z => z
theorem eCall_alt (p q : Pr) (fa : Rho → Rs (List Opd)) : eCall (orP p q) fa = eAlt (eCall p fa) (eCall q fa) := by
  funext r
  unfold eCall eAlt
  cases e : fa r with
  | ok os r1 =>
    simp only [e, Rs.bind]
    unfold eP orP
    cases e1 : resAll r1 os with
    | none => simp only [e1]
    | some ss =>
      cases e2 : p ss <;> simp only [e1, e2]
  | ex c fs r1 => simp only [e, Rs.bind]
  | st => simp only [e, Rs.bind]
theorem PN.or {C : Ct} {rr rr' : List V → Hp → VK → Prop} {p q : Pr} (h : PN C rr p) (h' : PN C rr' q) : PN C (fun vs H Q => rr vs H Q ∨ rr' vs H Q) (orP p q) := by
  intro U W H vs ss s Q lv hs hp k
  unfold orP at hp
  cases e : p ss with
  | some t => rw [e] at hp; exact .inl (h U W H vs ss s Q lv hs (e.trans hp) k)
  | none => rw [e] at hp; exact .inr (h' U W H vs ss s Q lv hs hp k)
section
variable {X : Cx} {C : Ct} {e : Expr} {fa : Rho → Rs (List Opd)}
theorem ge_orP {p q : Pr} (h : GE X C e (eCall p fa)) (h' : GE X C e (eCall q fa)) : GE X C e (eCall (orP p q) fa) := by
  rw [eCall_alt]
  exact ge_alt h h'
/-- the first of two statements' functions that goes -/
def fAlt (f g : Rho → Fl) : Rho → Fl := fun r => match f r with
  | .st => g r
  | z => z
theorem gs_alt {st : Stmt} {f g : Rho → Fl} (h : GS X C st f) (h' : GS X C st g) : GS X C st (fAlt f g) := by
  refine ⟨fun pins s σ H D I q => ?_⟩
  obtain ⟨U, r, s1, q⟩ := q
  unfold fAlt at q
  cases e1 : f r with
  | st => rw [e1] at q; exact h'.run pins s σ H D I ⟨U, r, s1, q⟩
  | nx r' => rw [e1] at q; exact h.run pins s σ H D I ⟨U, r, s1, by rw [e1]; exact q⟩
  | rt t r' => rw [e1] at q; exact h.run pins s σ H D I ⟨U, r, s1, by rw [e1]; exact q⟩
  | bk r' => rw [e1] at q; exact h.run pins s σ H D I ⟨U, r, s1, by rw [e1]; exact q⟩
  | ct r' => rw [e1] at q; exact h.run pins s σ H D I ⟨U, r, s1, by rw [e1]; exact q⟩
  | ex c fs r' => rw [e1] at q; exact h.run pins s σ H D I ⟨U, r, s1, by rw [e1]; exact q⟩
def isI (o : Opd) (r : Rho) : Bool := match res r o with
  | some (.fz (.int _)) => true
  | _ => false
/-- a part of a slice -/
def ePart : Option (Rho → Rs Opd) → Rho → Rs Opd
  | none, r => .ok (.val (.fz .non)) r
  | some f, r => (f r).bind fun o r1 => if isI o r1 then .ok o r1 else .st
def tP (C : Ct) : Option (Rho → Rs Opd) → TO
  | none => tNoPart
  | some f => tPart (tE C f)
abbrev GP (X : Cx) (C : Ct) (e : Option Expr) (f : Option (Rho → Rs Opd)) : Prop := PO X e (tP C f)
theorem gp_none : GP X C none none := po_none
theorem gp_some {e : Expr} {f : Rho → Rs Opd} (h : GE X C e f) : GP X C (some e) (some f) := po_some h
def isP (v : V) (o : Option Int) : Prop := match o with
  | none => v = .non
  | some i => v = .int i
theorem tP_then {α : Type} {f : Option (Rho → Rs Opd)} {g : Opd → Rho → Rs α} {σ : St} {H : Hp} {Q : Option Int → Hp → Prop} {U : Addr → Prop} {r : Rho} {R : Rs α → Prop} (s : Sit C U H σ r) (h : R ((ePart f r).bind g))
    (hst : R .st → False) (hex : ∀ c fs r', R (.ex c fs r') → XWant C U H σ r c fs r')
    (hok : ∀ o r' v i H' U', Sit C U' H' σ r' → Aft U H σ r U' H' σ r' → Per r r' → OpOk C U' H' σ r' o v → isP v i → R (g o r') → Q i H') : tP C f σ H Q := by
  cases f with
  | none => exact hok (.val (.fz .non)) r .non none H U s Aft.refl Per.refl ⟨.fz .non, fun p z => (nomatch z), rfl⟩ rfl h
  | some f =>
    simp only [ePart] at h
    refine tE_then (f := f) (g := fun o r1 => (if isI o r1 then (Rs.ok o r1) else .st).bind g) (R := R) s ?_ hst hex ?_
    · refine cast ?_ h
      unfold Rs.bind
      cases e : f r <;> simp only [e]
    · intro o r' v H' U' s' a' p' k' n' q
      by_cases hi : isI o r' = true
      · rw [if_pos hi] at q
        obtain ⟨t, e, x⟩ := k'.res s'
        unfold isI at hi
        rw [e] at hi
        cases t with
        | fz d =>
          cases d with
          | int i =>
            have ev : v = .int i := by cases x with | fz x => cases x; rfl
            exact ⟨i, ev, hok o r' v (some i) H' U' s' a' p' k' ev q⟩
          | _ => cases hi
        | _ => cases hi
      · rw [if_neg hi] at q
        exact (hst q).elim
theorem isP_one {v : V} {i j : Option Int} (h : isP v i) (h' : isP v j) : i = j := by
  cases i <;> cases j <;> (cases h; cases h') <;> rfl
/-- o[lo:hi] -/
theorem ge_slice {o : Expr} {lo hi : Option Expr} {pos p2 : Pos} {fo : Rho → Rs Opd} {fl fh : Option (Rho → Rs Opd)} {rr : V → Option Int → Option Int → Hp → VK → Prop} {p : Pr} (hr : SlR X rr) (hp : PN C (fun vs H Q => ∃ x l u i j, vs = [x, l, u] ∧ isP l i ∧ isP u j ∧ rr x i j H Q) p)
    (ho : GE X C o fo) (hl : GP X C lo fl) (hh : GP X C hi fh) : GE X C (.Subscript o (.Slice lo hi none p2) pos) (eCall p (eCons fo (eCons (ePart fl) (eCons (ePart fh) eNil)))) := by
  refine weakE (pe_slice hr ho hl hh) fun σ H Q h => ?_
  obtain ⟨U, r, s, h⟩ := h
  refine tE_then (g := fun o r1 => (ePart fl r1).bind fun o2 r2 => (ePart fh r2).bind fun o3 r3 => eP p [o, o2, o3] r3) (R := RE C U H σ r Q) s ?_ id (fun _ _ _ z => z) ?_
  · refine cast ?_ h
    unfold eCall eCons eNil Rs.bind
    cases fo r with
    | ok o r1 =>
      simp only []
      cases ePart fl r1 with
      | ok o r2 => simp only []; cases ePart fh r2 <;> rfl
      | _ => rfl
    | _ => rfl
  intro o r1 v H1 U1 s1 a1 p1 k1 n1 h1
  refine tP_then (R := RE C U H σ r Q) s1 h1 id (fun _ _ _ z => XWant.before z a1) fun o2 r2 v2 i2 H2 U2 s2 a2 p2 k2 q2 h2 => ?_
  refine tP_then (R := RE C U H σ r Q) s2 h2 id (fun _ _ _ z => XWant.before z (a1.trans a2)) fun o3 r3 v3 i3 H3 U3 s3 a3 p3 k3 q3 h3 => ?_
  obtain ⟨x, l, u, i, j, e, q4, q5, q⟩ := eP_fin hp s3 ((a1.trans a2).trans a3) ((p1.trans p2).trans p3) (.cons ((k1.after a2 s1 p2).after a3 s2 p3) (.cons (k2.after a3 s2 p3) (.cons k3 .nil))) h3
  cases e
  rw [isP_one q2 q4, isP_one q3 q5]
  exact q
end
/-- a cut -/
def cutD {α : Type} (xs : List α) (lo hi : Option Int) : List α := (xs.drop (HT.sIx xs.length 0 lo)).take (HT.sIx xs.length xs.length hi - HT.sIx xs.length 0 lo)
def ptI : S → Option (Option Int)
  | .fz .non => some none
  | .fz (.int i) => some (some i)
  | _ => none
def cutS1 (a : S) (i j : Option Int) : Option S := match a with
  | .fz (.str w) => if big w.length then some (.fz (.str (cutD w i j))) else none
  | .fz (.tup ds) => some (.fz (.tup (cutD ds i j)))
  | a => (asLs a).map fun ds => .ol (cutD ds i j)
def fSl (a l u : S) : Option S := match ptI l, ptI u with
  | some i, some j => cutS1 a i j
  | _, _ => none
/-- t[lo:hi]: the whole of it is t itself, else a new tuple -/
def rSlX (K : PySem.W.Frag) : V → Option Int → Option Int → Hp → VK → Prop := fun x lo hi H Q => ∃ a xs, x = .ref a ∧ SqT K H a xs ∧
  (HT.sIx xs.length 0 lo = 0 ∧ HT.sIx xs.length xs.length hi = xs.length → Q (.ref a) H) ∧ (¬ (HT.sIx xs.length 0 lo = 0 ∧ HT.sIx xs.length xs.length hi = xs.length) → ∀ p o, TupO o → H p = none → Q (.ref p) (upd H p (.frz o (.tup (cutV xs lo hi)))))
theorem sl_tupX {X : Cx} : SlR X (rSlX X.K) := by
  intro pins s σ H x v vl vu lo hi sl Q I rx hs pl pu h
  obtain ⟨a, xs, rfl, hx, q1, q2⟩ := h
  cases rx
  obtain ⟨its, r, ht, hz⟩ := I.tuple hx
  have hlen : its.toArray.size = xs.length := by rw [List.size_toArray]; exact r.length.symm
  by_cases hw : HT.sIx xs.length 0 lo = 0 ∧ HT.sIx xs.length xs.length hi = xs.length
  · refine ⟨"tuple", _, PyProof.Rows.slot_tuple_getitem.lookup, ht.typeIs, ?_⟩
    exact getItem_tuple_whole ht hs pl pu (by rw [hlen]; exact hw) ⟨.ref a, H, I, rfl, q1 hw⟩
  · refine ⟨"tuple", _, PyProof.Rows.slot_tuple_getitem.lookup, ht.typeIs, ?_⟩
    refine HT.getItem_tuple_cut ht hs pl pu (by rw [hlen]; exact hw) ?_ (by rw [hlen]; exact hz)
    rw [hlen]
    refine ⟨.ref s.heap.objs.size, _, I.laid (t' := s.toks) (o := .frz _ (.tup (cutV xs lo hi))) (fun b ob q => Heap.get?_push_of_some _ q) (Nat.le_refl _) ⟨Heap.get?_push_size _ rfl, ?_⟩, rfl, q2 hw _ _ ⟨rfl, rfl⟩ (I.hok.fresh (Nat.le_refl _))⟩
    exact ⟨Nat.le_trans (cutV_length xs lo hi) hz, _, (r.drop (HT.sIx xs.length 0 lo)).take (HT.sIx xs.length xs.length hi - HT.sIx xs.length 0 lo), IsTup.new _ _⟩
def rSlU (K : PySem.W.Frag) : V → Option Int → Option Int → Hp → VK → Prop := fun x lo hi H Q => rSlL K x lo hi H Q ∨ rSlX K x lo hi H Q ∨ rSlS x lo hi H Q
section
variable {X : Cx} {C : Ct} {K : PySem.W.Frag} {U W : Addr → Prop} {H : Hp}
theorem sl_U : SlR X (rSlU X.K) := sl_list.or (sl_tupX.or sl_str)
theorem ptI_of {v : V} {s : S} {i : Option Int} (x : SR K U W H v s) (h : ptI s = some i) : isP v i := by
  cases x with
  | fz x => cases x <;> first | (cases h; exact rfl) | cases h
  | _ => cases h
theorem cutD_all {α : Type} {xs : List α} {lo hi : Option Int} (h : HT.sIx xs.length 0 lo = 0 ∧ HT.sIx xs.length xs.length hi = xs.length) : cutD xs lo hi = xs := by
  unfold cutD
  rw [h.1, h.2]
  simp
theorem cutV_rps {xs : List V} {ds : List D} {lo hi : Option Int} (x : Rps K W H xs ds) : Rps K W H (cutV xs lo hi) (cutD ds lo hi) := by
  unfold cutV cutD
  rw [x.len]
  exact rps_take _ (rps_drop _ x)
theorem pn_sl : PN C (fun vs H Q => ∃ x l u i j, vs = [x, l, u] ∧ isP l i ∧ isP u j ∧ rSlU C.K x i j H Q) (p3 fSl) := by
  intro U W H vs ss s Q lv hs hp q
  match ss, hs, hp with
  | [a, l, u], .cons (a := x) xa (.cons (a := y) xl (.cons (a := z) xu .nil)), hp =>
    have hp : fSl a l u = some s := hp
    unfold fSl at hp
    cases e1 : ptI l with
    | none => rw [e1] at hp; cases hp
    | some i =>
      cases e2 : ptI u with
      | none => rw [e1, e2] at hp; cases hp
      | some j =>
        rw [e1, e2] at hp
        have hp : cutS1 a i j = some s := hp
        refine ⟨_, _, _, i, j, rfl, ptI_of xl e1, ptI_of xu e2, ?_⟩
        have lst : (asLs a).map (fun ds => S.ol (cutD ds i j)) = some s → rSlU C.K x i j H Q := fun h => by
          cases e : asLs a with
          | none => rw [e] at h; cases h
          | some ds =>
            rw [e] at h; cases h
            obtain ⟨p, xs, rfl, e2, t⟩ := asLs_of xa e
            exact .inl ⟨p, xs, rfl, e2, fun l hl => q _ _ (Got.newL (C := C) lv hl (cutV_rps t))⟩
        cases a with
        | fz a =>
          cases a with
          | str w =>
            have hp : (if big w.length then some (S.fz (.str (cutD w i j))) else none) = some s := hp
            by_cases hb : big w.length = true
            · rw [if_pos hb] at hp; cases hp
              rw [sr_str xa]
              refine .inr (.inr ⟨_, rfl, by rw [str_len]; exact big_le hb, ?_⟩)
              have e : cutS ⟨w.toArray⟩ i j = ⟨(cutD w i j).toArray⟩ := by
                unfold cutS cutD
                rw [str_len]
              rw [e]
              exact q _ _ (.same (.str _))
            · rw [if_neg hb] at hp; cases hp
          | tup ds =>
            cases hp
            cases xa with
            | fz xa =>
              cases xa with
              | @tup p xs ds e t =>
                refine .inr (.inl ⟨p, xs, rfl, e.sq, fun hw => ?_, fun _ l o ho hl => q _ _ (Got.newT (C := C) lv hl ho (cutV_rps t))⟩)
                rw [t.len] at hw
                rw [cutD_all hw] at q
                exact q _ _ (.same (.tup e t))
          | _ => exact lst hp
        | _ => exact lst hp
end
def lowL (w : List Nat) : Option (List Nat) := if w.all (· < 128) && decide (w.length ≤ 5592405) then some (w.map PyProof.Rows.lo1) else none
def upL (w : List Nat) : Option (List Nat) := if w.all (· < 128) && decide (w.length ≤ 5592405) then some (w.map PyProof.Rows.up1) else none
def isStr : S → Bool
  | .fz (.str _) => true
  | _ => false
def fLower : S → Option S
  | .fz (.str w) => (lowL w).map fun w => .fz (.str w)
  | _ => none
def fUpper : S → Option S
  | .fz (.str w) => (upL w).map fun w => .fz (.str w)
  | _ => none
section
variable {X : Cx} {C : Ct} {K : PySem.W.Frag} {U W : Addr → Prop} {H : Hp}
theorem isStr_ty (U W : Addr → Prop) (H : Hp) (v : V) (s : S) (x : SR C.K U W H v s) (h : isStr s = true) : tyV K "str" v H := by
  cases x with
  | fz x => cases x <;> first | exact rfl | cases h
  | _ => cases h
theorem low_if {f : Nat → Nat} {w : List Nat} {s : S} (h : ((if w.all (· < 128) && decide (w.length ≤ 5592405) then some (w.map f) else none).map fun w => S.fz (.str w)) = some s) : w.all (· < 128) = true ∧ w.length ≤ 5592405 ∧ s = .fz (.str (w.map f)) := by
  by_cases z : (w.all (· < 128) && decide (w.length ≤ 5592405)) = true
  · rw [if_pos z] at h; cases h
    rw [Bool.and_eq_true] at z
    exact ⟨z.1, of_decide_eq_true z.2, rfl⟩
  · rw [if_neg z] at h; cases h
theorem pn_lower : PN C (fun vs H Q => ∃ x xs, vs = x :: xs ∧ ∃ a, x = .str a ∧ xs = [] ∧ a.length ≤ 5592405 ∧ Q (.str (Txt.lower a)) H) (p1 fLower) := by
  refine pnm0 (rr := fun x xs H Q => ∃ a, x = .str a ∧ xs = [] ∧ a.length ≤ 5592405 ∧ Q (.str (Txt.lower a)) H) fun U W H x a s Q lv xa h q => ?_
  cases a with
  | fz a =>
    cases a with
    | str w =>
      rw [sr_str xa]
      obtain ⟨z1, z2, rfl⟩ := low_if (f := PyProof.Rows.lo1) h
      refine ⟨_, rfl, rfl, by rw [str_len]; exact z2, ?_⟩
      rw [show Txt.lower ⟨w.toArray⟩ = ⟨(w.map PyProof.Rows.lo1).toArray⟩ from SX.lower_S z1]
      exact q _ _ (.same (.str _))
    | _ => cases h
  | _ => cases h
theorem pn_upper : PN C (fun vs H Q => ∃ x xs, vs = x :: xs ∧ ∃ a, x = .str a ∧ xs = [] ∧ a.length ≤ 5592405 ∧ Q (.str (Txt.upper a)) H) (p1 fUpper) := by
  refine pnm0 (rr := fun x xs H Q => ∃ a, x = .str a ∧ xs = [] ∧ a.length ≤ 5592405 ∧ Q (.str (Txt.upper a)) H) fun U W H x a s Q lv xa h q => ?_
  cases a with
  | fz a =>
    cases a with
    | str w =>
      rw [sr_str xa]
      obtain ⟨z1, z2, rfl⟩ := low_if (f := PyProof.Rows.up1) h
      refine ⟨_, rfl, rfl, by rw [str_len]; exact z2, ?_⟩
      rw [show Txt.upper ⟨w.toArray⟩ = ⟨(w.map PyProof.Rows.up1).toArray⟩ from SX.upper_S z1]
      exact q _ _ (.same (.str _))
    | _ => cases h
  | _ => cases h
end
/-- texts of words -/
def strsOf : List D → Option (List (List Nat))
  | [] => some []
  | .str w :: ds => (strsOf ds).map (w :: ·)
  | _ :: _ => none
def joinN (sep : List Nat) (ws : List (List Nat)) : List Nat := TL.joinL sep ws
def fJoin : S → S → Option S
  | .fz (.str sep), s => match asQ s with
    | some ds => (match strsOf ds with
      | some ws => if big ((ws.map List.length).sum + ws.length * sep.length) then some (.fz (.str (joinN sep ws))) else none
      | none => none)
    | none => none
  | _, _ => none
section
variable {X : Cx} {C : Ct} {K : PySem.W.Frag} {U W : Addr → Prop} {H : Hp}
theorem strsOf_of : ∀ {xs : List V} {ds : List D} {ws : List (List Nat)}, Rps K W H xs ds → strsOf ds = some ws → xs = (ws.map fun w => (⟨w.toArray⟩ : Str)).map V.str
  | _, _, _, .nil, h => by cases h; rfl
  | _, d :: ds, ws, .cons x t, h => by
    cases x with
    | str w =>
      have h : (strsOf ds).map (w :: ·) = some ws := h
      cases e : strsOf ds with
      | none => rw [e] at h; cases h
      | some w2 => rw [e] at h; cases h; rw [strsOf_of t e]; rfl
    | _ => cases h
theorem join_toL (sep : List Nat) (ws : List (List Nat)) : Txt.join ⟨sep.toArray⟩ (ws.map fun w => (⟨w.toArray⟩ : Str)) = ⟨(joinN sep ws).toArray⟩ := by
  rw [TL.join_eq]
  refine TL.ext_tl ?_
  show (Str.join _ _).cps.toList = _
  rw [show (Str.join (⟨sep.toArray⟩ : Str) (ws.map fun w => (⟨w.toArray⟩ : Str))).cps.toList = TL.joinL sep (ws.map fun w => w) from ?_]
  · simp [joinN, TL.tl]
  · have := TL.tl_join ⟨sep.toArray⟩ (ws.map fun w => (⟨w.toArray⟩ : Str))
    rw [List.map_map] at this
    exact this
theorem pn_join : PN C (fun vs H Q => ∃ x xs, vs = x :: xs ∧ ∃ a p, ∃ ys : List Str, x = .str a ∧ xs = [.ref p] ∧ (SqL C.K H p (ys.map V.str) ∨ SqT C.K H p (ys.map V.str)) ∧
    (ys.map (·.length)).sum + ys.length * a.length ≤ 16777216 ∧ Q (.str (Txt.join a ys)) H) (p2 fJoin) := by
  refine pnm1 (rr := fun x xs H Q => ∃ a p, ∃ ys : List Str, x = .str a ∧ xs = [.ref p] ∧ (SqL C.K H p (ys.map V.str) ∨ SqT C.K H p (ys.map V.str)) ∧
    (ys.map (·.length)).sum + ys.length * a.length ≤ 16777216 ∧ Q (.str (Txt.join a ys)) H) fun U W H x y a b s Q lv xa xb h q => ?_
  cases a with
  | fz a =>
    cases a with
    | str sep =>
      rw [sr_str xa]
      unfold fJoin at h
      dsimp only at h
      cases e : asQ b with
      | none => rw [e] at h; cases h
      | some ds =>
        rw [e] at h
        dsimp only at h
        cases e2 : strsOf ds with
        | none => rw [e2] at h; cases h
        | some ws =>
          rw [e2] at h
          dsimp only at h
          by_cases hb : big ((ws.map List.length).sum + ws.length * sep.length) = true
          · rw [if_pos hb] at h; cases h
            obtain ⟨p, xs, rfl, e3, t⟩ := asQ_of xb e
            rw [strsOf_of t e2] at e3
            refine ⟨_, p, ws.map fun w => (⟨w.toArray⟩ : Str), rfl, rfl, e3, ?_, ?_⟩
            · have hb := of_decide_eq_true hb
              rw [List.map_map, List.length_map, str_len]
              have e4 : ((fun x : Str => x.length) ∘ fun w : List Nat => (⟨w.toArray⟩ : Str)) = List.length := by
                funext w; exact str_len w
              rw [e4]
              exact hb
            · rw [join_toL]
              exact q _ _ (.same (.str _))
          · rw [if_neg hb] at h; cases h
    | _ => cases h
  | _ => cases h
end
def asO : S → Option (List D)
  | .ol ds => some ds | .br ds => some ds | _ => none
def reO : S → List D → S
  | .br _, ds => .br ds
  | _, ds => .ol ds
def isOL (s : S) : Bool := (asO s).isSome
def mOf (f : List D → List D → Option (List D × D)) : Mu := fun s as => match asO s with
  | some ds => (f ds as).map fun z => (reO s z.1, z.2)
  | none => none
section
variable {X : Cx} {C : Ct} {K : PySem.W.Frag} {U W : Addr → Prop} {H : Hp}
theorem isOL_ty (U W : Addr → Prop) (H : Hp) (v : V) (s : S) (x : SR C.K U W H v s) (h : isOL s = true) : tyV C.K "list" v H := by
  cases x with
  | ol e x => exact .inl ⟨rfl, _, .inl (.inl e)⟩
  | br e x => exact .inl ⟨rfl, _, .inl (.inl e)⟩
  | _ => cases h
theorem mOf_ok {rr : V → List V → Hp → VK → Prop} {f : List D → List D → Option (List D × D)}
    (h : ∀ (W : Addr → Prop) (H : Hp) (p : Addr) (xs vs : List V) (ds as ds' : List D) (d : D) (Q : VK), H p = some (.lst xs) → (∀ a, W a → Lv H a) → Rps C.K W H xs ds → Rps C.K W H vs as → f ds as = some (ds', d) →
      (∀ v xs', Rps C.K W H xs' ds' → Rp C.K W H v d → Q v (upd H p (.lst xs'))) → rr (.ref p) vs H Q) : MuOk C rr (mOf f) := by
  intro U W H p s s' vs ds d Q ho hw lv xs xv hm q
  have go : ∀ (ls : List D) (ys : List V), asO s = some ls → H p = some (.lst ys) → Rps C.K W H ys ls → (∀ ds' ys', Rps C.K W H ys' ds' → At C.K W H (reO s ds') (.lst ys')) → (∀ ds', s.hard = true → Sl s (reO s ds')) → rr (.ref p) vs H Q := fun ls ys e1 e2 e3 e4 e5 => by
    unfold mOf at hm
    rw [e1] at hm
    dsimp only at hm
    cases e : f ls ds with
    | none => rw [e] at hm; cases hm
    | some z =>
      obtain ⟨ds', d'⟩ := z
      rw [e] at hm; cases hm
      exact h W H p ys vs ls ds ds' _ Q e2 lv e3 xv e fun v ys' y1 y2 => q v _ (e4 _ _ y1) (e5 _) y2
  cases xs with
  | ol e x => exact go _ _ rfl e x (fun _ _ y => .ol y) fun _ h => by cases h
  | br e x => exact go _ _ rfl e x (fun _ _ y => .br y) fun _ _ => ⟨_, rfl⟩
  | _ => first | (cases ho; done) | (cases hm; done)
def fApp (ds as : List D) : Option (List D × D) := match as with
  | [d] => if decide (ds.length < 16777216) then some (ds ++ [d], .non) else none
  | _ => none
theorem mu_append : MuOk C rAppend (mOf fApp) := by
  refine mOf_ok fun W H p xs vs ds as ds' d Q hp lv x xv h q => ?_
  match as, xv, h with
  | [a], .cons y .nil, h =>
    have h : (if decide (ds.length < 16777216) then some (ds ++ [a], D.non) else none) = some (ds', _) := h
    by_cases hl : decide (ds.length < 16777216) = true
    · rw [if_pos hl] at h; cases h
      exact ⟨p, xs, _, rfl, rfl, hp, by rw [sizeLine_eq, x.len]; exact of_decide_eq_true hl, q _ _ (rps_append x (.cons y .nil)) .non⟩
    · rw [if_neg hl] at h; cases h
def fPop0 (ds as : List D) : Option (List D × D) := match as with
  | [] => ds.getLast?.map fun d => (ds.dropLast, d)
  | _ => none
theorem rps_dropLast : ∀ {xs : List V} {ds : List D}, Rps K W H xs ds → Rps K W H xs.dropLast ds.dropLast
  | _, _, .nil => .nil
  | _, _, .cons x .nil => .nil
  | _, _, .cons x (.cons y t) => .cons x (rps_dropLast (.cons y t))
theorem mu_pop : MuOk C rPop (mOf fPop0) := by
  refine mOf_ok fun W H p xs vs ds as ds' d Q hp lv x xv h q => ?_
  match as, xv, h with
  | [], .nil, h =>
    have h : (ds.getLast?.map fun d => (ds.dropLast, d)) = some (ds', _) := h
    cases e : ds.getLast? with
    | none => rw [e] at h; cases h
    | some z =>
      rw [e] at h; cases h
      rw [List.getLast?_eq_getElem?] at e
      obtain ⟨w, e2, y⟩ := rps_at x e
      exact ⟨p, xs, w, rfl, rfl, hp, by rw [x.len]; exact e2, q _ _ (rps_dropLast x) y⟩
end
end GB
namespace GB
open PySem PySem.Spec PyProof.Rows L2
def fPut (i : Nat) (m : Mu) (fe fi : Rho → Rs Opd) : Rho → Fl := fun r => ofR (fe r) fun o r1 => match ownAt r1 i with
  | some _ => ofR (fi r1) fun o2 r2 => ofR (mutP m i [o, o2] r2) fun _ r3 => .nx r3
  | none => .st
def rPut (t : TSet) : V → List V → Hp → VK → Prop := fun x vs H Q => ∃ v k, vs = [v, k] ∧ t x k v H fun H' => Q .non H'
/-- the first writing function that answers -/
def orM (m m' : Mu) : Mu := fun s ds => match m s ds with
  | none => m' s ds
  | z => z
section
variable {X : Cx} {C : Ct} {e ie : Expr} {fe fi : Rho → Rs Opd} {i : Nat} {x : Str} {m m' : Mu} {t : TSet}
theorem mut_stmt {rr : V → List V → Hp → VK → Prop} (hm : MuOk C rr m) {U U' : Addr → Prop} {H H' : Hp} {σ : St} {r r' : Rho} {os : List Opd} {vs : List V} {v0 : V} {D : Ends} (hv : σ[i]? = some (some v0)) (s0 : Sit C U H σ r) (s : Sit C U' H' σ r') (a : Aft U H σ r U' H' σ r') (pe : Per r r') (k : OpsOk C U' H' σ r' os vs) (n : NewS H os vs)
    (h : RS C U H σ r D (ofR (mutP m i os r') fun _ r3 => .nx r3)) : rr v0 vs H' fun _ H2 => D.nx σ H2 := by
  refine mutP_fin (Q := fun _ H2 => D.nx σ H2) hm hv s0 s a pe k n ?_
  cases e : mutP m i os r' with
  | ok o r3 => rw [e] at h; exact fun v H2 U2 s2 a2 p2 k2 n2 => h σ H2 U2 s2 a2
  | ex c fs r3 => rw [e] at h; exact h
  | st => rw [e] at h; exact h
theorem tE_stmt3 {fe : Rho → Rs Opd} {k : Opd → Rho → Fl} {σ : St} {H H1 : Hp} {Q : VK} {D : Ends} {U U1 : Addr → Prop} {r r1 : Rho} (a1 : Aft U H σ r U1 H1 σ r1) (s : Sit C U1 H1 σ r1) (h : RS C U H σ r D (ofR (fe r1) k))
    (hok : ∀ o r' v H' U', Sit C U' H' σ r' → Aft U1 H1 σ r1 U' H' σ r' → Per r1 r' → OpOk C U' H' σ r' o v → New H1 o v → RS C U H σ r D (k o r') → Q v H') : tE C fe σ H1 Q := by
  refine ⟨U1, r1, s, ?_⟩
  cases e : fe r1 with
  | ok o r' => rw [e] at h; exact fun v H' U' s' a' p' k' n' => hok o r' v H' U' s' a' p' k' n' h
  | ex c fs r' => rw [e] at h; exact XWant.before (show XWant C U H σ r c fs r' from h) a1
  | st => rw [e] at h; exact h
theorem gs_put {st : Stmt} (h : PS X st (tAsg (tE C fe) (gSub (tVar i) (tE C fi) t))) (hm : MuOk C (rPut t) m) : GS X C st (fPut i m fe fi) := by
  refine weakS h fun D σ H h => ?_
  obtain ⟨U, r, s, h⟩ := h
  refine tE_stmt2 (D := D) s h fun o r1 v H1 U1 s1 a1 p1 k1 n1 q => ?_
  cases e1 : ownAt r1 i with
  | none => simp only [e1] at q; exact (show False from q).elim
  | some t' =>
    simp only [e1] at q
    obtain ⟨g1, g2⟩ := ownAt_of e1
    obtain ⟨v0, ev, x0⟩ := s1.rep i t' g1
    refine ⟨v0, ev, ?_⟩
    refine tE_stmt3 (D := D) a1 s1 q fun o2 r2 v2 H2 U2 s2 a2 p2 k2 n2 q2 => ?_
    obtain ⟨v', k', e, q4⟩ := mut_stmt hm ev s s2 (a1.trans a2) (p1.trans p2) (.cons (k1.after a2 s1 p2) (.cons k2 .nil)) (.cons n1 (.cons (n2.back a1) .nil)) q2
    cases e
    exact q4
theorem fPut_alt : fPut i (orM m m') fe fi = fAlt (fPut i m fe fi) (fPut i m' fe fi) := by
  funext r
  unfold fPut fAlt
  cases e : fe r with
  | ok o r1 =>
    simp only [e, ofR]
    cases e1 : ownAt r1 i with
    | none => simp only [e1]
    | some t' =>
      simp only [e1]
      cases e2 : fi r1 with
      | ok o2 r2 =>
        simp only [e2]
        unfold mutP orM
        cases e3 : frzAll [o, o2] r2 with
        | none => simp only [e3]
        | some z =>
          obtain ⟨ds, r3⟩ := z
          simp only [e3]
          cases e4 : ownAt r3 i with
          | none => simp only [e4]
          | some s =>
            simp only [e4]
            cases e5 : m s ds with
            | none => simp only [e5]
            | some z => simp only [e5]
      | ex c fs r2 => simp only [e2]
      | st => simp only [e2]
  | ex c fs r1 => simp only [e, ofR]
  | st => simp only [e, ofR]
theorem gs_putU {st : Stmt} (h : GS X C st (fPut i m fe fi)) (h' : GS X C st (fPut i m' fe fi)) : GS X C st (fPut i (orM m m') fe fi) := by
  rw [fPut_alt]
  exact gs_alt h h'
end
/-- xs[k] = v -/
def fSetL (ds as : List D) : Option (List D × D) := match as with
  | [v, .int k] => (ixN ds.length k).map fun j => (ds.set j v, .non)
  | _ => none
def keyD : D → Option Key
  | .int i => some (.inl i)
  | .str w => some (.inr ⟨w.toArray⟩)
  | _ => none
def getD (kvs : List (Key × D)) (k : Key) : Option D := (kvs.find? fun kv => decide (kv.1 = k)).map (·.2)
def putD (kvs : List (Key × D)) (k : Key) (v : D) : List (Key × D) :=
  if (kvs.any fun kv => decide (kv.1 = k)) = true then kvs.map (fun kv => if kv.1 = k then (kv.1, v) else kv) else kvs ++ [(k, v)]
def asDw : S → Option (List (Key × D))
  | .od k => some k | .bd k => some k | _ => none
def asDr : S → Option (List (Key × D))
  | .od k => some k | .bd k => some k | .kd _ _ k => some k | _ => none
def reD : S → List (Key × D) → S
  | .bd _, k => .bd k
  | _, k => .od k
def mDPut : Mu := fun s as => match asDw s, as with
  | some kvs, [v, k] => (match keyD k with
    | some k => if decide (kvs.length < 16777216) then some (reD s (putD kvs k v), .non) else none
    | none => none)
  | _, _ => none
def tDP : TSet := fun o i v H Q => ∃ a H4, o = .ref a ∧ DPut H a i v H4 ∧ Q H4
section
variable {X : Cx} {C : Ct} {e ie : Expr} {fe fi : Rho → Rs Opd} {i : Nat} {x : Str} {m m' : Mu} {t : TSet} {K : PySem.W.Frag} {U W : Addr → Prop} {H : Hp}
theorem mu_setL : MuOk C (rPut rSetL) (mOf fSetL) := by
  refine mOf_ok fun W H p xs vs ds as ds' d Q hp lv x xv h q => ?_
  match as, xv, h with
  | [a, .int k], .cons y (.cons (.int _) .nil), h =>
    have h : ((ixN ds.length k).map fun j => (ds.set j a, D.non)) = some (ds', _) := h
    cases e : ixN ds.length k with
    | none => rw [e] at h; cases h
    | some j =>
      rw [e] at h; cases h
      exact ⟨_, _, rfl, p, xs, k, j, rfl, rfl, hp, by rw [x.len]; exact e, q _ _ (rps_set j x y) .non⟩
theorem keyD_of {v : V} {d : D} {k : Key} (x : Rp K W H v d) (h : keyD d = some k) : v = kV k := by
  cases x <;> first | (cases h; rfl) | cases h
theorem kr_any {k : Key} : ∀ {xs : List (Key × V)} {ds : List (Key × D)}, KR K W H xs ds → (xs.any fun kv => decide (kv.1 = k)) = ds.any fun kv => decide (kv.1 = k)
  | _, _, .nil => rfl
  | _, _, .cons h t => by rw [List.any_cons, List.any_cons, h.1, kr_any t]
theorem kr_get {k : Key} : ∀ {xs : List (Key × V)} {ds : List (Key × D)}, KR K W H xs ds → match getD ds k with | some d => ∃ v, valV xs k = some v ∧ Rp K W H v d | none => valV xs k = none
  | _, _, .nil => rfl
  | _, _, .cons (a := p) (b := q) h t => by
    by_cases e : q.1 = k
    · have e' : p.1 = k := h.1.trans e
      rw [show getD (q :: _) k = some q.2 by simp [getD, List.find?_cons, e]]
      exact ⟨p.2, valV_pos e', h.2⟩
    · have e' : ¬ p.1 = k := fun z => e (h.1.symm.trans z)
      rw [show getD (q :: _) k = getD _ k by simp [getD, List.find?_cons, e]; rfl, valV_neg e']
      exact kr_get t
theorem kr_map {k : Key} {v : V} {d : D} (y : Rp K W H v d) : ∀ {xs : List (Key × V)} {ds : List (Key × D)}, KR K W H xs ds → KR K W H (xs.map fun kv => if kv.1 = k then (kv.1, v) else kv) (ds.map fun kv => if kv.1 = k then (kv.1, d) else kv)
  | _, _, .nil => .nil
  | _, _, .cons (a := p) (b := q) h t => by
    refine .cons ?_ (kr_map y t)
    dsimp only
    by_cases e : q.1 = k
    · rw [if_pos e, if_pos (h.1.trans e)]; exact ⟨h.1, y⟩
    · rw [if_neg e, if_neg fun z => e (h.1.symm.trans z)]; exact h
theorem kr_app : ∀ {xs ys : List (Key × V)} {ds es : List (Key × D)}, KR K W H xs ds → KR K W H ys es → KR K W H (xs ++ ys) (ds ++ es)
  | _, _, _, _, .nil, h => h
  | _, _, _, _, .cons x t, h => .cons x (kr_app t h)
theorem kr_put {k : Key} {v : V} {d : D} (y : Rp K W H v d) {xs : List (Key × V)} {ds : List (Key × D)} (x : KR K W H xs ds) : KR K W H (putK xs k v) (putD ds k d) := by
  unfold putK putD
  rw [kr_any x]
  by_cases h : (ds.any fun kv => decide (kv.1 = k)) = true
  · rw [if_pos h, if_pos h]; exact kr_map y x
  · rw [if_neg h, if_neg h]; exact kr_app x (.cons ⟨rfl, y⟩ .nil)
theorem mu_dput : MuOk C (rPut tDP) mDPut := by
  intro U W H p s s' vs as d Q ho hw lv xs xv hm q
  have go : ∀ (ls : List (Key × D)) (ys : List (Key × V)), asDw s = some ls → H p = some (.dK ys) → KR C.K W H ys ls → (∀ ds' ys', KR C.K W H ys' ds' → At C.K W H (reD s ds') (.dK ys')) → (∀ ds', s.hard = true → Sl s (reD s ds')) → rPut tDP (.ref p) vs H Q := fun ls ys e1 e2 e3 e4 e5 => by
    unfold mDPut at hm
    rw [e1] at hm
    match as, xv, hm with
    | [a, kd], .cons y (.cons yk .nil), hm =>
      dsimp only at hm
      cases e : keyD kd with
      | none => rw [e] at hm; cases hm
      | some k =>
        rw [e] at hm
        dsimp only at hm
        by_cases hl : decide (ls.length < 16777216) = true
        · rw [if_pos hl] at hm; cases hm
          rw [keyD_of yk e]
          exact ⟨_, _, rfl, p, _, rfl, .k e2 (by rw [sizeLine_eq, e3.len]; exact of_decide_eq_true hl), q _ _ (e4 _ _ (kr_put y e3)) (e5 _) .non⟩
        · rw [if_neg hl] at hm; cases hm
  cases xs with
  | od e x => exact go _ _ rfl e x (fun _ _ y => .od y) fun _ h => by cases h
  | bd e x => exact go _ _ rfl e x (fun _ _ y => .bd y) fun _ _ => ⟨_, rfl⟩
  | _ => first | (cases ho; done) | (cases hm; done)
/-- x[k] = e, a list or a dict -/
def mPut : Mu := orM (mOf fSetL) mDPut
theorem gs_sub {px p1 pos : Pos} (hu : X.A.units + 1 < cLine) (hN : X.N[i]? = some x) (hv : Vis X.env.scope x) (he : GE X C e fe) (hi : GE X C ie fi)
    (ha : ∀ v, assign (.Subscript (.Name x px) ie p1) X.env v = (do
      let ov ← holding [v] (eval (.Name x px) X.env)
      let iv ← holding [v, ov] (eval ie X.env)
      standAt p1
      holding [v, ov, iv] (setItem ov iv v)
      release [v, ov, iv] []) := by intro _; rfl)
    (hs : swapsWithSole [.Subscript (.Name x px) ie p1] e pos.line X.env = pure false := by rfl) (hw : swappedStores [.Subscript (.Name x px) ie p1] e X.env = pure none := by rfl)
    (h1 : (assignEach [.Subscript (.Name x px) ie p1] X.env).map (·.2) = [assign (.Subscript (.Name x px) ie p1) X.env] := by rfl)
    (hs2 : swapsWith e (some (.Subscript (.Name x px) ie p1)) pos.line X.env = pure false := by rfl)
    (hd : (x == ("__debug__" : Str)) = false := by decide) (hcd : (x == ("__classdict__" : Str)) = false := by decide) : GS X C (.Assign [.Subscript (.Name x px) ie p1] e pos) (fPut i mPut fe fi) :=
  gs_putU (gs_put (ps_asg he (pg_sub (pe_var hN hv hd hcd) hi set_list ha) hs hw h1) mu_setL)
    (gs_put (t := tDP) (weakS (ps_dput hu (pe_var hN hv hd hcd) hi he hs2) fun D σ H h => h) mu_dput)
def rDGet : R2 := fun x y H Q => ∃ a v, x = .ref a ∧ DGet H a y (some v) ∧ Q v H
def fDGet (a b : S) : Option S := match asDr a, b with
  | some kvs, .fz k => (match keyD k with | some k => (getD kvs k).map .fz | none => none)
  | _, _ => none
theorem asDr_of {v : V} {s : S} (x : SR K U W H v s) {ds : List (Key × D)} (h : asDr s = some ds) : ∃ p xs, v = .ref p ∧ Rd H p (.dK xs) ∧ KR K W H xs ds := by
  cases x with
  | od e x => cases h; exact ⟨_, _, rfl, .inl e, x⟩
  | bd e x => cases h; exact ⟨_, _, rfl, .inl e, x⟩
  | kd e x => cases h; obtain ⟨_, _, e⟩ := e.ex; exact ⟨_, _, rfl, .inr ⟨_, e⟩, x⟩
  | _ => cases h
theorem pn_dget : PN C (fun vs H Q => ∃ x y, vs = [x, y] ∧ rDGet x y H Q) (p2 fDGet) := by
  refine pn2 fun U W H x y a b s Q lv xa xb h q => ?_
  unfold fDGet at h
  cases e : asDr a with
  | none => rw [e] at h; cases h
  | some kvs =>
    rw [e] at h
    cases b with
    | fz kd =>
      dsimp only at h
      cases e2 : keyD kd with
      | none => rw [e2] at h; cases h
      | some k =>
        rw [e2] at h
        dsimp only at h
        cases e3 : getD kvs k with
        | none => rw [e3] at h; cases h
        | some d =>
          rw [e3] at h; cases h
          obtain ⟨p, xs, rfl, e4, t⟩ := asDr_of xa e
          have g := kr_get (k := k) t
          rw [e3] at g
          obtain ⟨v, g1, g2⟩ := g
          cases xb with
          | fz xb =>
            rw [keyD_of xb e2]
            exact ⟨p, v, rfl, .inl ⟨xs, k, e4, rfl, g1.symm⟩, q _ _ (.same g2)⟩
    | _ => cases h
/-- o[i]: a list, a tuple, a text, a dict -/
theorem ge_sub {pos : Pos} (hu : X.A.units + 1 < cLine) (hn : NoSl ie) (ho : GE X C e fe) (hi : GE X C ie fi) (h : GE X C (.Subscript e ie pos) (eCall (p2 fIx) (eCons fe (eCons fi eNil)))) : GE X C (.Subscript e ie pos) (eCall (orP (p2 fIx) (p2 fDGet)) (eCons fe (eCons fi eNil))) :=
  ge_orP h (ge_op pn_dget (weakE (pe_dget hu ho hi hn) fun σ H Q h => h))
/-- {} -/
def eDic0 : Rho → Rs Opd := fun r => .ok (.val (.od [])) r
theorem ge_dic0 {pos : Pos} : GE X C (.Dict [] [] pos) eDic0 := by
  refine weakE pe_dnewK fun σ H Q h => ?_
  obtain ⟨U, r, s, h⟩ := h
  intro p hp
  obtain ⟨U2, s2, a2, k2, n2⟩ := (Got.od (K := C.K) (W := Wn U σ r) (upd_keep hp) hp (upd_same (o := .dK [])) .nil).fin s
  exact h _ _ U2 s2 a2 Per.refl k2 n2
/-- k in d -/
def inD (a b : S) : Option Bool := match a, asDr b with
  | .fz k, some kvs => (keyD k).map fun k => (getD kvs k).isSome
  | _, _ => none
def fDIn (a b : S) : Option S := (inD a b).map fun k => .fz (.bl k)
def fDNotIn (a b : S) : Option S := (inD a b).map fun k => .fz (.bl (!k))
def rDIn : R2 := fun y x H Q => ∃ a o, x = .ref a ∧ DGet H a y o ∧ Q (.bl o.isSome) H
def rDNotIn : R2 := fun y x H Q => ∃ a o, x = .ref a ∧ DGet H a y o ∧ Q (.bl (!o.isSome)) H
theorem inD_of {x y : V} {a b : S} {k : Bool} (xa : SR K U W H x a) (xb : SR K U W H y b) (h : inD a b = some k) : ∃ p o, y = .ref p ∧ DGet H p x o ∧ o.isSome = k := by
  unfold inD at h
  cases a with
  | fz kd =>
    cases e : asDr b with
    | none => rw [e] at h; cases h
    | some kvs =>
      rw [e] at h
      dsimp only at h
      cases e2 : keyD kd with
      | none => rw [e2] at h; cases h
      | some k =>
        rw [e2] at h; cases h
        obtain ⟨p, xs, rfl, e4, t⟩ := asDr_of xb e
        have g := kr_get (k := k) t
        cases xa with
        | fz xa =>
          rw [keyD_of xa e2]
          refine ⟨p, _, rfl, .inl ⟨xs, k, e4, rfl, rfl⟩, ?_⟩
          cases e3 : getD kvs k with
          | none => rw [e3] at g; simp only [g, e3, Option.isSome_none]
          | some d => rw [e3] at g; obtain ⟨v, g1, g2⟩ := g; simp only [g1, e3, Option.isSome_some]
  | _ => cases h
theorem pn_din : PN C (fun vs H Q => ∃ x y, vs = [x, y] ∧ rDIn x y H Q) (p2 fDIn) := by
  refine pn2 fun U W H x y a b s Q lv xa xb h q => ?_
  unfold fDIn at h
  cases e : inD a b with
  | none => rw [e] at h; cases h
  | some k =>
    rw [e] at h; cases h
    obtain ⟨p, o, h1, h2, h3⟩ := inD_of xa xb e
    exact ⟨p, o, h1, h2, by rw [h3]; exact q (.bl k) H (.same (.bl k))⟩
theorem pn_dnotin : PN C (fun vs H Q => ∃ x y, vs = [x, y] ∧ rDNotIn x y H Q) (p2 fDNotIn) := by
  refine pn2 fun U W H x y a b s Q lv xa xb h q => ?_
  unfold fDNotIn at h
  cases e : inD a b with
  | none => rw [e] at h; cases h
  | some k =>
    rw [e] at h; cases h
    obtain ⟨p, o, h1, h2, h3⟩ := inD_of xa xb e
    exact ⟨p, o, h1, h2, by rw [h3]; exact q (.bl (!k)) H (.same (.bl _))⟩
theorem PN.or2 {rr rr' : R2} {p q : Pr} (h : PN C (fun vs H Q => ∃ x y, vs = [x, y] ∧ rr x y H Q) p) (h' : PN C (fun vs H Q => ∃ x y, vs = [x, y] ∧ rr' x y H Q) q) : PN C (fun vs H Q => ∃ x y, vs = [x, y] ∧ (rr x y H Q ∨ rr' x y H Q)) (orP p q) := by
  intro U W H vs ss s Q lv hs hp k
  rcases PN.or h h' U W H vs ss s Q lv hs hp k with ⟨x, y, e, z⟩ | ⟨x, y, e, z⟩
  · exact ⟨x, y, e, .inl z⟩
  · exact ⟨x, y, e, .inr z⟩
theorem op_din (hu : X.A.units + 1 < cLine) : OpR X (compareOp .In) rDIn := fun pins s σ H x y v u Q I rx ry h => by
  obtain ⟨a, o, rfl, g, q⟩ := h
  obtain rfl : u = Value.ref a := ry
  exact d_in hu I g rx fun s3 I3 => ⟨.bl o.isSome, H, I3, rfl, q⟩
theorem op_dnotin (hu : X.A.units + 1 < cLine) : OpR X (compareOp .NotIn) rDNotIn := fun pins s σ H x y v u Q I rx ry h => by
  obtain ⟨a, o, rfl, g, q⟩ := h
  obtain rfl : u = Value.ref a := ry
  exact d_notIn hu I g rx fun s3 I3 => ⟨.bl (!o.isSome), H, I3, rfl, q⟩
/-- in, of all kinds -/
def qIn : Pr := orP (p2 fIn) (p2 fDIn)
def qNotIn : Pr := orP (p2 fNotIn) (p2 fDNotIn)
theorem op_inA (hu : X.A.units + 1 < cLine) : OpR X (compareOp .In) (fun x y H Q => rInU X.K x y H Q ∨ rDIn x y H Q) := op_inU.or (op_din hu)
theorem op_notInA (hu : X.A.units + 1 < cLine) : OpR X (compareOp .NotIn) (fun x y H Q => rNotInU X.K x y H Q ∨ rDNotIn x y H Q) := op_notInU.or (op_dnotin hu)
theorem pn_inA : PN C (fun vs H Q => ∃ x y, vs = [x, y] ∧ (rInU C.K x y H Q ∨ rDIn x y H Q)) qIn := PN.or2 pn_in pn_din
theorem pn_notInA : PN C (fun vs H Q => ∃ x y, vs = [x, y] ∧ (rNotInU C.K x y H Q ∨ rDNotIn x y H Q)) qNotIn := PN.or2 pn_notIn pn_dnotin
end
end GB
namespace GB
open PySem PySem.Spec PyProof.Rows L2
section
variable {X : Cx} {C : Ct} {e e2 tg : Expr} {fe fe2 : Rho → Rs Opd} {fa : Rho → Rs (List Opd)} {R : It → Hp → Prop} {pins : List (Addr × Obj)} {σ : St} {H : Hp} {s : Shared} {a : Addr}
/-- a list, a tuple or a text is walked -/
def iAny (K : PySem.W.Frag) (v : V) (H : Hp) (R : It → Hp → Prop) : Prop :=
  (∃ a, v = .ref a ∧ (∃ xs, SqL K H a xs) ∧ R (Itl K a) H) ∨ (∃ a, v = .ref a ∧ (∃ xs, SqT K H a xs) ∧ R (Itt K a) H) ∨ ∃ x, v = .str x ∧ R (Its x) H
theorem it_any {v : V} {u : Value} (I : Inv X pins σ H s) (r : RelV v u) (h : iAny X.K v H R) : wpAny (model X.prog X.w) X.A (pyIter u) (PIE X pins σ tg R) X.xe s := by
  rcases h with ⟨a, rfl, ⟨xs, hq⟩, h⟩ | ⟨a, rfl, ⟨xs, hq⟩, h⟩ | ⟨x, rfl, h⟩
  · cases r
    obtain ⟨its, _, p, _⟩ := I.list hq
    exact wpAny_pyIter_list p.isList (pi_one (tk := s.toks) I _ (turn_list a _) ⟨_, Heap.get?_push_size _ rfl, rfl, rfl⟩ h)
  · cases r
    obtain ⟨its, _, p, _⟩ := I.tuple hq
    exact wpAny_pyIter_tuple (show s.heap.IsTuple a its.toArray from p) (pi_one (tk := s.toks) I _ (turn_tuple a _) ⟨_, Heap.get?_push_size _ rfl, rfl, rfl⟩ h)
  · obtain ⟨t, rfl⟩ := r
    by_cases z : x.cps.all (· < 128) = true
    · exact wpAny_pyIter_ascii z (pi_one (tk := s.toks) I _ (turn_str _ x t _ (.inl rfl)) ⟨_, Heap.get?_push_size _ rfl, rfl, rfl⟩ h)
    · exact wpAny_pyIter_wide (Bool.eq_false_iff.mpr z) (pi_one (tk := s.toks) I _ (turn_str _ x t _ (.inr rfl)) ⟨_, Heap.get?_push_size _ rfl, rfl, rfl⟩ h)
theorem pi_any {te : TE} (he : PE X e te) : PI X tg e (fun σ H R => te σ H fun v H1 => iAny X.K v H1 R) :=
  ⟨fun pins s σ H R I h => thn (he.run pins s σ H _ I h) fun u s1 ⟨v, H1, I1, r1, q⟩ => it_any I1 r1 q⟩
/-- what a walk gives, one by one -/
def itemsOf : S → Option (List D)
  | .fz (.str w) => some (w.map fun c => .str [c])
  | s => asQ s
def mkSeq : List S → Option (List D)
  | [s] => itemsOf s
  | _ => none
theorem weakI {wi wi' : TI} (h : PI X tg e wi) (k : ∀ σ H R, wi' σ H R → wi σ H R) : PI X tg e wi' := ⟨fun pins s σ H R I q => h.run pins s σ H R I (k σ H R q)⟩
theorem walkL {K : PySem.W.Frag} {n : Nat} : Walk (Itl K a) n (fun H => ∃ xs, SqL K H a xs ∧ xs.length = n) (fun i H x H' => H' = H ∧ ∀ xs, SqL K H a xs → xs[i]? = some x) :=
  ⟨fun i _ hi ⟨xs, q, e⟩ => ⟨xs, xs[i], q, by simp [e, hi]⟩, fun _ ⟨xs, q, e⟩ => ⟨xs, q, Nat.le_of_eq e⟩, fun _ _ _ _ _ _ y => y⟩
theorem walkT {K : PySem.W.Frag} {n : Nat} : Walk (Itt K a) n (fun H => ∃ xs, SqT K H a xs ∧ xs.length = n) (fun i H x H' => H' = H ∧ ∀ xs, SqT K H a xs → xs[i]? = some x) :=
  ⟨fun i _ hi ⟨xs, q, e⟩ => ⟨xs, xs[i], q, by simp [e, hi]⟩, fun _ ⟨xs, q, e⟩ => ⟨xs, q, Nat.le_of_eq e⟩, fun _ _ _ _ _ _ y => y⟩
theorem srs1 {K : PySem.W.Frag} {U W : Addr → Prop} {v : V} {t : S} (h : SRs K U W H [v] [t]) : SR K U W H v t := by cases h; assumption
theorem git_list {t : S} {p : Addr} {ds : List D} (h : asLs t = some ds) : GItem C (Itl C.K p) ds [.ref p] [t] := by
  refine ⟨_, _, walkL, fun U W H z => ?_, fun i H x H' d U W hd z lv y => ?_⟩
  · obtain ⟨p', xs, e, h2, h3⟩ := asLs_of (srs1 z) h
    cases e
    exact ⟨xs, h2, h3.len⟩
  · obtain ⟨p', xs, e, h2, h3⟩ := asLs_of (srs1 z) h
    cases e
    obtain ⟨rfl, y⟩ := y
    obtain ⟨v, g1, g2⟩ := rps_at h3 hd
    have := y xs h2
    rw [g1] at this
    cases this
    exact ⟨fun _ _ h => h, .inl g2⟩
theorem git_tup {p : Addr} {ds : List D} : GItem C (Itt C.K p) ds [.ref p] [.fz (.tup ds)] := by
  refine ⟨_, _, walkT, fun U W H z => ?_, fun i H x H' d U W hd z lv y => ?_⟩
  · cases srs1 z with | fz z => cases z with | tup e z => exact ⟨_, e.sq, z.len⟩
  · cases srs1 z with
    | fz z =>
      cases z with
      | tup e z =>
        obtain ⟨rfl, y⟩ := y
        obtain ⟨v, g1, g2⟩ := rps_at z hd
        have := y _ e.sq
        rw [g1] at this
        cases this
        exact ⟨fun _ _ h => h, .inl g2⟩
theorem git_str {w : List Nat} : GItem C (Its ⟨w.toArray⟩) (w.map fun c => .str [c]) [.str ⟨w.toArray⟩] [.fz (.str w)] := by
  refine ⟨_, _, by simpa using walk_str (z := ⟨w.toArray⟩), fun U W H z => True.intro, fun i H x H' d U W hd z lv y => ?_⟩
  obtain ⟨rfl, c, e, rfl⟩ := y
  have e : w[i]? = some c := by simpa using e
  rw [List.getElem?_map, e] at hd
  cases hd
  exact ⟨fun _ _ h => h, .inl (.str [c])⟩
theorem gi_seq (he : GE X C e fe) (hK : C.K = X.K := by rfl) : GI X C tg e (eCons fe eNil) mkSeq := by
  refine ⟨fun vs H R => ∃ v, vs = [v] ∧ iAny C.K v H R, ?_, ?_⟩
  · intro vs H ss ds U W R hs hn hm q
    match ss, hs, hm with
    | [t], .cons (a := v) x .nil, hm =>
      refine ⟨v, rfl, ?_⟩
      have hm : itemsOf t = some ds := hm
      have lst : asLs t = some ds → iAny C.K v H R := fun h => by
        obtain ⟨p, xs, rfl, h2, h3⟩ := asLs_of x h
        exact .inl ⟨p, rfl, ⟨xs, h2⟩, q _ (git_list h)⟩
      cases t with
      | fz d =>
        cases d with
        | str w =>
          cases hm
          have e := sr_str x
          subst e
          exact .inr (.inr ⟨_, rfl, q _ git_str⟩)
        | tup es =>
          cases hm
          cases x with
          | fz x => cases x with | tup e z => exact .inr (.inl ⟨_, rfl, ⟨_, e.sq⟩, q _ git_tup⟩)
        | _ => exact lst hm
      | _ => exact lst hm
  · refine weakI (pi_any he) fun σ H R h => ?_
    obtain ⟨U, r, s, h⟩ := h
    refine tE_then (g := fun o r1 => Rs.ok [o] r1) (R := fun z : Rs (List Opd) => match z with | .ok os r' => ∀ vs H' U', Sit C U' H' σ r' → Aft U H σ r U' H' σ r' → Per r r' → OpsOk C U' H' σ r' os vs → NewS H os vs → ∃ v, vs = [v] ∧ iAny C.K v H' R | .ex c fs r' => XWant C U H σ r c fs r' | .st => False) s ?_ id (fun _ _ _ z => z) ?_
    · refine cast ?_ h
      unfold eCons eNil Rs.bind
      cases fe r <;> rfl
    · intro o r1 v H1 U1 s1 a1 p1 k1 n1 h1
      obtain ⟨v', e, q⟩ := h1 [v] H1 U1 s1 a1 p1 (.cons k1 .nil) (.cons n1 .nil)
      cases e
      rw [← hK]
      exact q
def small62 (i : Int) : Bool := decide (-(2 ^ 62) ≤ i ∧ i < 2 ^ 62)
def upFrom (lo : Int) (n : Nat) : List D := (List.range n).map fun k => .int (lo + (k : Nat))
def mkR1 : List S → Option (List D)
  | [.fz (.int j)] => if small62 j then some (upFrom 0 j.toNat) else none
  | _ => none
def mkR2 : List S → Option (List D)
  | [.fz (.int i), .fz (.int j)] => if small62 i && small62 j then some (upFrom i (j - i).toNat) else none
  | _ => none
theorem git_range {lo : Int} {n : Nat} {vs : List V} {ss : List S} : GItem C (Itr lo n) (upFrom lo n) vs ss := by
  refine ⟨_, _, by simpa [upFrom] using walk_range (lo := lo) (n := n), fun U W H z => True.intro, fun i H x H' d U W hd z lv y => ?_⟩
  obtain ⟨rfl, rfl⟩ := y
  unfold upFrom at hd
  rw [List.getElem?_map] at hd
  by_cases hi : i < n
  · rw [List.getElem?_range hi] at hd
    cases hd
    exact ⟨fun _ _ h => h, .inl (.int _)⟩
  · rw [List.getElem?_eq_none (by simpa using hi)] at hd
    cases hd
theorem gi_range1 {p pos : Pos} (hg : Gl X "range") (hm : X.mg "range" = none) (ha : GA X C [e] fa) (hs : starEach [e] X.env = [(false, eval e X.env)] := by rfl) : GI X C tg (.Call (.Name "range" p) [e] [] pos) fa mkR1 := by
  refine ⟨_, ?_, pi_range1 hg hm ha hs⟩
  intro vs H ss ds U W R hs hn hm q
  match ss, hs, hm with
  | [.fz (.int j)], .cons x .nil, hm =>
    have hm : (if small62 j then some (upFrom 0 j.toNat) else none) = some ds := hm
    by_cases z : small62 j = true
    · rw [if_pos z] at hm; cases hm
      have z := of_decide_eq_true z
      rw [sr_int x]
      exact ⟨j, rfl, z.1, z.2, q _ git_range⟩
    · rw [if_neg z] at hm; cases hm
theorem gi_range2 {p pos : Pos} (hg : Gl X "range") (hm : X.mg "range" = none) (ha : GA X C [e, e2] fa) (hs : starEach [e, e2] X.env = [(false, eval e X.env), (false, eval e2 X.env)] := by rfl) (hs2 : starEach [e2] X.env = [(false, eval e2 X.env)] := by rfl) : GI X C tg (.Call (.Name "range" p) [e, e2] [] pos) fa mkR2 := by
  refine ⟨_, ?_, pi_range2 hg hm ha hs hs2⟩
  intro vs H ss ds U W R hs hn hm q
  match ss, hs, hm with
  | [.fz (.int i), .fz (.int j)], .cons x (.cons y .nil), hm =>
    have hm : (if small62 i && small62 j then some (upFrom i (j - i).toNat) else none) = some ds := hm
    by_cases z : (small62 i && small62 j) = true
    · rw [if_pos z] at hm; cases hm
      rw [Bool.and_eq_true] at z
      have z1 := of_decide_eq_true z.1
      have z2 := of_decide_eq_true z.2
      rw [sr_int x, sr_int y]
      exact ⟨i, j, rfl, ⟨z1.1, z1.2, z2.1, z2.2⟩, q _ git_range⟩
    · rw [if_neg z] at hm; cases hm
def mkEnum : List S → Option (List D)
  | [s] => (asLs s).map fun ds => ds.zipIdx.map fun z => .tup [.int (z.2 : Nat), z.1]
  | _ => none
theorem walkE {K : PySem.W.Frag} {n : Nat} : Walk (Ite K a) n (fun H => ∃ xs, SqL K H a xs ∧ xs.length = n) (fun i H v H' => ∃ T x, v = .ref T ∧ H T = none ∧ H' = upd H T (.tup [.int (i : Nat), x]) ∧ ∀ xs, SqL K H a xs → xs[i]? = some x) :=
  ⟨fun i _ hi ⟨xs, q, e⟩ => ⟨xs, xs[i], q, by simp [e, hi]⟩, fun _ ⟨xs, q, e⟩ => ⟨xs, q, Nat.le_of_eq e⟩, fun _ _ _ _ _ _ y => y⟩
theorem gi_enum {p pos tpos : Pos} {elts : List Expr} {kk : Nat} (hg : Gl X "enumerate") (hm : X.mg "enumerate" = none) (ha : GA X C [e] fa) (hs : starEach [e] X.env = [(false, eval e X.env)] := by rfl) (hK : C.K = X.K := by rfl) : GI X C (.Tuple elts kk tpos) (.Call (.Name "enumerate" p) [e] [] pos) fa mkEnum true := by
  refine ⟨_, ?_, pi_enum hg hm ha hs⟩
  intro vs H ss ds U W R hs hn hm q
  match ss, hs, hm with
  | [t], .cons (a := v) x .nil, hm =>
    have hm : (asLs t).map (fun ds => ds.zipIdx.map fun z => D.tup [.int (z.2 : Nat), z.1]) = some ds := hm
    cases e1 : asLs t with
    | none => rw [e1] at hm; cases hm
    | some es =>
      rw [e1] at hm; cases hm
      obtain ⟨p, xs, rfl, h2, h3⟩ := asLs_of x e1
      refine ⟨p, xs, rfl, hK ▸ h2, q _ ⟨_, _, by rw [List.length_map, List.length_zipIdx]; exact walkE (K := X.K) (a := p) (n := es.length), fun U W H z => ?_, fun i H x H' d U W hd z lv y => ?_⟩⟩
      · obtain ⟨p', xs, e, h2, h3⟩ := asLs_of (srs1 z) e1
        cases e
        exact ⟨xs, hK ▸ h2, h3.len⟩
      · obtain ⟨p', xs, e, h2, h3⟩ := asLs_of (srs1 z) e1
        cases e
        obtain ⟨T, w, rfl, hT, rfl, y⟩ := y
        rw [List.getElem?_map, List.getElem?_zipIdx] at hd
        cases e3 : es[i]? with
        | none => rw [e3] at hd; cases hd
        | some d' =>
          rw [e3] at hd; cases hd
          obtain ⟨v, g1, g2⟩ := rps_at h3 e3
          have := y xs (hK ▸ h2)
          rw [g1] at this
          cases this
          refine ⟨upd_keep hT, .inr ⟨rfl, _, _, _, rfl, rfl, .inl (.inl upd_same), .cons ?_ (.cons (g2.mono (monoKeep lv (upd_keep hT))) .nil)⟩⟩
          simp only [Nat.zero_add]
          exact .int _
end
end GB
namespace GB
open PySem PySem.Spec PyProof.Rows L2
theorem revIx (n : Nat) : Builtin.Str.strSliceIndices none none (-1) n = (List.range n).reverse := by
  unfold Builtin.Str.strSliceIndices
  show sliceRange ((n : Int) - 1) (-1) (-1) = _
  rw [PySem.W.krv_sliceRange, PySem.W.krv_range]
theorem allAt (w : List Nat) : (List.range w.length).filterMap (w.toArray[·]?) = w := by
  have key : ∀ (a b : List Nat), (List.range' a.length b.length).filterMap ((a ++ b).toArray[·]?) = b := by
    intro a b
    induction b generalizing a with
    | nil => rfl
    | cons c b ih =>
      rw [List.length_cons, List.range'_succ, List.filterMap_cons]
      have e : (a ++ c :: b).toArray[a.length]? = some c := by simp
      rw [e]
      have h := ih (a ++ [c])
      rw [List.length_append, List.length_singleton, List.append_assoc, List.singleton_append] at h
      rw [h]
  have := key [] w
  rw [List.range_eq_range']
  exact this
section
variable {X : Cx} {C : Ct} {e : Expr} {fe : Rho → Rs Opd} {k : Nat} {p1' p2' p3' pos : Pos}
theorem revMade {w : List Nat} {t u : Tok} : (if (((some ((-1 : Int), u)).map (·.1)).getD 1 == 1 && (slicePicked ⟨w.toArray⟩ none none (some (-1, u))).length == (⟨w.toArray⟩ : Str).length) = true then Made.val (.str ⟨w.toArray⟩ t) else .str ⟨((slicePicked ⟨w.toArray⟩ none none (some (-1, u))).filterMap ((⟨w.toArray⟩ : Str).cps[·]?)).toArray⟩) = .str ⟨w.reverse.toArray⟩ := by
  rw [if_neg (by simp)]
  have e : slicePicked ⟨w.toArray⟩ none none (some (-1, u)) = (List.range w.length).reverse := by
    show Builtin.Str.strSliceIndices none none (-1) (⟨w.toArray⟩ : Str).length = _
    rw [revIx, str_len]
  rw [e, List.filterMap_reverse]
  show Made.str ⟨((List.range w.length).filterMap (w.toArray[·]?)).reverse.toArray⟩ = _
  rw [allAt]
def tRevS (te : TE) : TE := fun σ H Q => te σ H fun x H1 => ∃ w : List Nat, x = .str ⟨w.toArray⟩ ∧ w.length ≤ sizeLine ∧ Q (.str ⟨w.reverse.toArray⟩) H1
theorem pe_revS {te : TE} (he : PE X e te) : PE X (.Subscript e (.Slice none none (some (.UnaryOp .USub (.Constant (.int 1) k p1') p2')) p3') pos) (tRevS te) := by
  refine ⟨fun pins s σ H Q I h => Subscript_ (thn (he.run pins s σ H _ I h) fun v s1 ⟨x, H1, I1, r1, w, ex, hz, q⟩ => ?_)⟩
  subst ex
  obtain ⟨tk, rfl⟩ := r1
  have step : PO X (some (.UnaryOp .USub (.Constant (.int 1) k p1') p2')) _ := po_some (pe_un un_neg pe_int)
  refine wpAny_Slice (thn ((po_none (X := X)).run pins s1 σ H1 (fun o H2 => o = none ∧ H2 = H1) I1 ⟨rfl, rfl⟩) fun vl s2 z2 => ?_)
  obtain ⟨l, H2, I2, pl, rfl, rfl⟩ := z2
  refine thn ((po_none (X := X)).run pins s2 σ H2 (fun o H3 => o = none ∧ H3 = H2) I2 ⟨rfl, rfl⟩) fun vu s3 z3 => ?_
  obtain ⟨u, H3, I3, pu, rfl, rfl⟩ := z3
  refine thn (step.run pins s3 σ H3 (fun o H4 => o = some (-1) ∧ H4 = H3) I3 ⟨1, rfl, -1, rfl, rfl, rfl⟩) fun vs s4 z4 => ?_
  obtain ⟨o, H4, I4, ps, rfl, rfl⟩ := z4
  cases pl
  cases pu
  cases ps with
  | int i t =>
  have I5 : Inv X pins σ H4 { s4 with heap := s4.heap.push { cls := .type "slice", data := .fields #[.none, .none, .int (-1) t] } } := I4.kept (t' := s4.toks) fun b ob q => Heap.get?_push_of_some _ q
  show wpAny (model X.prog X.w) X.A (subscriptTail e _ (.str ⟨w.toArray⟩ tk) (.ref s4.heap.objs.size)) _ X.xe _
  refine tail_any (ops := [.ref s4.heap.objs.size, .str ⟨w.toArray⟩ tk]) (typeIs_str _ _ _) F.slot_str_getitem.lookup ?_ (by with_unfolding_all rfl)
  refine wpAny_getItem_str_slice (l := none) (u := none) (st := some (-1, t)) ⟨_, Heap.get?_push_size _ rfl, rfl, rfl⟩ rfl ?_
  unfold sliceMade
  rw [revMade]
  exact ⟨by rw [str_len, List.length_reverse]; exact hz, .str _, H4, I5.tok _, ⟨_, rfl⟩, q⟩
def fRevS : S → Option S
  | .fz (.str w) => if big w.length then some (.fz (.str w.reverse)) else none
  | _ => none
def fRevL (s : S) : Option S := (asLs s).map fun ds => .ol ds.reverse
theorem pn_revS : PN C (fun vs H Q => ∃ x, vs = [x] ∧ ∃ w : List Nat, x = .str ⟨w.toArray⟩ ∧ w.length ≤ sizeLine ∧ Q (.str ⟨w.reverse.toArray⟩) H) (p1 fRevS) := by
  refine pn1 (rr := fun x H Q => ∃ w : List Nat, x = .str ⟨w.toArray⟩ ∧ w.length ≤ sizeLine ∧ Q (.str ⟨w.reverse.toArray⟩) H) fun U W H x a s Q lv xa h q => ?_
  cases a with
  | fz a =>
    cases a with
    | str w =>
      have h : (if big w.length then some (S.fz (.str w.reverse)) else none) = some s := h
      by_cases z : big w.length = true
      · rw [if_pos z] at h; cases h
        rw [sr_str xa]
        exact ⟨w, rfl, big_le z, q _ _ (.same (.str _))⟩
      · rw [if_neg z] at h; cases h
    | _ => cases h
  | _ => cases h
theorem rps_rev {K : PySem.W.Frag} {W : Addr → Prop} {H : Hp} : ∀ {xs : List V} {ds : List D}, Rps K W H xs ds → Rps K W H xs.reverse ds.reverse
  | _, _, .nil => .nil
  | _, _, .cons x t => by rw [List.reverse_cons, List.reverse_cons]; exact rps_append (rps_rev t) (.cons x .nil)
theorem pn_revL : PN C (fun vs H Q => ∃ x, vs = [x] ∧ ∃ a xs, x = .ref a ∧ SqL C.K H a xs ∧ ∀ p, H p = none → Q (.ref p) (upd H p (.lst xs.reverse))) (p1 fRevL) := by
  refine pn1 (rr := fun x H Q => ∃ a xs, x = .ref a ∧ SqL C.K H a xs ∧ ∀ p, H p = none → Q (.ref p) (upd H p (.lst xs.reverse))) fun U W H x a s Q lv xa h q => ?_
  unfold fRevL at h
  cases e : asLs a with
  | none => rw [e] at h; cases h
  | some ds =>
    rw [e] at h; cases h
    obtain ⟨p, xs, rfl, e2, t⟩ := asLs_of xa e
    exact ⟨p, xs, rfl, e2, fun l hl => q _ _ (Got.newL (C := C) lv hl (rps_rev t))⟩
def qRev : Pr := orP (p1 fRevS) (p1 fRevL)
theorem ge_rev (he : GE X C e fe) (hK : C.K = X.K := by rfl) : GE X C (.Subscript e (.Slice none none (some (.UnaryOp .USub (.Constant (.int 1) k p1') p2')) p3') pos) (eCall qRev (eCons fe eNil)) :=
  ge_orP (ge_un pn_revS (pe_revS he)) (ge_un pn_revL (by rw [hK]; exact pe_revL he))
theorem toStr (z : Str) : z = ⟨z.cps.toList.toArray⟩ := by cases z; simp
end
end GB
namespace GB
open PySem PySem.Spec PyProof.Rows L2
abbrev e1 (p : Pr) (fa : Rho → Rs Opd) : Rho → Rs Opd := eCall p (eCons fa eNil)
abbrev e2 (p : Pr) (fa fb : Rho → Rs Opd) : Rho → Rs Opd := eCall p (eCons fa (eCons fb eNil))
theorem rp_str {K : PySem.W.Frag} {W : Addr → Prop} {H : Hp} {x : Str} {l : List Nat} (h : x = ⟨l.toArray⟩) : Rp K W H (.str x) (.str l) := by subst h; exact .str l
section
variable {X : Cx} {C : Ct} {a b c e : Expr} {es : List Expr} {fa fb fc fe fo : Rho → Rs Opd} {fs : Rho → Rs (List Opd)} {pos p px : Pos} {i : Nat} {x : Str}
theorem x_var (i : Nat) (hN : X.N[i]? = some x := by rfl) (hv : Vis X.env.scope x := by first | exact Or.inl rfl | exact Or.inr (Or.inl rfl) | exact Or.inr (Or.inr rfl)) (hd : (x == ("__debug__" : Str)) = false := by decide) (hcd : (x == ("__classdict__" : Str)) = false := by decide) :
    GE X C (.Name x pos) (eVar i) := ge_var hN hv hd hcd
theorem x_int {n : Int} {j : Nat} : GE X C (.Constant (.int n) j pos) (eC (.int n)) := ge_c pe_int fun _ _ => .int n
theorem x_bl {k : Bool} {j : Nat} : GE X C (.Constant (.bool k) j pos) (eC (.bl k)) := ge_c pe_bl fun _ _ => .bl k
theorem x_non {j : Nat} : GE X C (.Constant .none j pos) (eC .non) := ge_c pe_non fun _ _ => .non
theorem x_str {z : Str} {j : Nat} (l : List Nat) (h : z = ⟨l.toArray⟩ := by rfl) : GE X C (.Constant (.str z) j pos) (eC (.str l)) := ge_c pe_str fun _ _ => rp_str h
/-- a text of the module -/
theorem x_gstr {z : Str} (l : List Nat) (h : ∃ u, X.mg x = some u ∧ RelV (.str z) u) (hl : z = ⟨l.toArray⟩ := by rfl) (hg : Gl X x := by rfl) (hd : (x == ("__debug__" : Str)) = false := by decide) : GE X C (.Name x pos) (eC (.str l)) :=
  ge_c (C8.pe_gc hg h hd) fun _ _ => rp_str hl
theorem x_add (ha : GE X C a fa) (hb : GE X C b fb) (hK : C.K = X.K := by rfl) : GE X C (.BinOp a .Add b pos) (e2 (p2 fAdd) fa fb) := ge_op pn_add (by rw [hK]; exact pe_op op_addU ha hb)
theorem x_sub (ha : GE X C a fa) (hb : GE X C b fb) : GE X C (.BinOp a .Sub b pos) (e2 (p2 (fInts fun i j => some (.fz (.int (i - j))))) fa fb) := ge_op pn_sub (pe_op op_sub ha hb)
theorem x_mod (ha : GE X C a fa) (hb : GE X C b fb) : GE X C (.BinOp a .Mod b pos) (e2 (p2 (fInts fModI)) fa fb) := ge_op pn_mod (pe_op op_mod ha hb)
theorem x_div (ha : GE X C a fa) (hb : GE X C b fb) : GE X C (.BinOp a .FloorDiv b pos) (e2 (p2 (fInts fDivI)) fa fb) := ge_op pn_div (pe_op op_fdiv ha hb)
theorem x_pow (ha : GE X C a fa) (hb : GE X C b fb) : GE X C (.BinOp a .Pow b pos) (e2 (p2 (fInts fPowI)) fa fb) := ge_op pn_pow (pe_op op_pow ha hb)
theorem x_neg (ha : GE X C a fa) : GE X C (.UnaryOp .USub a pos) (e1 (p1 fNeg) fa) := ge_un pn_neg (pe_un un_neg ha)
abbrev qLt : Pr := p2 (fInts fun i j => some (.fz (.bl (decide (i < j)))))
abbrev qLe : Pr := p2 (fInts fun i j => some (.fz (.bl (decide (i ≤ j)))))
abbrev qGt : Pr := p2 (fInts fun i j => some (.fz (.bl (decide (j < i)))))
abbrev qGe : Pr := p2 (fInts fun i j => some (.fz (.bl (decide (j ≤ i)))))
theorem x_ge (ha : GE X C a fa) (hb : GE X C b fb) : GE X C (.Compare a [.GtE] [b] pos) (e2 qGe fa fb) := ge_op (pn_cmpI fun i j => decide (j ≤ i)) (pe_cmpR op_ge ha hb (nobehind _ (by decide) (by decide)))
theorem t_lt (ha : GE X C a fa) (hb : GE X C b fb) : GT X C (.Compare a [.Lt] [b] pos) (eBl (e2 qLt fa fb)) := gt_cmp op_lt (pn_cmpI fun i j => decide (i < j)) ha hb (nobehind _ (by decide) (by decide))
theorem t_le (ha : GE X C a fa) (hb : GE X C b fb) : GT X C (.Compare a [.LtE] [b] pos) (eBl (e2 qLe fa fb)) := gt_cmp op_le (pn_cmpI fun i j => decide (i ≤ j)) ha hb (nobehind _ (by decide) (by decide))
theorem t_gt (ha : GE X C a fa) (hb : GE X C b fb) : GT X C (.Compare a [.Gt] [b] pos) (eBl (e2 qGt fa fb)) := gt_cmp op_gt (pn_cmpI fun i j => decide (j < i)) ha hb (nobehind _ (by decide) (by decide))
theorem t_ge (ha : GE X C a fa) (hb : GE X C b fb) : GT X C (.Compare a [.GtE] [b] pos) (eBl (e2 qGe fa fb)) := gt_cmp op_ge (pn_cmpI fun i j => decide (j ≤ i)) ha hb (nobehind _ (by decide) (by decide))
theorem hu64 {A : Around} {k : Nat} (hr : Room k A) : A.units + 64 < cLine := by have := hr.un; omega
theorem hu1 {A : Around} {k : Nat} (hr : Room k A) : A.units + 1 < cLine := by have := hr.un; omega
theorem x_eq (hr : X.A.units + 64 < cLine) (ha : GE X C a fa) (hb : GE X C b fb) (hK : C.K = X.K := by rfl) : GE X C (.Compare a [.Eq] [b] pos) (e2 (p2 fEq) fa fb) := ge_op pn_eq (by rw [hK]; exact pe_cmpR (op_eqU hr) ha hb (nobehind _ (by decide) (by decide)))
theorem x_ne (hr : X.A.units + 64 < cLine) (ha : GE X C a fa) (hb : GE X C b fb) (hK : C.K = X.K := by rfl) : GE X C (.Compare a [.NotEq] [b] pos) (e2 (p2 fNe) fa fb) := ge_op pn_ne (by rw [hK]; exact pe_cmpR (op_neU hr) ha hb (nobehind _ (by decide) (by decide)))
theorem t_eq (hr : X.A.units + 64 < cLine) (ha : GE X C a fa) (hb : GE X C b fb) (hK : C.K = X.K := by rfl) : GT X C (.Compare a [.Eq] [b] pos) (eBl (e2 (p2 fEq) fa fb)) := gt_cmp (by rw [hK]; exact op_eqU hr) pn_eq ha hb (nobehind _ (by decide) (by decide))
theorem t_ne (hr : X.A.units + 64 < cLine) (ha : GE X C a fa) (hb : GE X C b fb) (hK : C.K = X.K := by rfl) : GT X C (.Compare a [.NotEq] [b] pos) (eBl (e2 (p2 fNe) fa fb)) := gt_cmp (by rw [hK]; exact op_neU hr) pn_ne ha hb (nobehind _ (by decide) (by decide))
theorem x_notIn (hr : X.A.units + 64 < cLine) (ha : GE X C a fa) (hb : GE X C b fb) (hK : C.K = X.K := by rfl) (hm : behindInMarks .NotIn b = false := by with_unfolding_all rfl) : GE X C (.Compare a [.NotIn] [b] pos) (e2 qNotIn fa fb) := ge_op pn_notInA (by rw [hK]; exact pe_cmpR (op_notInA (by omega)) ha hb hm)
theorem t_in (hr : X.A.units + 64 < cLine) (ha : GE X C a fa) (hb : GE X C b fb) (hK : C.K = X.K := by rfl) (hm : behindInMarks .In b = false := by with_unfolding_all rfl) : GT X C (.Compare a [.In] [b] pos) (eBl (e2 qIn fa fb)) := gt_cmp (by rw [hK]; exact op_inA (by omega)) pn_inA ha hb hm
theorem t_notIn (hr : X.A.units + 64 < cLine) (ha : GE X C a fa) (hb : GE X C b fb) (hK : C.K = X.K := by rfl) (hm : behindInMarks .NotIn b = false := by with_unfolding_all rfl) : GT X C (.Compare a [.NotIn] [b] pos) (eBl (e2 qNotIn fa fb)) := gt_cmp (by rw [hK]; exact op_notInA (by omega)) pn_notInA ha hb hm
theorem x_tup {n : Nat} (h : GA X C es fs) : GE X C (.Tuple es n pos) (eTup fs) := ge_tup (pe_tupX h)
theorem x_lst (h : GA X C es fs) : GE X C (.List es pos) (eLst fs) := ge_lst (pe_lst h)
abbrev qIx : Pr := orP (p2 fIx) (p2 fDGet)
theorem x_ix (hr : X.A.units + 64 < cLine) (ha : GE X C a fa) (hb : GE X C b fb) (hK : C.K = X.K := by rfl) (hs : PlainIx b := by intro _ _; rfl) (hn : NoSl b := by intro _ _; rfl) : GE X C (.Subscript a b pos) (e2 qIx fa fb) :=
  ge_sub (by omega) hn ha hb (ge_op pn_ix (by rw [hK]; exact pe_ix ix_seq ha hb hs))
abbrev eSl (fa : Rho → Rs Opd) (fl fh : Option (Rho → Rs Opd)) : Rho → Rs Opd := eCall (p3 fSl) (eCons fa (eCons (ePart fl) (eCons (ePart fh) eNil)))
theorem x_sl {lo hi : Option Expr} {fl fh : Option (Rho → Rs Opd)} (ha : GE X C a fa) (hl : GP X C lo fl) (hh : GP X C hi fh) (hK : C.K = X.K := by rfl) : GE X C (.Subscript a (.Slice lo hi none p) pos) (eSl fa fl fh) :=
  ge_slice sl_U (by rw [← hK]; exact pn_sl) ha hl hh
theorem x_rev {k : Nat} {q1 q2 q3 : Pos} (ha : GE X C a fa) (hK : C.K = X.K := by rfl) : GE X C (.Subscript a (.Slice none none (some (.UnaryOp .USub (.Constant (.int 1) k q1) q2)) q3) pos) (e1 qRev fa) := ge_rev ha hK
theorem x_len (hm : X.mg "len" = none) (ha : GE X C a fa) (hK : C.K = X.K := by rfl) (hg : Gl X "len" := by rfl) (hs : starEach [a] X.env = (false, eval a X.env) :: starEach [] X.env := by rfl) : GE X C (.Call (.Name "len" p) [a] [] pos) (e1 (p1 fLen) fa) :=
  ge_call pn_len (by rw [hK]; exact pe_callB call_len hg hm PySem.boot_len (ga_cons ha ga_nil hs) (he := hs))
theorem x_int1 (hm : X.mg "int" = none) (ha : GE X C a fa) (hg : Gl X "int" := by rfl) (hs : starEach [a] X.env = (false, eval a X.env) :: starEach [] X.env := by rfl) : GE X C (.Call (.Name "int" p) [a] [] pos) (e1 (p1 fInt1) fa) :=
  ge_call pn_int1 (pe_callTy call_int1 hg hm PyProof.Rows.boot_int (ga_cons ha ga_nil hs) (he := hs))
end
end GB
namespace GB
open PySem PySem.Spec PyProof.Rows L2
section
variable {X : Cx} {C : Ct} {a b c e o : Expr} {es : List Expr} {fa fb fc fe fo : Rho → Rs Opd} {fs : Rho → Rs (List Opd)} {pos p px apos cpos : Pos} {i : Nat} {x : Str}
theorem x_lower (ho : GE X C o fo) (hbase : attributeBase o "lower" X.env (eval o X.env) = eval o X.env := by rfl) (hline : (apos.endLine == cpos.line) = true := by rfl) : GE X C (.Call (.Attribute o "lower" apos) [] [] cpos) (eMeth isStr (p1 fLower) fo eNil) :=
  ge_meth0 (pe_bm0 PySem.F.plainAttrs_str PySem.F.slot_str_lower PySem.F.type_str_lower mt_lower ho hbase hline) isStr_ty pn_lower
theorem x_upper (ho : GE X C o fo) (hbase : attributeBase o "upper" X.env (eval o X.env) = eval o X.env := by rfl) (hline : (apos.endLine == cpos.line) = true := by rfl) : GE X C (.Call (.Attribute o "upper" apos) [] [] cpos) (eMeth isStr (p1 fUpper) fo eNil) :=
  ge_meth0 (pe_bm0 PySem.F.plainAttrs_str PySem.F.slot_str_upper PySem.F.type_str_upper mt_upper ho hbase hline) isStr_ty pn_upper
/-- what a method call of a built-in asks of the text -/
structure MCall (X : Cx) (o : Expr) (m : Str) (apos : Pos) (e : Expr) (es : List Expr) (cpos : Pos) : Prop where
  base : attributeBase o m X.env (eval o X.env) = eval o X.env
  few : ((backTo cpos (starEach (e :: es) X.env)).all (fun x => !x.1) && (backToKw cpos (keywordEach [] X.env)).all (fun x => x.1.isSome)
      && decide ((e :: es).length + ([] : List Keyword).length + (if ([] : List Keyword).isEmpty then 0 else 1) < 30)) = true
  line : (apos.endLine == cpos.line) = true
  star : starEach (e :: es) X.env = (false, eval e X.env) :: starEach es X.env
  plain : (backTo cpos (starEach es X.env)).any (·.1) = false
theorem x_join (ho : GE X C o fo) (ha : GE X C e fe) (mc : MCall X o "join" apos e [] cpos) (hK : C.K = X.K := by rfl) : GE X C (.Call (.Attribute o "join" apos) [e] [] cpos) (eMeth isStr (p2 fJoin) fo (eCons fe eNil)) :=
  ge_meth (pe_bm PySem.F.plainAttrs_str PySem.F.slot_str_join PySem.F.type_str_join mt_join ho (ga_cons ha ga_nil mc.star) mc.base mc.few mc.line mc.star mc.plain) isStr_ty (by rw [← hK]; exact pn_join)
theorem x_append (hN : X.N[i]? = some x) (hv : Vis X.env.scope x) (ha : GE X C e fe) (mc : MCall X (.Name x px) "append" apos e [] cpos) (hK : C.K = X.K := by rfl) (hd : (x == ("__debug__" : Str)) = false := by decide) (hcd : (x == ("__classdict__" : Str)) = false := by decide) :
    GE X C (.Call (.Attribute (.Name x px) "append" apos) [e] [] cpos) (eMut isOL (mOf fApp) i (eCons fe eNil)) :=
  ge_mut (by rw [hK]; exact pe_bm PySem.F.plainAttrs_list PySem.F.slot_list_append PySem.F.type_list_append mt_append (pe_var hN hv hd hcd) (ga_cons ha ga_nil mc.star) mc.base mc.few mc.line mc.star mc.plain) isOL_ty mu_append
theorem x_pop (hN : X.N[i]? = some x) (hv : Vis X.env.scope x) (hbase : attributeBase (.Name x px) "pop" X.env (eval (.Name x px) X.env) = eval (.Name x px) X.env := by rfl) (hline : (apos.endLine == cpos.line) = true := by rfl) (hK : C.K = X.K := by rfl) (hd : (x == ("__debug__" : Str)) = false := by decide) (hcd : (x == ("__classdict__" : Str)) = false := by decide) :
    GE X C (.Call (.Attribute (.Name x px) "pop" apos) [] [] cpos) (eMut isOL (mOf fPop0) i eNil) :=
  ge_mut0 (by rw [hK]; exact pe_bm0 PySem.F.plainAttrs_list PySem.F.slot_list_pop PySem.F.type_list_pop mt_pop (pe_var hN hv hd hcd) hbase hline) isOL_ty mu_pop
/-- a def of the module, its function shown -/
def DefOk (P : Program) (w : World) (K : PySem.W.Frag) (mg : Str → Option Value) (base : Heap) (k : Nat) (x : Str) (ps : List Str) (F : Fs) : Prop :=
  ∃ f fd, FnG P w K mg base k f fd ps (spF (ct0 K mg) ps.length F) ∧ mg x = some (.ref f) ∧ PySem.W.keepIn K (.ref f) = true ∧ Binds K fd ps []
theorem x_fn {k j : Nat} {ps : List Str} {F : Fs} (c : DefOk X.prog X.w X.K X.mg X.base j x ps F) (hr : Room k X.A) (hj : j ≤ k) (gu : X.A.guards = some []) (tk : Takes X C.W) (ha : GA X C (e :: es) fs) (ar : Ar fs ps.length) (hK : C.K = X.K := by rfl) (hM : C.mg = X.mg := by rfl) (hg : Gl X x := by rfl) (hdb : (x == ("__debug__" : Str)) = false := by decide)
    (he : starEach (e :: es) X.env = (false, eval e X.env) :: starEach es X.env := by rfl) (hpl : (backTo pos (starEach es X.env)).any (·.1) = false := by rfl) : GE X C (.Call (.Name x p) (e :: es) [] pos) (eFn F fs) := by
  obtain ⟨f, fd, G, hm, hk, hb⟩ := c
  exact ge_callF G (hr.mono hj) gu hg hm hk hb tk ha ar hK hM hdb he hpl
/-- a def of the module, by its text -/
def DefAt (K : PySem.W.Frag) (mg : Str → Option Value) (x : Str) (ps : List Str) (st : Stmt) : Prop :=
  ∃ f fd, L2.Fun K x x st f fd ∧ mg x = some (.ref f) ∧ Binds K fd ps []
theorem def_at {P : Program} {w : World} {K : PySem.W.Frag} {mg : Str → Option Value} {base : Heap} {x : Str} {st : Stmt} {N ps : List Str} {k : Nat} {body : Rho → Fl} (d : DefAt K mg x ps st) (Sc : FnScope N ps (defScope st))
    (hb : ∀ (f : Addr) (cdv : Value) (A : Around) (l : List Env) (t : Shared) (H : Hp) (E : XK), Room k (A.deeper (envOfC x (defScope st) t.heap.objs.size f cdv)) → A.guards = some [] → GSs (bodyCx P w K mg base N x st f cdv A l t H E) (bodyCt K mg E) (defBody st) body) :
    DefOk P w K mg base (k + 1) x ps (runF N.length body) := by
  obtain ⟨f, fd, F, hm, b⟩ := d
  exact ⟨f, fd, def_ok F Sc (hb f), hm, F.kp, b⟩
section
variable {P : Program} {w : World} {K : PySem.W.Frag} {mg : Str → Option Value} {base : Heap} {N : List Str} {qual : Str} {st : Stmt} {f : Addr} {cdv : Value} {A : Around} {l : List Env} {t : Shared} {H : Hp} {E : XK}
theorem tkB : Takes (bodyCx P w K mg base N qual st f cdv A l t H E) (bodyCt K mg E).W := takes_of rfl rfl rfl rfl
theorem psB : PassesOwn (model (bodyCx P w K mg base N qual st f cdv A l t H E).prog (bodyCx P w K mg base N qual st f cdv A l t H E).w) (bodyCx P w K mg base N qual st f cdv A l t H E).A (bodyCx P w K mg base N qual st f cdv A l t H E).env (bodyCx P w K mg base N qual st f cdv A l t H E).xe := passes_of rfl
end
theorem tkQ : Takes X (C.quiet).W := fun _ _ ⟨_, _, _, _, _, _, _, _, _, _, _, _, _, _, _, _, w⟩ => w.elim
end
end GB
namespace GB
open PySem PySem.Spec PyProof.Rows L2
variable {α β : Type} {r : Rho} {i : Nat}
@[simp] theorem bind_ok {a : α} {f : α → Rho → Rs β} : (Rs.ok a r).bind f = f a r := rfl
@[simp] theorem bind_ex {c fs} {f : α → Rho → Rs β} : (Rs.ex c fs r).bind f = .ex c fs r := rfl
@[simp] theorem bind_st {f : α → Rho → Rs β} : (Rs.st : Rs α).bind f = .st := rfl
@[simp] theorem ofR_ok {a : α} {k : α → Rho → Fl} : ofR (.ok a r) k = k a r := rfl
@[simp] theorem ofR_ex {c fs} {k : α → Rho → Fl} : ofR (.ex c fs r) k = .ex c fs r := rfl
@[simp] theorem ofR_st {k : α → Rho → Fl} : ofR (.st : Rs α) k = .st := rfl
section
variable {fa fb fc fe fi fo : Rho → Rs Opd} {ft gt : Rho → Rs Bool} {fs : Rho → Rs (List Opd)} {f g : Rho → Fl} {p q : Pr} {os : List Opd} {o : Opd} {F : Fs} {s : S} {d : D}
@[simp] theorem s_eC : eC d r = .ok (.val (.fz d)) r := rfl
@[simp] theorem s_eNil : eNil r = .ok [] r := rfl
@[simp] theorem s_eCons : eCons fe fs r = (fe r).bind fun o r1 => (fs r1).bind fun os r2 => .ok (o :: os) r2 := rfl
@[simp] theorem s_eCall : eCall p fs r = (fs r).bind (eP p) := rfl
@[simp] theorem s_eVar : eVar i r = match r[i]? with | some (some _) => .ok (.loc i) r | _ => .st := rfl
@[simp] theorem s_eP : eP p os r = match resAll r os with | some ss => (match p ss with | some s => .ok (.val s) r | none => .st) | none => .st := rfl
@[simp] theorem s_res1 : resAll r [] = some [] := rfl
@[simp] theorem s_res2 : resAll r (o :: os) = match res r o, resAll r os with | some s, some ss => some (s :: ss) | _, _ => none := rfl
@[simp] theorem s_resL : res r (.loc i) = (r[i]?).join := rfl
@[simp] theorem s_resV : res r (.val s) = some s := rfl
@[simp] theorem s_eIf : eIf ft fa fb r = (ft r).bind fun b r1 => if b then fa r1 else fb r1 := rfl
@[simp] theorem s_eBl : eBl fe r = (fe r).bind tBl := rfl
@[simp] theorem s_tBl {b : Bool} : tBl (.val (.fz (.bl b))) r = .ok b r := rfl
@[simp] theorem s_eTru : eTru fe r = (fe r).bind tTru := rfl
@[simp] theorem s_tTru : tTru o r = match res r o with | some s => (match tru s with | some b => .ok b r | none => .st) | none => .st := rfl
@[simp] theorem s_eNotT : eNotT ft r = (ft r).bind fun b r1 => .ok (!b) r1 := rfl
@[simp] theorem s_eAndT : eAndT ft gt r = (ft r).bind fun b r1 => if b then gt r1 else .ok false r1 := rfl
@[simp] theorem s_eOrT : eOrT ft gt r = (ft r).bind fun b r1 => if b then .ok true r1 else gt r1 := rfl
@[simp] theorem s_fSeq : fSeq f g r = match f r with | .nx r1 => g r1 | z => z := rfl
@[simp] theorem s_fNil : fNil r = .nx r := rfl
@[simp] theorem s_fRet : fRet fe r = ofR (fe r) handed := by unfold fRet; cases fe r <;> rfl
@[simp] theorem s_fExpr : fExpr fe r = ofR (fe r) fun _ r1 => .nx r1 := by unfold fExpr; cases fe r <;> rfl
@[simp] theorem s_fSet : fSet i fe r = ofR (fe r) (putS i) := by unfold fSet; cases fe r <;> rfl
@[simp] theorem s_fIf : fIf ft f g r = ofR (ft r) fun b r1 => if b then f r1 else g r1 := rfl
@[simp] theorem s_p1 {h : S → Option S} : p1 h [s] = h s := rfl
@[simp] theorem s_p2 {h : S → S → Option S} {t : S} : p2 h [s, t] = h s t := rfl
@[simp] theorem s_p3 {h : S → S → S → Option S} {t u : S} : p3 h [s, t, u] = h s t u := rfl
@[simp] theorem s_eMeth {tt : S → Bool} : eMeth tt p fo fs r = (fo r).bind fun o r1 => match res r1 o with | some s => if tt s then (fs r1).bind fun os r2 => eP p (o :: os) r2 else .st | none => .st := rfl
@[simp] theorem s_isStr {w : List Nat} : isStr (.fz (.str w)) = true := rfl
@[simp] theorem s_pass0 : passAll r [] = some [] := rfl
@[simp] theorem s_passc : passAll r (o :: os) = match pass1 r o, passAll r os with | some s, some ss => some (s :: ss) | _, _ => none := rfl
@[simp] theorem s_pass1v : pass1 r (.val (.fz d)) = some (.fz d) := rfl
@[simp] theorem s_pass1o {ds : List D} : pass1 r (.val (.ol ds)) = some (.fz (.lst ds)) := rfl
@[simp] theorem s_pass1l : pass1 r (.loc i) = match r[i]? with | some (some s) => (match s with | .fz d => some (.fz d) | .ol ds => some (.br ds) | .br ds => some (.br ds) | .lk ds => some (.lk ds) | .od k => some (.bd k) | .bd k => some (.bd k) | .kd _ _ _ => none | .exc _ _ _ _ => none | .nd _ _ => none | .nh _ _ _ => none | .ot _ => none | .kt _ _ _ => none | .ky _ => none) | _ => none := rfl
@[simp] theorem s_eFn : eFn F fs r = (fs r).bind (eFnO F) := rfl
@[simp] theorem s_eFnO : eFnO F os r = match passAll r os with | some ss => if dst r os then (match F ss with | .ok s outs => (match wbAll os outs r with | some r1 => .ok (.val s) r1 | none => .st) | .ex c fs outs => (match wbAll os outs r with | some r1 => .ex c fs r1 | none => .st) | .st => .st) else .st | none => .st := rfl
@[simp] theorem s_dst0 : dst r [] = true := rfl
@[simp] theorem s_dstv : dst r (.val s :: os) = dst r os := rfl
@[simp] theorem s_dstl : dst r (.loc i :: os) = ((if hardAt r i then !(os.any (isLoc i)) else true) && dst r os) := rfl
@[simp] theorem s_isLocv : isLoc i (.val s) = false := rfl
@[simp] theorem s_isLocl {j : Nat} : isLoc i (.loc j) = (i == j) := rfl
@[simp] theorem s_hardAt : hardAt r i = match r[i]? with | some (some s) => !s.soft | _ => false := rfl
@[simp] theorem s_soft1 : S.soft (.fz d) = true := rfl
@[simp] theorem s_soft2 {ds : List D} : S.soft (.ol ds) = false := rfl
@[simp] theorem s_soft3 {ds : List D} : S.soft (.br ds) = false := rfl
@[simp] theorem s_soft4 {ds : List D} : S.soft (.lk ds) = false := rfl
@[simp] theorem s_soft5 {k : List (Key × D)} : S.soft (.od k) = false := rfl
@[simp] theorem s_soft6 {k : List (Key × D)} : S.soft (.bd k) = false := rfl
@[simp] theorem s_soft7 {o : Obj → Prop} {xs : List (Key × V)} {k : List (Key × D)} : S.soft (.kd o xs k) = true := rfl
@[simp] theorem s_soft8 {a dx : Addr} {c : Str} {q : List (Str × D)} : S.soft (.exc a dx c q) = true := rfl
@[simp] theorem s_hard8 {a dx : Addr} {c : Str} {q : List (Str × D)} : S.hard (.exc a dx c q) = false := rfl
@[simp] theorem s_own8 {a dx : Addr} {c : Str} {q : List (Str × D)} : S.own (.exc a dx c q) = false := rfl
@[simp] theorem s_hard1 : S.hard (.fz d) = false := rfl
@[simp] theorem s_hard2 {ds : List D} : S.hard (.ol ds) = false := rfl
@[simp] theorem s_hard3 {ds : List D} : S.hard (.br ds) = true := rfl
@[simp] theorem s_hard4 {ds : List D} : S.hard (.lk ds) = true := rfl
@[simp] theorem s_hard5 {k : List (Key × D)} : S.hard (.od k) = false := rfl
@[simp] theorem s_hard6 {k : List (Key × D)} : S.hard (.bd k) = true := rfl
@[simp] theorem s_hard7 {o : Obj → Prop} {xs : List (Key × V)} {k : List (Key × D)} : S.hard (.kd o xs k) = true := rfl
@[simp] theorem s_own1 : S.own (.fz d) = false := rfl
@[simp] theorem s_own2 {ds : List D} : S.own (.ol ds) = true := rfl
@[simp] theorem s_own3 {ds : List D} : S.own (.br ds) = true := rfl
@[simp] theorem s_own4 {ds : List D} : S.own (.lk ds) = false := rfl
@[simp] theorem s_own5 {k : List (Key × D)} : S.own (.od k) = true := rfl
@[simp] theorem s_own6 {k : List (Key × D)} : S.own (.bd k) = true := rfl
@[simp] theorem s_own7 {o : Obj → Prop} {xs : List (Key × V)} {k : List (Key × D)} : S.own (.kd o xs k) = false := rfl
@[simp] theorem s_wb0 : wbAll [] [] r = some r := rfl
@[simp] theorem s_wbc {t : S} {ts : List S} : wbAll (o :: os) (t :: ts) r = match wb1 o t r with | some r1 => wbAll os ts r1 | none => none := rfl
@[simp] theorem s_wb1v {t : S} : wb1 (.val s) t r = some r := rfl
@[simp] theorem s_wb1l {t : S} : wb1 (.loc i) t r = match r[i]? with
    | some (some (.ol _)) => (match t with | .br ds => some (r.set i (some (.ol ds))) | _ => none)
    | some (some (.br _)) => (match t with | .br ds => some (r.set i (some (.br ds))) | _ => none)
    | some (some (.od _)) => (match t with | .bd ds => some (r.set i (some (.od ds))) | _ => none)
    | some (some (.bd _)) => (match t with | .bd ds => some (r.set i (some (.bd ds))) | _ => none)
    | some (some (.ot _)) => none
    | some (some _) => some r
    | _ => none := rfl
@[simp] theorem s_handv : handed (.val s) r = if s.hard then .st else .rt s r := rfl
@[simp] theorem s_handl : handed (.loc i) r = match r[i]? with
    | some (some (.fz d)) => .rt (.fz d) r
    | some (some (.ol ds)) => .rt (.ol ds) (r.set i none)
    | some (some (.od ds)) => .rt (.od ds) (r.set i none)
    | _ => .st := rfl
@[simp] theorem s_takev : take (.val s) r = if s.hard then none else some (s, r) := rfl
@[simp] theorem s_takel : take (.loc i) r = match frz1 (.loc i) r with | some (d, r1) => some (.fz d, r1) | none => none := rfl
@[simp] theorem s_putS : putS i o r = match take o r with | some (s, r1) => if free r1 i then .nx (r1.set i (some s)) else .st | none => .st := rfl
@[simp] theorem s_free : free r i = match r[i]? with | some none => true | some (some s) => !s.hard | none => false := rfl
@[simp] theorem s_frz1v : frz1 (.val (.fz d)) r = some (d, r) := rfl
@[simp] theorem s_frz1o {ds : List D} : frz1 (.val (.ol ds)) r = some (.lst ds, r) := rfl
@[simp] theorem s_frz1l : frz1 (.loc i) r = match r[i]? with
    | some (some (.fz d)) => some (d, r)
    | some (some (.ol ds)) => some (.lst ds, r.set i (some (.fz (.lst ds))))
    | _ => none := rfl
@[simp] theorem s_frz0 : frzAll [] r = some ([], r) := rfl
@[simp] theorem s_frzc : frzAll (o :: os) r = match frz1 o r with | some (d, r1) => (match frzAll os r1 with | some (ds, r2) => some (d :: ds, r2) | none => none) | none => none := rfl
@[simp] theorem s_eTup : eTup fs r = (fs r).bind fun os r1 => match frzAll os r1 with | some (ds, r2) => if os.length ≤ 1000 then .ok (.val (.fz (.tup ds))) r2 else .st | none => .st := rfl
@[simp] theorem s_eLst : eLst fs r = (fs r).bind fun os r1 => match frzAll os r1 with | some (ds, r2) => if os.length ≤ 1000 then .ok (.val (.ol ds)) r2 else .st | none => .st := rfl
@[simp] theorem s_eMut {tt : S → Bool} {m : Mu} : eMut tt m i fs r = match ownAt r i with | some s => if tt s then (fs r).bind (mutP m i) else .st | none => .st := rfl
@[simp] theorem s_ownAt : ownAt r i = match r[i]? with | some (some s) => if s.own then some s else none | _ => none := rfl
@[simp] theorem s_mutP {m : Mu} : mutP m i os r = match frzAll os r with
    | some (ds, r2) => (match ownAt r2 i with
      | some s => (match m s ds with | some (s', d) => .ok (.val (.fz d)) (r2.set i (some s')) | none => .st)
      | none => .st)
    | none => .st := rfl
@[simp] theorem s_isOL1 {ds : List D} : isOL (.ol ds) = true := rfl
@[simp] theorem s_isOL2 {ds : List D} : isOL (.br ds) = true := rfl
@[simp] theorem s_fPut {m : Mu} : fPut i m fe fi r = ofR (fe r) fun o r1 => match ownAt r1 i with | some _ => ofR (fi r1) fun o2 r2 => ofR (mutP m i [o, o2] r2) fun _ r3 => .nx r3 | none => .st := rfl
@[simp] theorem s_eNot : eNot fa r = (fa r).bind fun o r1 => match blOf o r1 with | some b => .ok (.val (.fz (.bl (!b)))) r1 | none => .st := rfl
@[simp] theorem s_ePartN : ePart none r = .ok (.val (.fz .non)) r := rfl
@[simp] theorem s_ePartS : ePart (some fe) r = (fe r).bind fun o r1 => if isI o r1 then .ok o r1 else .st := rfl
@[simp] theorem s_isI : isI o r = match res r o with | some (.fz (.int _)) => true | _ => false := rfl
@[simp] theorem s_mOf {h : List D → List D → Option (List D × D)} {ds : List D} : mOf h s ds = match asO s with | some xs => (h xs ds).map fun z => (reO s z.1, z.2) | none => none := rfl
@[simp] theorem s_asO1 {ds : List D} : asO (.ol ds) = some ds := rfl
@[simp] theorem s_asO2 {ds : List D} : asO (.br ds) = some ds := rfl
@[simp] theorem s_reO1 {ds es : List D} : reO (.ol ds) es = .ol es := rfl
@[simp] theorem s_reO2 {ds es : List D} : reO (.br ds) es = .br es := rfl
@[simp] theorem s_fFor {mk : List S → Option (List D)} {fg : D → Rho → Option Rho} : fFor fs mk fg f r = ofR (fs r) fun os r1 => match lockAll os r1 with
  | some (ss, r2, u) => (match mk ss with | some ds => mapFl (unlR u) (forL fg f ds r2) | none => .st)
  | none => .st := rfl
@[simp] theorem s_eLc {mk : List S → Option (List D)} {fg : D → Rho → Option Rho} {vs : List Nat} : eLc fs mk fg ft fe vs r = (fs r).bind fun os r1 => match lockAll os r1 with
  | some (ss, r2, u) => (match mk ss with
    | some ds => if softs r2 vs then
        (match cmpL fg ft fe vs ds (wipeR r2 vs) [] with | .ok acc r3 => .ok (.val (.ol acc)) (unlR u (restR r2 r3 vs)) | _ => .st)
        else .st
    | none => .st)
  | none => .st := rfl
@[simp] theorem s_lock0 : lockAll [] r = some ([], r, []) := rfl
@[simp] theorem s_lockc : lockAll (o :: os) r = match lockO o r with
    | some (s, r1, u1) => (match lockAll os r1 with | some (ss, r2, u2) => some (s :: ss, r2, u1 ++ u2) | none => none)
    | none => none := rfl
@[simp] theorem s_lockv : lockO (.val (.fz d)) r = some (.fz d, r, []) := rfl
@[simp] theorem s_locko {ds : List D} : lockO (.val (.ol ds)) r = some (.lk ds, r, []) := rfl
@[simp] theorem s_lockl : lockO (.loc i) r = match r[i]? with
    | some (some (.fz d)) => some (.fz d, r, [])
    | some (some (.lk ds)) => some (.lk ds, r, [])
    | some (some (.ol ds)) => some (.lk ds, r.set i (some (.lk ds)), [(i, .ol ds)])
    | some (some (.br ds)) => some (.lk ds, r.set i (some (.lk ds)), [(i, .br ds)])
    | some (some (.kd o xs ks)) => some (.kd o xs ks, r, [])
    | some (some (.kt o xs ks)) => some (.kt o xs ks, r, [])
    | _ => none := rfl
@[simp] theorem s_unl0 : unlR [] r = r := rfl
@[simp] theorem s_unlc {u : List (Nat × S)} : unlR ((i, s) :: u) r = (unlR u r).set i (some s) := rfl
@[simp] theorem s_softs {vs : List Nat} : softs r (i :: vs) = ((match r[i]? with | some none => true | some (some (.fz _)) => true | _ => false) && softs r vs) := by
  unfold softs
  rw [List.all_cons] <;> congr 1
@[simp] theorem s_softs0 : softs r [] = true := rfl
@[simp] theorem s_wipe0 : wipeR r [] = r := rfl
@[simp] theorem s_wipec {vs : List Nat} : wipeR r (i :: vs) = (wipeR r vs).set i none := rfl
@[simp] theorem s_rest0 {r0 : Rho} : restR r0 r [] = r := rfl
@[simp] theorem s_restc {r0 : Rho} {vs : List Nat} : restR r0 r (i :: vs) = (restR r0 r vs).set i (r0[i]?).join := rfl
@[simp] theorem s_gNm : gNm i d r = if free r i then some (r.set i (some (.fz d))) else none := rfl
@[simp] theorem s_eYes : eYes r = .ok true r := rfl
theorem s_orP {ss : List S} : orP p q ss = match p ss with | none => q ss | z => z := rfl
@[simp] theorem s_runF {n : Nat} {ss : List S} : runF n f ss = match f (startR n ss) with
  | .nx r => .ok (.fz .non) (outsL ss r)
  | .rt s r => .ok s (outsL ss r)
  | .ex c fs r => .ex c fs (outsL ss r)
  | _ => .st := rfl
@[simp] theorem s_outs0 : outsL [] r = [] := rfl
@[simp] theorem s_outsc {ss : List S} : outsL (s :: ss) r = (if s.hard then (match r.head? with | some (some t) => t | _ => s) else s) :: outsL ss r.tail := rfl
@[simp] theorem s_start {n : Nat} {ss : List S} : startR n ss = words ss ++ List.replicate (n - ss.length) none := rfl
@[simp] theorem s_words {ss : List S} : words ss = ss.map some := rfl
@[simp] theorem s_mapnx {h : Rho → Rho} : mapFl h (.nx r) = .nx (h r) := rfl
@[simp] theorem s_mapct {h : Rho → Rho} : mapFl h (.ct r) = .ct (h r) := rfl
@[simp] theorem s_mapbk {h : Rho → Rho} : mapFl h (.bk r) = .bk (h r) := rfl
@[simp] theorem s_maprt {h : Rho → Rho} : mapFl h (.rt s r) = .rt s (h r) := rfl
@[simp] theorem s_mapex {c fs'} {h : Rho → Rho} : mapFl h (.ex c fs' r) = .ex c fs' (h r) := rfl
@[simp] theorem s_fInts {h : Int → Int → Option S} {i j : Int} : fInts h (.fz (.int i)) (.fz (.int j)) = h i j := rfl
@[simp] theorem s_mkR1 {j : Int} : mkR1 [.fz (.int j)] = if small62 j then some (upFrom 0 j.toNat) else none := rfl
@[simp] theorem s_mkR2 {i j : Int} : mkR2 [.fz (.int i), .fz (.int j)] = if small62 i && small62 j then some (upFrom i (j - i).toNat) else none := rfl
@[simp] theorem s_mkSeq : mkSeq [s] = itemsOf s := rfl
end
section
variable {fg : D → Rho → Option Rho} {ft : Rho → Rs Bool} {fe : Rho → Rs Opd} {f : Rho → Fl} {vs : List Nat} {r0 : Rho} {ds acc : List D}
/-- a for loop by a word that holds behind each turn -/
theorem forL_ind (P : Nat → Rho → Prop) : ∀ {ds : List D} {r : Rho} (k : Nat), P k r → (∀ i d r, ds[i]? = some d → P (k + i) r → ∃ r1, fg d r = some r1 ∧ ∃ r2, (f r1 = .nx r2 ∨ f r1 = .ct r2) ∧ P (k + i + 1) r2) → ∃ r', forL fg f ds r = .nx r' ∧ P (k + ds.length) r'
  | [], r, k, h0, hs => ⟨r, rfl, h0⟩
  | d :: ds, r, k, h0, hs => by
    obtain ⟨r1, e1, r2, e2, h2⟩ := hs 0 d r rfl h0
    obtain ⟨r', e3, h3⟩ := forL_ind P (ds := ds) (r := r2) (k + 1) h2 fun i d' r' hd hp => by
      have := hs (i + 1) d' r' (by simpa using hd) (by rw [Nat.add_right_comm] at hp; exact hp)
      rw [Nat.add_right_comm k 1 i]
      exact this
    refine ⟨r', ?_, by rw [List.length_cons, Nat.add_comm ds.length 1, ← Nat.add_assoc]; exact h3⟩
    rw [forL, e1]
    rcases e2 with e2 | e2 <;> simp only [e2] <;> exact e3
theorem forL_inv (P : Nat → Rho → Prop) {ds : List D} {r : Rho} (h0 : P 0 r) (hs : ∀ i d r, ds[i]? = some d → P i r → ∃ r1, fg d r = some r1 ∧ ∃ r2, (f r1 = .nx r2 ∨ f r1 = .ct r2) ∧ P (i + 1) r2) : ∃ r', forL fg f ds r = .nx r' ∧ P ds.length r' := by
  have := forL_ind P (ds := ds) (r := r) 0 h0 fun i d r hd hp => by rw [Nat.zero_add] at hp ⊢; exact hs i d r hd hp
  rw [Nat.zero_add] at this
  exact this
end
end GB
namespace GB
open PySem PySem.Spec PyProof.Rows L2
theorem subAt1 (c : Nat) (l : List Nat) (i : Nat) : subAtL [c] l i = (l[i]? == some c) := by
  unfold subAtL
  by_cases h : i < l.length
  · rw [List.drop_eq_getElem_cons h, List.getElem?_eq_getElem h]
    have : decide (i + [c].length ≤ l.length) = true := decide_eq_true (by rw [List.length_singleton]; omega)
    rw [this, Bool.true_and]
    show ([l[i]] == [c]) = (some l[i] == some c)
    rw [Bool.eq_iff_iff, beq_iff_eq, beq_iff_eq]
    simp
  · rw [List.getElem?_eq_none (by omega)]
    have : decide (i + [c].length ≤ l.length) = false := decide_eq_false (by rw [List.length_singleton]; omega)
    rw [this]
    rfl
theorem subIx_one (c : Nat) : ∀ l : List Nat, subIx [c] l = l.findIdx? (· == c) := by
  intro l
  have e : subAtL [c] l = fun i => l[i]? == some c := funext (subAt1 c l)
  unfold subIx
  rw [e]
  induction l with
  | nil => rfl
  | cons a l ih =>
    have ih := ih (funext (subAt1 c l))
    rw [List.length_cons, List.range_succ_eq_map, List.find?_cons, List.find?_map, List.findIdx?_cons]
    by_cases h : a = c
    · subst h; simp
    · have h1 : ((a :: l)[0]? == some c) = false := by simp [h]
      have h2 : (a == c) = false := by simp [h]
      rw [h1, h2]
      simp only [Bool.false_eq_true, if_false]
      have e2 : ((fun i => (a :: l)[i]? == some c) ∘ Nat.succ) = fun i => l[i]? == some c := by funext i; rfl
      rw [e2, ih]
theorem subIx_isSome (c : Nat) (l : List Nat) : (subIx [c] l).isSome = decide (c ∈ l) := by
  rw [subIx_one, List.findIdx?_isSome, Bool.eq_iff_iff, List.any_eq_true, decide_eq_true_iff]
  simp
@[simp] theorem s_qIn1 {c : Nat} {l : List Nat} : qIn [.fz (.str [c]), .fz (.str l)] = some (.fz (.bl (decide (c ∈ l)))) := by
  unfold qIn
  simp [s_orP, fIn, inS, subIx_isSome]
@[simp] theorem s_qNotIn1 {c : Nat} {l : List Nat} : qNotIn [.fz (.str [c]), .fz (.str l)] = some (.fz (.bl (!decide (c ∈ l)))) := by
  unfold qNotIn
  simp [s_orP, fNotIn, inS, subIx_isSome]
theorem strsOf_map {α : Type} (f : α → List Nat) : ∀ l : List α, strsOf (l.map fun a => .str (f a)) = some (l.map f)
  | [] => rfl
  | a :: l => by
    show (strsOf (l.map fun a => D.str (f a))).map (f a :: ·) = _
    rw [strsOf_map f l]; rfl
theorem joinN_nil : ∀ ws : List (List Nat), joinN [] ws = ws.flatten
  | [] => rfl
  | [p] => by show p = _; simp
  | p :: q :: r => by
    show p ++ ([] ++ joinN [] (q :: r)) = _
    rw [joinN_nil (q :: r)]; simp
@[simp] theorem s_fJoin {sep : List Nat} {ds : List D} : fJoin (.fz (.str sep)) (.ol ds) = match strsOf ds with
      | some ws => if big ((ws.map List.length).sum + ws.length * sep.length) then some (.fz (.str (joinN sep ws))) else none
      | none => none := rfl
/-- one turn of a comprehension: what it adds -/
def cturn (fg : D → Rho → Option Rho) (ft : Rho → Rs Bool) (fe : Rho → Rs Opd) (vs : List Nat) (d : D) (r : Rho) : Option (List D × Rho) := match fg d r with
  | none => none
  | some r1 => match ft r1 with
    | .ok false r2 => some ([], wipeR r2 vs)
    | .ok true r2 => (match fe r2 with
      | .ok o r3 => (match frz1 o r3 with | some (y, r4) => some ([y], wipeR r4 vs) | none => none)
      | _ => none)
    | _ => none
theorem cturn_len {fg : D → Rho → Option Rho} {ft : Rho → Rs Bool} {fe : Rho → Rs Opd} {vs : List Nat} {d : D} {r r' : Rho} {ys : List D} (h : cturn fg ft fe vs d r = some (ys, r')) : ys.length ≤ 1 := by
  unfold cturn at h
  cases e1 : fg d r with
  | none => rw [e1] at h; cases h
  | some r1 =>
    simp only [e1] at h
    cases e2 : ft r1 with
    | st => simp only [e2] at h; cases h
    | ex c fs r => simp only [e2] at h; cases h
    | ok b r2 =>
      simp only [e2] at h
      cases b with
      | false => cases h; exact Nat.zero_le _
      | true =>
        cases e3 : fe r2 with
        | st => simp only [e3] at h; cases h
        | ex c fs r => simp only [e3] at h; cases h
        | ok o r3 =>
          simp only [e3] at h
          cases e4 : frz1 o r3 with
          | none => simp only [e4] at h; cases h
          | some z => simp only [e4] at h; cases h; exact Nat.le_refl _
theorem cmpL_turn {fg : D → Rho → Option Rho} {ft : Rho → Rs Bool} {fe : Rho → Rs Opd} {vs : List Nat} {d : D} {ds acc : List D} {r r' : Rho} {ys : List D} (h : cturn fg ft fe vs d r = some (ys, r')) (hl : acc.length < 16777216) : cmpL fg ft fe vs (d :: ds) r acc = cmpL fg ft fe vs ds r' (acc ++ ys) := by
  rw [cmpL]
  unfold cturn at h
  cases e1 : fg d r with
  | none => rw [e1] at h; cases h
  | some r1 =>
    simp only [e1] at h ⊢
    cases e2 : ft r1 with
    | st => simp only [e2] at h; cases h
    | ex c fs r => simp only [e2] at h; cases h
    | ok b r2 =>
      simp only [e2] at h ⊢
      cases b with
      | false => cases h; rw [List.append_nil]
      | true =>
        cases e3 : fe r2 with
        | st => simp only [e3] at h; cases h
        | ex c fs r => simp only [e3] at h; cases h
        | ok o r3 =>
          simp only [e3] at h ⊢
          cases e4 : frz1 o r3 with
          | none => simp only [e4] at h; cases h
          | some z => simp only [e4] at h ⊢; cases h; rw [if_pos hl]
/-- a comprehension, turn by turn -/
theorem cmpL_go {fg : D → Rho → Option Rho} {ft : Rho → Rs Bool} {fe : Rho → Rs Opd} {vs : List Nat} (P : Nat → Rho → List D → Prop) : ∀ {ds acc : List D} {r : Rho} (k : Nat), acc.length + ds.length ≤ 16777216 → P k r acc → (∀ i d r acc, ds[i]? = some d → P (k + i) r acc → ∃ ys r', cturn fg ft fe vs d r = some (ys, r') ∧ P (k + i + 1) r' (acc ++ ys)) →
    ∃ r' acc', cmpL fg ft fe vs ds r acc = .ok acc' r' ∧ P (k + ds.length) r' acc'
  | [], acc, r, k, _, h0, _ => ⟨r, acc, rfl, h0⟩
  | d :: ds, acc, r, k, hl, h0, hs => by
    rw [List.length_cons] at hl
    obtain ⟨ys, r1, e1, h1⟩ := hs 0 d r acc rfl h0
    have hy := cturn_len e1
    obtain ⟨r', a', e2, h2⟩ := cmpL_go P (ds := ds) (acc := acc ++ ys) (r := r1) (k + 1) (by rw [List.length_append]; omega) h1 fun i d' r'' a'' hd hq => by
      have := hs (i + 1) d' r'' a'' (by simpa using hd) (by rw [Nat.add_right_comm] at hq; exact hq)
      rw [Nat.add_right_comm k 1 i]
      exact this
    exact ⟨r', a', by rw [cmpL_turn e1 (by omega)]; exact e2, by rw [List.length_cons, Nat.add_comm ds.length 1, ← Nat.add_assoc]; exact h2⟩
theorem cmpL_each {fg : D → Rho → Option Rho} {ft : Rho → Rs Bool} {fe : Rho → Rs Opd} {vs : List Nat} {r0 : Rho} (g : D → List D) : ∀ {ds acc : List D}, acc.length + ds.length ≤ 16777216 → (∀ d ∈ ds, cturn fg ft fe vs d r0 = some (g d, r0)) → cmpL fg ft fe vs ds r0 acc = .ok (acc ++ ds.flatMap g) r0
  | [], acc, _, _ => by rw [cmpL, List.flatMap_nil, List.append_nil]
  | d :: ds, acc, hl, h => by
    rw [List.length_cons] at hl
    have e := h d (List.mem_cons_self ..)
    have hy := cturn_len e
    rw [cmpL_turn e (by omega), cmpL_each g (ds := ds) (by rw [List.length_append]; omega) fun d' hd => h d' (List.mem_cons_of_mem _ hd), List.flatMap_cons, List.append_assoc]
theorem flat_sing {α β : Type} (g : α → β) : ∀ ds : List α, ds.flatMap (fun d => [g d]) = ds.map g
  | [] => rfl
  | d :: ds => by rw [List.flatMap_cons, flat_sing g ds]; rfl
/-- each item becomes one -/
theorem cmpL_one {fg : D → Rho → Option Rho} {ft : Rho → Rs Bool} {fe : Rho → Rs Opd} {vs : List Nat} {r0 : Rho} (g : D → D) {ds : List D} (hl : ds.length ≤ 16777216) (h : ∀ d ∈ ds, cturn fg ft fe vs d r0 = some ([g d], r0)) : cmpL fg ft fe vs ds r0 [] = .ok (ds.map g) r0 := by
  rw [cmpL_each (fun d => [g d]) (by simpa using hl) h, flat_sing]; rfl
theorem flat_one (f : Nat → Nat) : ∀ l : List Nat, (l.map fun a => [f a]).flatten = l.map f
  | [] => rfl
  | a :: l => by rw [List.map_cons, List.flatten_cons, flat_one f l]; rfl
theorem sum_one (f : Nat → Nat) : ∀ l : List Nat, ((l.map fun a => [f a]).map List.length).sum = l.length
  | [] => rfl
  | a :: l => by rw [List.map_cons, List.map_cons, List.sum_cons, sum_one f l, List.length_cons]; simp; omega
theorem fWhile_go {ft : Rho → Rs Bool} {f : Rho → Fl} (P : Nat → Rho → Prop) (Q : Rho → Prop) (hs : ∀ k r, P k r → (∃ r1, ft r = .ok false r1 ∧ Q r1) ∨ ∃ r1 r2 k', ft r = .ok true r1 ∧ (f r1 = .nx r2 ∨ f r1 = .ct r2) ∧ k' < k ∧ P k' r2) : ∀ k r, P k r → ∃ r', fWhile ft f r = .nx r' ∧ Q r' := by
  intro k
  induction k using Nat.strongRecOn with
  | _ k ih =>
    intro r hp
    rcases hs k r hp with ⟨r1, e1, h1⟩ | ⟨r1, r2, k', e1, e2, lt, h2⟩
    · exact ⟨r1, by rw [fWhile_eq, e1]; rfl, h1⟩
    · obtain ⟨r', e3, h3⟩ := ih k' lt r2 h2
      refine ⟨r', ?_, h3⟩
      rw [fWhile_eq, e1]
      rcases e2 with e2 | e2 <;> simp [e2, e3]
theorem atI_n {α : Type} (l : List α) (k : Nat) : atI l (k : Int) = l[k]? := by
  unfold atI ixN
  rw [if_pos (by omega)]
  by_cases h : (k : Int) < l.length
  · rw [if_pos h]; simp
  · rw [if_neg h]; simp only [Option.bind_none]; rw [List.getElem?_eq_none (by omega)]
theorem ixN_n {n k : Nat} (h : k < n) : ixN n (k : Int) = some k := by
  unfold ixN
  rw [if_pos (by omega), if_pos (by omega)]
  simp
@[simp] theorem s_ixB {ds : List D} {k : Int} : qIx [.br ds, .fz (.int k)] = (atI ds k).map .fz := by
  show (match (atI ds k).map S.fz with | none => (none : Option S) | z => z) = _
  cases atI ds k <;> rfl
@[simp] theorem s_ixO {ds : List D} {k : Int} : qIx [.ol ds, .fz (.int k)] = (atI ds k).map .fz := by
  show (match (atI ds k).map S.fz with | none => (none : Option S) | z => z) = _
  cases atI ds k <;> rfl
@[simp] theorem s_ixK {ds : List D} {k : Int} : qIx [.lk ds, .fz (.int k)] = (atI ds k).map .fz := by
  show (match (atI ds k).map S.fz with | none => (none : Option S) | z => z) = _
  cases atI ds k <;> rfl
@[simp] theorem s_ixF {ds : List D} {k : Int} : qIx [.fz (.lst ds), .fz (.int k)] = (atI ds k).map .fz := by
  show (match (atI ds k).map S.fz with | none => (none : Option S) | z => z) = _
  cases atI ds k <;> rfl
@[simp] theorem s_ixT {ds : List D} {k : Int} : qIx [.fz (.tup ds), .fz (.int k)] = (atI ds k).map .fz := by
  show (match (atI ds k).map S.fz with | none => (none : Option S) | z => z) = _
  cases atI ds k <;> rfl
@[simp] theorem s_ixS {w : List Nat} {k : Int} : qIx [.fz (.str w), .fz (.int k)] = if big w.length then (atI w k).map fun c => .fz (.str [c]) else none := by
  show (match (if big w.length then (atI w k).map fun c => S.fz (.str [c]) else none) with | none => (none : Option S) | z => z) = _
  by_cases h : big w.length = true
  · rw [if_pos h]; cases atI w k <;> rfl
  · rw [if_neg h]
@[simp] theorem s_putB {ds : List D} {v : D} {k : Int} : mPut (.br ds) [v, .int k] = (ixN ds.length k).map fun j => (.br (ds.set j v), .non) := by
  unfold mPut orM mDPut
  simp [fSetL]
  cases ixN ds.length k <;> simp [asDw]
@[simp] theorem s_putO {ds : List D} {v : D} {k : Int} : mPut (.ol ds) [v, .int k] = (ixN ds.length k).map fun j => (.ol (ds.set j v), .non) := by
  unfold mPut orM mDPut
  simp [fSetL]
  cases ixN ds.length k <;> simp [asDw]
@[simp] theorem s_addI {i j : Int} : fAdd (.fz (.int i)) (.fz (.int j)) = some (.fz (.int (i + j))) := rfl
@[simp] theorem s_addS {a b : List Nat} : fAdd (.fz (.str a)) (.fz (.str b)) = if big (a.length + b.length) then some (.fz (.str (a ++ b))) else none := rfl
@[simp] theorem s_mulI {i j : Int} : fMul (.fz (.int i)) (.fz (.int j)) = if (-(2 ^ 64) < i ∧ i < 2 ^ 64) ∨ (-(2 ^ 64) < j ∧ j < 2 ^ 64) then some (.fz (.int (i * j))) else none := rfl
@[simp] theorem s_lenS {w : List Nat} : fLen (.fz (.str w)) = if big w.length then some (.fz (.int w.length)) else none := by
  show Option.map (fun n : Int => S.fz (.int n)) ((if big w.length = true then some w.length else none : Option Nat).bind fun a => some (a : Int)) = _
  by_cases h : big w.length = true
  · rw [if_pos h, if_pos h]; rfl
  · rw [if_neg h, if_neg h]; rfl
@[simp] theorem s_lenO {ds : List D} : fLen (.ol ds) = some (.fz (.int ds.length)) := rfl
@[simp] theorem s_lenB {ds : List D} : fLen (.br ds) = some (.fz (.int ds.length)) := rfl
@[simp] theorem s_lenK {ds : List D} : fLen (.lk ds) = some (.fz (.int ds.length)) := rfl
@[simp] theorem s_lenF {ds : List D} : fLen (.fz (.lst ds)) = some (.fz (.int ds.length)) := rfl
@[simp] theorem s_lenT {ds : List D} : fLen (.fz (.tup ds)) = some (.fz (.int ds.length)) := rfl
@[simp] theorem s_lenC {ds : List D} : fLen (.fz (.scr ds)) = some (.fz (.int ds.length)) := rfl
@[simp] theorem s_truB {b : Bool} : tru (.fz (.bl b)) = some b := rfl
@[simp] theorem s_truI {i : Int} : tru (.fz (.int i)) = some (i != 0) := rfl
end GB
namespace GB
open PySem PySem.Spec PyProof.Rows L2
/-- a slot that may be stored to: empty, or a tree -/
def sf (x : Option S) : Prop := x = none ∨ ∃ d, x = some (.fz d)
theorem sf_n : sf none := .inl rfl
theorem sf_f {d : D} : sf (some (.fz d)) := .inr ⟨_, rfl⟩
theorem upFrom_get {lo : Int} {n i : Nat} {d : D} (h : (upFrom lo n)[i]? = some d) : i < n ∧ d = .int (lo + (i : Nat)) := by
  unfold upFrom at h
  rw [List.getElem?_map] at h
  by_cases hi : i < n
  · rw [List.getElem?_range hi] at h; cases h; exact ⟨hi, rfl⟩
  · rw [List.getElem?_eq_none (by simpa using hi)] at h; cases h
theorem upFrom_len {lo : Int} {n : Nat} : (upFrom lo n).length = n := by simp [upFrom]
theorem small_n {n : Nat} (h : n ≤ 16777216) : small62 (n : Int) = true := decide_eq_true ⟨by omega, by omega⟩
@[simp] theorem s_neS {a b : List Nat} : fNe (.fz (.str a)) (.fz (.str b)) = some (.fz (.bl (!decide (a = b)))) := rfl
@[simp] theorem s_eqS {a b : List Nat} : fEq (.fz (.str a)) (.fz (.str b)) = some (.fz (.bl (decide (a = b)))) := rfl
@[simp] theorem s_neI {a b : Int} : fNe (.fz (.int a)) (.fz (.int b)) = some (.fz (.bl (!decide (a = b)))) := rfl
@[simp] theorem s_eqI {a b : Int} : fEq (.fz (.int a)) (.fz (.int b)) = some (.fz (.bl (decide (a = b)))) := rfl
theorem big_of {n : Nat} (h : n ≤ 16777216) : big n = true := decide_eq_true h
end GB
namespace GB
open PySem PySem.Spec PyProof.Rows L2
theorem mapFl_id (z : Fl) : mapFl (unlR []) z = z := by cases z <;> rfl
section
variable {fs : Rho → Rs (List Opd)} {fg : D → Rho → Option Rho} {f : Rho → Fl} {r r1 : Rho} {n : Nat} {ft : Rho → Rs Bool} {fe : Rho → Rs Opd} {vs : List Nat}
theorem if_small (h : n ≤ 16777216) : (if small62 (n : Int) then some (upFrom 0 (n : Int).toNat) else none) = some (upFrom 0 n) := by
  rw [small_n h, Int.toNat_natCast]
  rfl
theorem mkR1_n (h : n ≤ 16777216) : mkR1 [.fz (.int (n : Nat))] = some (upFrom 0 n) := by
  rw [s_mkR1]
  exact if_small h
/-- a walk over a value that is a tree -/
theorem for_fz {d : D} {mk : List S → Option (List D)} {ds : List D} (h : fs r = .ok [.val (.fz d)] r1) (hk : mk [.fz d] = some ds) : fFor fs mk fg f r = forL fg f ds r1 := by
  unfold fFor
  rw [h]
  show (match mk [.fz d] with | some ds => mapFl (unlR []) (forL fg f ds r1) | none => .st) = _
  rw [hk]
  exact mapFl_id _
theorem for_r1 (h : fs r = .ok [.val (.fz (.int (n : Nat)))] r1) (hn : n ≤ 16777216) : fFor fs mkR1 fg f r = forL fg f (upFrom 0 n) r1 := for_fz h (mkR1_n hn)
theorem for_ol {es : List D} {mk : List S → Option (List D)} {ds : List D} (h : fs r = .ok [.val (.ol es)] r1) (hk : mk [.lk es] = some ds) : fFor fs mk fg f r = forL fg f ds r1 := by
  unfold fFor
  rw [h]
  show (match mk [.lk es] with | some ds => mapFl (unlR []) (forL fg f ds r1) | none => .st) = _
  rw [hk]
  exact mapFl_id _
/-- a walk over a slot that holds a tree -/
theorem for_lfz {i : Nat} {d : D} {mk : List S → Option (List D)} {ds : List D} (h : fs r = .ok [.loc i] r1) (hi : r1[i]? = some (some (.fz d))) (hk : mk [.fz d] = some ds) : fFor fs mk fg f r = forL fg f ds r1 := by
  unfold fFor
  rw [h]
  have e : lockAll [.loc i] r1 = some ([.fz d], r1, []) := by simp [hi]
  show (match lockAll [.loc i] r1 with | some (ss, r2, u) => (match mk ss with | some ds => mapFl (unlR u) (forL fg f ds r2) | none => .st) | none => .st) = _
  rw [e]
  show (match mk [.fz d] with | some ds => mapFl (unlR []) (forL fg f ds r1) | none => .st) = _
  rw [hk]
  exact mapFl_id _
end
end GB
namespace GB
open PySem PySem.Spec PyProof.Rows L2
variable {α : Type} {l : List α} {n : Nat}
@[simp] theorem atI_0 : atI l 0 = l[0]? := atI_n l 0
@[simp] theorem atI_1 : atI l 1 = l[1]? := atI_n l 1
@[simp] theorem atI_2 : atI l 2 = l[2]? := atI_n l 2
@[simp] theorem atI_3 : atI l 3 = l[3]? := atI_n l 3
@[simp] theorem atI_4 : atI l 4 = l[4]? := atI_n l 4
@[simp] theorem atI_5 : atI l 5 = l[5]? := atI_n l 5
@[simp] theorem atI_6 : atI l 6 = l[6]? := atI_n l 6
@[simp] theorem atI_7 : atI l 7 = l[7]? := atI_n l 7
@[simp] theorem atI_8 : atI l 8 = l[8]? := atI_n l 8
@[simp] theorem atI_9 : atI l 9 = l[9]? := atI_n l 9
@[simp] theorem atI_10 : atI l 10 = l[10]? := atI_n l 10
@[simp] theorem atI_11 : atI l 11 = l[11]? := atI_n l 11
@[simp] theorem atI_12 : atI l 12 = l[12]? := atI_n l 12
@[simp] theorem atI_13 : atI l 13 = l[13]? := atI_n l 13
theorem ixN_k {n k : Nat} : ixN n (k : Int) = if k < n then some k else none := by
  by_cases h : k < n
  · rw [ixN_n h, if_pos h]
  · rw [if_neg h]; unfold ixN; rw [if_pos (by omega), if_neg (by omega)]
@[simp] theorem ixN_0 : ixN n 0 = if 0 < n then some 0 else none := ixN_k (k := 0)
@[simp] theorem ixN_1 : ixN n 1 = if 1 < n then some 1 else none := ixN_k (k := 1)
@[simp] theorem ixN_2 : ixN n 2 = if 2 < n then some 2 else none := ixN_k (k := 2)
@[simp] theorem ixN_3 : ixN n 3 = if 3 < n then some 3 else none := ixN_k (k := 3)
@[simp] theorem ixN_4 : ixN n 4 = if 4 < n then some 4 else none := ixN_k (k := 4)
@[simp] theorem ixN_5 : ixN n 5 = if 5 < n then some 5 else none := ixN_k (k := 5)
@[simp] theorem ixN_6 : ixN n 6 = if 6 < n then some 6 else none := ixN_k (k := 6)
@[simp] theorem ixN_7 : ixN n 7 = if 7 < n then some 7 else none := ixN_k (k := 7)
@[simp] theorem ixN_8 : ixN n 8 = if 8 < n then some 8 else none := ixN_k (k := 8)
@[simp] theorem ixN_9 : ixN n 9 = if 9 < n then some 9 else none := ixN_k (k := 9)
@[simp] theorem ixN_10 : ixN n 10 = if 10 < n then some 10 else none := ixN_k (k := 10)
@[simp] theorem ixN_11 : ixN n 11 = if 11 < n then some 11 else none := ixN_k (k := 11)
@[simp] theorem ixN_12 : ixN n 12 = if 12 < n then some 12 else none := ixN_k (k := 12)
@[simp] theorem ixN_13 : ixN n 13 = if 13 < n then some 13 else none := ixN_k (k := 13)
end GB
namespace GB
open PySem PySem.Spec PyProof.Rows L2
def shownL (d : D) : List Nat := d.py.shown.cps.toList
theorem depth_str (l : List Nat) : (D.str l).py.depth = 0 := by rw [D.py, PyData.depth]
/-- a slot that may be stored to -/
def nh (x : Option S) : Prop := x = none ∨ ∃ s, x = some s ∧ s.hard = false
end GB
namespace GB
open PySem PySem.Spec PyProof.Rows L2
section
variable {X : Cx} {C : Ct} {a b e o : Expr} {fa fb fe fo : Rho → Rs Opd} {fs : Rho → Rs (List Opd)} {pos p px apos cpos : Pos} {i : Nat} {x : Str}
theorem pn_ii {rr : List V → Hp → VK → Prop} {f : Int → Int → Int} (h : ∀ (H : Hp) (i j : Int) (Q : VK), Q (.int (f i j)) H → rr [.int i, .int j] H Q) : PN C rr (p2 (fInts fun i j => some (.fz (.int (f i j))))) := by
  intro U W H vs ss s Q lv hs hp q
  match ss, hs, hp with
  | [a, b], .cons xa (.cons xb .nil), hp =>
    cases a with
    | fz a =>
      cases a with
      | int i =>
        cases b with
        | fz b =>
          cases b with
          | int j => cases hp; rw [sr_int xa, sr_int xb]; exact h H i j Q (q _ _ (.same (.int _)))
          | _ => cases hp
        | _ => cases hp
      | _ => cases b <;> first | cases hp | (rename_i d; cases d <;> cases hp)
    | _ => cases b <;> first | cases hp | (rename_i d; cases d <;> cases hp)
abbrev qMax : Pr := p2 (fInts fun i j => some (.fz (.int (if j > i then j else i))))
abbrev qMin : Pr := p2 (fInts fun i j => some (.fz (.int (if j < i then j else i))))
theorem x_max (hc : X.calm = true) (hm : X.mg "max" = none) (ha : GA X C [a, b] fs) (hg : Gl X "max" := by rfl) (hs : starEach [a, b] X.env = (false, eval a X.env) :: starEach [b] X.env := by rfl) (hpl : (backTo pos (starEach [b] X.env)).any (·.1) = false := by rfl) : GE X C (.Call (.Name "max" p) [a, b] [] pos) (eCall qMax fs) :=
  ge_call (pn_ii fun H i j Q h => ⟨i, j, rfl, h⟩) (pe_callB (call_max2 hc) hg hm PyProof.Rows.boot_max ha (he := hs) (hpl := hpl))
theorem x_min (hc : X.calm = true) (hm : X.mg "min" = none) (ha : GA X C [a, b] fs) (hg : Gl X "min" := by rfl) (hs : starEach [a, b] X.env = (false, eval a X.env) :: starEach [b] X.env := by rfl) (hpl : (backTo pos (starEach [b] X.env)).any (·.1) = false := by rfl) : GE X C (.Call (.Name "min" p) [a, b] [] pos) (eCall qMin fs) :=
  ge_call (pn_ii fun H i j Q h => ⟨i, j, rfl, h⟩) (pe_callB (call_min2 hc) hg hm PyProof.Rows.boot_min ha (he := hs) (hpl := hpl))
def fAbs : S → Option S
  | .fz (.int i) => some (.fz (.int (if i < 0 then -i else i)))
  | _ => none
theorem pn_abs : PN C (fun xs H Q => ∃ i, xs = [.int i] ∧ Q (.int (if i < 0 then -i else i)) H) (p1 fAbs) := by
  intro U W H vs ss s Q lv hs hp q
  match ss, hs, hp with
  | [a], .cons xa .nil, hp =>
    cases a with
    | fz a =>
      cases a with
      | int i => cases hp; rw [sr_int xa]; exact ⟨i, rfl, q _ _ (.same (.int _))⟩
      | _ => cases hp
    | _ => cases hp
theorem x_abs (hm : X.mg "abs" = none) (ha : GE X C a fa) (hg : Gl X "abs" := by rfl) (hs : starEach [a] X.env = (false, eval a X.env) :: starEach [] X.env := by rfl) : GE X C (.Call (.Name "abs" p) [a] [] pos) (e1 (p1 fAbs) fa) :=
  ge_call pn_abs (pe_callB call_abs hg hm PyProof.Rows.boot_abs (ga_cons ha ga_nil hs) (he := hs))
def fFind : S → S → Option S
  | .fz (.str l), .fz (.str q) => some (.fz (.int (match subIx q l with | some n => (n : Int) | none => -1)))
  | _, _ => none
theorem pn_find : PN C (fun vs H Q => ∃ x xs, vs = x :: xs ∧ ∃ a b, x = .str a ∧ xs = [.str b] ∧ Q (.int (Txt.find a b)) H) (p2 fFind) := by
  refine pnm1 (rr := fun x xs H Q => ∃ a b, x = .str a ∧ xs = [.str b] ∧ Q (.int (Txt.find a b)) H) fun U W H x y a b s Q lv xa xb h q => ?_
  cases a with
  | fz a =>
    cases a with
    | str l =>
      cases b with
      | fz b =>
        cases b with
        | str p =>
          cases h
          rw [sr_str xa, sr_str xb]
          refine ⟨_, _, rfl, rfl, ?_⟩
          have e : Txt.find ⟨l.toArray⟩ ⟨p.toArray⟩ = (match subIx p l with | some n => (n : Int) | none => -1) := by
            unfold Txt.find
            rw [occ_subIx]
            cases subIx p l <;> rfl
          rw [e]
          exact q _ _ (.same (.int _))
        | _ => cases h
      | _ => cases h
    | _ => cases b <;> first | cases h | (rename_i d; cases d <;> cases h)
  | _ => cases b <;> first | cases h | (rename_i d; cases d <;> cases h)
theorem x_find (ho : GE X C o fo) (ha : GE X C e fe) (mc : MCall X o "find" apos e [] cpos) : GE X C (.Call (.Attribute o "find" apos) [e] [] cpos) (eMeth isStr (p2 fFind) fo (eCons fe eNil)) :=
  ge_meth (pe_bm PySem.F.plainAttrs_str PySem.F.slot_str_find PySem.F.type_str_find mt_find ho (ga_cons ha ga_nil mc.star) mc.base mc.few mc.line mc.star mc.plain) isStr_ty pn_find
theorem x_gint {n : Int} (h : ∃ u, X.mg x = some u ∧ RelV (.int n) u) (hg : Gl X x := by rfl) (hd : (x == ("__debug__" : Str)) = false := by decide) : GE X C (.Name x pos) (eC (.int n)) :=
  ge_c (C8.pe_gc hg h hd) fun _ _ => .int n
end
end GB
namespace GB
open PySem PySem.Spec PyProof.Rows L2
def isX : S → Bool
  | .exc _ _ _ _ => true | .kd _ _ _ => true | .nd _ _ => true | .nh _ _ _ => true | .ot _ => true | .kt _ _ _ => true | .ky _ => true | _ => false
/-- a type that may be asked for -/
inductive BT | str | int | bool | tuple | list | dict
def isA (s : S) : BT → Bool
  | .str => (match s with | .fz (.str _) => true | _ => false)
  | .int => (match s with | .fz (.int _) => true | .fz (.bl _) => true | _ => false)
  | .bool => (match s with | .fz (.bl _) => true | _ => false)
  | .tuple => (match s with | .fz (.tup _) => true | _ => false)
  | .list => (match s with | .fz (.lst _) => true | .fz (.scr _) => true | .ol _ => true | .br _ => true | .lk _ => true | _ => false)
  | .dict => (match s with | .fz (.dic _ _) => true | .od _ => true | .bd _ => true | .kd _ _ _ => true | _ => false)
section
variable {X : Cx} {C : Ct} {K : PySem.W.Frag} {U W : Addr → Prop} {H : Hp} {v : V} {s : S} {e : Expr} {fe : Rho → Rs Opd} {pos p q : Pos}
def fIsA (T : BT) : S → Option S := fun s => match isX s with | true => none | false => some (.fz (.bl (isA s T)))
def blsOf : List D → Option (List Bool)
  | [] => some []
  | .bl b :: ds => (blsOf ds).map (b :: ·)
  | _ :: _ => none
theorem blsOf_of : ∀ {xs : List V} {ds : List D} {bs : List Bool}, Rps K W H xs ds → blsOf ds = some bs → xs = bs.map V.bl
  | _, _, _, .nil, h => by cases h; rfl
  | _, d :: ds, bs, .cons x t, h => by
    cases x with
    | bl b =>
      have h : (blsOf ds).map (b :: ·) = some bs := h
      cases e : blsOf ds with
      | none => rw [e] at h; cases h
      | some b2 => rw [e] at h; cases h; rw [blsOf_of t e]; rfl
    | _ => cases h
def fAny (s : S) : Option S := match asLs s with
  | some ds => (blsOf ds).map fun bs => .fz (.bl (bs.any id))
  | none => none
theorem pn_any : PN C (rAny C.K) (p1 fAny) := by
  intro U W H vs ss s Q lv hs hp q
  match ss, hs, hp with
  | [a], .cons xa .nil, hp =>
    have hp : fAny a = some s := hp
    unfold fAny at hp
    cases e : asLs a with
    | none => rw [e] at hp; cases hp
    | some ds =>
      rw [e] at hp
      dsimp only at hp
      cases e2 : blsOf ds with
      | none => rw [e2] at hp; cases hp
      | some bs =>
        rw [e2] at hp; cases hp
        obtain ⟨p, xs, rfl, h2, t⟩ := asLs_of xa e
        rw [blsOf_of t e2] at h2
        exact ⟨p, bs, rfl, h2, q _ _ (.same (.bl _))⟩
theorem x_any (hc : X.calm = true) (hm : X.mg "any" = none) (ha : GE X C e fe) (hK : C.K = X.K := by rfl) (hg : Gl X "any" := by rfl) (hs : starEach [e] X.env = (false, eval e X.env) :: starEach [] X.env := by rfl) : GE X C (.Call (.Name "any" p) [e] [] pos) (e1 (p1 fAny) fe) :=
  ge_call pn_any (by rw [hK]; exact pe_callB (cr_any hc) hg hm PyProof.Rows.boot_any (ga_cons ha ga_nil hs) (he := hs))
end
end GB
namespace GB
open PySem PySem.Spec PyProof.Rows L2
section
variable {C : Ct} {U U' : Addr → Prop} {H H' : Hp} {σ σ' : St} {r r' : Rho}
theorem Sit.poke2 {p : Addr} {o : HO} (s0 : Sit C U H σ r) (s : Sit C U' H' σ' r') (a : Aft U H σ r U' H' σ' r') (hp : H p = none) (up : U' p) (ho : ∃ kvs, o = .dK kvs) :
    Sit C U' (upd H' p o) σ' r' ∧ Aft U H σ r U' (upd H' p o) σ' r' ∧ (∀ {vs : List V} {ds : List D}, Rps C.K (Wn U' σ' r') H' vs ds → Rps C.K (Wn U' σ' r') (upd H' p o) vs ds) := by
  obtain ⟨xs, rfl⟩ := ho
  have m : Mono (fun _ => False) (Wn U' σ' r') H' (fun _ => False) (Wn U' σ' r') (upd H' p (.dK xs)) :=
    ⟨s.wlv, fun b o n h => by rw [upd_ne (fun z => n (by rw [z]; exact .inr up))]; exact h, fun b o n _ => n, fun _ _ z => z.elim, fun _ z => z.elim⟩
  have keep : ∀ b o, b ≠ p → H' b = some o → upd H' p (.dK xs) b = some o := fun b o n h => by rw [upd_ne n]; exact h
  refine ⟨⟨s.len, fun j t h => ?_, s.inj, s.dis, fun b h => ?_⟩, ⟨a.sub, a.new, a.grow, fun b o h n => keep b o (fun z => by rw [z, hp] at h; cases h) (a.keep b o h n), fun b o h => ?_, a.pin, a.lok⟩, fun x => x.mono m⟩
  · obtain ⟨v, e, x⟩ := s.rep j t h
    refine ⟨v, e, ?_⟩
    have own : ∀ b, t.own = true → v = .ref b → b ≠ p := fun b z1 z2 z => by subst z; exact s.dis b ⟨j, t, h, z1, by rw [e, z2]⟩ up
    have lk : ∀ b, t.lkd = true → v = .ref b → b ≠ p := fun b z1 z2 z => by
      subst z
      obtain ⟨g1, g2⟩ := a.lok j t h z1
      obtain ⟨w, e', y⟩ := s0.rep j t g1
      rw [← g2, e] at e'; cases e'
      exact (s0.uok b (y.lkLv z1 z2)).ne hp
    cases x with
    | fz x => exact .fz (x.mono m)
    | ol e1 x => exact .ol (keep _ _ (own _ rfl rfl) e1) (x.mono m)
    | br e1 x => exact .br (keep _ _ (own _ rfl rfl) e1) (x.mono m)
    | lk e1 u x => exact .lk (keep _ _ (lk _ rfl rfl) e1) u (x.mono m)
    | od e1 x => exact .od (keep _ _ (own _ rfl rfl) e1) (x.mono m)
    | bd e1 x => exact .bd (keep _ _ (own _ rfl rfl) e1) (x.mono m)
    | kd e1 x => exact .kd (e1.to fun o h => keep _ _ (fun z => by subst z; exact (s.uok _ up).fzn h) h) (x.mono m)
    | exc e1 x => exact .exc (keep _ _ (fun z => by subst z; exact (s.uok _ up).xd e1) e1) (x.mono m)
    | nd x => exact .nd (x.mono m)
    | nh e1 x => exact .nh (e1.to fun o u h => keep _ _ (fun z => by subst z; exact (s.uok _ up).fzn h) h) (x.mono m)
    | ot e1 x => exact .ot (keep _ _ (own _ rfl rfl) e1) (x.mono m)
    | kt e1 x => exact .kt (e1.to fun o h => keep _ _ (fun z => by subst z; exact (s.uok _ up).fzn h) h) (x.mono m)
    | ky e1 => exact .ky (e1.to m.tup)
  · by_cases z : b = p
    · subst z; exact .inr (.inl ⟨xs, upd_same⟩)
    · rcases s.uok b h with ⟨y, l⟩ | ⟨y, l⟩ | ⟨y, l⟩
      · exact .inl ⟨y, keep _ _ z l⟩
      · exact .inr (.inl ⟨y, keep _ _ z l⟩)
      · exact .inr (.inr ⟨y, keep _ _ z l⟩)
  · by_cases z : b = p
    · subst z; exact ⟨_, upd_same⟩
    · obtain ⟨o', h'⟩ := a.there b o h
      exact ⟨o', keep _ _ z h'⟩
end
/-- keys and values by turns -/
def eKVs : List ((Rho → Rs Opd) × (Rho → Rs Opd)) → Rho → Rs (List Opd)
  | [] => eNil
  | (k, v) :: l => eCons k (eCons v (eKVs l))
def flatP : List (V × V) → List V
  | [] => []
  | (x, y) :: l => x :: y :: flatP l
def pairD : List D → Option (List (Key × D))
  | [] => some []
  | k :: v :: ds => match keyD k, pairD ds with
    | some k, some l => some ((k, v) :: l)
    | _, _ => none
  | _ => none
def mergeD (kvs : List (Key × D)) : List (Key × D) := kvs.foldl (fun acc kv => putD acc kv.1 kv.2) []
def eDisp (l : List ((Rho → Rs Opd) × (Rho → Rs Opd))) : Rho → Rs Opd := fun r => (eKVs l r).bind fun os r1 => match frzAll os r1 with
  | some (ds, r2) => (match pairD ds with | some kvs => if kvs.length ≤ 15 then .ok (.val (.od (mergeD kvs))) r2 else .st | none => .st)
  | none => .st
section
variable {X : Cx} {C : Ct}
abbrev RA (C : Ct) (U : Addr → Prop) (H : Hp) (σ : St) (r : Rho) (Q : List V → Hp → Prop) : Rs (List Opd) → Prop := fun z => match z with
  | .ok os r' => ∀ vs H' U', Sit C U' H' σ r' → Aft U H σ r U' H' σ r' → Per r r' → OpsOk C U' H' σ r' os vs → NewS H os vs → Q vs H'
  | .ex c fs r' => XWant C U H σ r c fs r'
  | .st => False
theorem pairs_reading : ∀ (l : List ((Rho → Rs Opd) × (Rho → Rs Opd))) {σ : St} {H : Hp} {Q : List (V × V) → Hp → Prop}, tA C (eKVs l) σ H (fun vs H' => ∃ ps, vs = flatP ps ∧ Q ps H') → tPairs (l.map fun z => (tE C z.1, tE C z.2)) σ H Q
  | [], σ, H, Q, h => by
    obtain ⟨U, r, s, h⟩ := h
    obtain ⟨ps, e, q⟩ := h [] H U s Aft.refl Per.refl .nil .nil
    match ps, e with
    | [], _ => exact q
  | (k, v) :: l, σ, H, Q, h => by
    obtain ⟨U, r, s, h⟩ := h
    have h : RA C U H σ r (fun vs H' => ∃ ps, vs = flatP ps ∧ Q ps H') (eKVs ((k, v) :: l) r) := h
    refine tE_then (f := k) (g := fun o r1 => ((eCons v (eKVs l)) r1).bind fun os r2 => Rs.ok (o :: os) r2) (R := RA C U H σ r (fun vs H' => ∃ ps, vs = flatP ps ∧ Q ps H')) s h id (fun _ _ _ z => z) fun o1 r1 v1 H1 U1 s1 a1 p1 k1 n1 h1 => ?_
    refine tE_then (f := v) (g := fun o2 r2 => (eKVs l r2).bind fun os r3 => Rs.ok (o1 :: o2 :: os) r3) (R := RA C U H σ r (fun vs H' => ∃ ps, vs = flatP ps ∧ Q ps H')) s1 ?_ id (fun _ _ _ z => XWant.before z a1) fun o2 r2 v2 H2 U2 s2 a2 p2 k2 n2 h2 => ?_
    · refine cast ?_ h1
      unfold eCons Rs.bind
      cases v r1 with
      | ok o r2 => simp only []; cases eKVs l r2 <;> rfl
      | ex c fs r2 => rfl
      | st => rfl
    · refine pairs_reading l ⟨U2, r2, s2, ?_⟩
      have h2 : RA C U H σ r (fun vs H' => ∃ ps, vs = flatP ps ∧ Q ps H') ((eKVs l r2).bind fun os r3 => Rs.ok (o1 :: o2 :: os) r3) := h2
      cases e : eKVs l r2 with
      | ok os r3 =>
        rw [e] at h2
        intro vs H3 U3 s3 a3 p3 k3 n3
        obtain ⟨ps, e2, q⟩ := h2 (v1 :: v2 :: vs) H3 U3 s3 ((a1.trans a2).trans a3) ((p1.trans p2).trans p3) (.cons ((k1.after a2 s1 p2).after a3 s2 p3) (.cons (k2.after a3 s2 p3) k3)) (.cons n1 (.cons (n2.back a1) (NewS.back (a1.trans a2) n3)))
        match ps, e2 with
        | (x, y) :: ps, e2 => cases e2; exact ⟨ps, rfl, q⟩
      | ex c fs r3 => rw [e] at h2; exact XWant.before h2 (a1.trans a2)
      | st => rw [e] at h2; exact h2
theorem pairD_of {K : PySem.W.Frag} {W : Addr → Prop} {H : Hp} : ∀ {ds : List D} {vs : List V} {kvs : List (Key × D)}, Rps K W H vs ds → pairD ds = some kvs → ∃ xs : List (Key × V), vs = flatP (xs.map fun kv => (kV kv.1, kv.2)) ∧ KR K W H xs kvs
  | [], _, _, .nil, h => by cases h; exact ⟨[], rfl, .nil⟩
  | [d], _, _, _, h => by cases h
  | k :: d :: ds, _, kvs, .cons xk (.cons xv t), h => by
    have h : (match keyD k, pairD ds with | some k, some l => some ((k, d) :: l) | _, _ => none) = some kvs := h
    cases e1 : keyD k with
    | none => rw [e1] at h; cases h
    | some k' =>
      cases e2 : pairD ds with
      | none => rw [e1, e2] at h; cases h
      | some l =>
        rw [e1, e2] at h; cases h
        obtain ⟨xs, e3, t'⟩ := pairD_of t e2
        refine ⟨(k', _) :: xs, ?_, .cons ⟨rfl, xv⟩ t'⟩
        rw [keyD_of xk e1, e3]; rfl
theorem mergeD_of {K : PySem.W.Frag} {W : Addr → Prop} {H : Hp} {xs : List (Key × V)} {kvs : List (Key × D)} (h : KR K W H xs kvs) : KR K W H (mergeK [] xs) (mergeD kvs) := by
  unfold mergeK mergeD
  have go : ∀ {xs : List (Key × V)} {kvs : List (Key × D)} {a : List (Key × V)} {b : List (Key × D)}, KR K W H xs kvs → KR K W H a b → KR K W H (xs.foldl (fun acc kv => putK acc kv.1 kv.2) a) (kvs.foldl (fun acc kv => putD acc kv.1 kv.2) b) := by
    intro xs kvs a b h
    induction h generalizing a b with
    | nil => exact fun q => q
    | @cons p q ps qs h t ih =>
      intro r
      have e : KR K W H (putK a p.1 p.2) (putD b q.1 q.2) := by rw [h.1]; exact kr_put h.2 r
      exact ih e
  exact go h .nil
/-- {k: v, ..} -/
theorem ge_disp {keys : List (Option Expr)} {values : List Expr} {pos : Pos} {l : List ((Rho → Rs Opd) × (Rho → Rs Opd))} (h : PPs X pos keys values (l.map fun z => (tE C z.1, tE C z.2))) (hall : keys.all (·.isSome) = true) (hl : keys.length = values.length) (h0 : keys ≠ []) (h15 : keys.length ≤ 15) : GE X C (.Dict keys values pos) (eDisp l) := by
  refine weakE (pe_disp h hall hl h0 h15) fun σ H Q h => ?_
  obtain ⟨U, r, s, h⟩ := h
  have h : RE C U H σ r Q (eDisp l r) := h
  intro p hp
  obtain ⟨s1, a1⟩ := own_set hp s (upd_keep hp) (H' := upd H p (.dK [])) (.inr (.inl ⟨_, upd_same⟩))
  refine pairs_reading l ⟨_, r, s1, ?_⟩
  unfold eDisp at h
  cases e : eKVs l r with
  | st => rw [e] at h; exact h
  | ex c fs r1 => rw [e] at h; exact XWant.before h a1
  | ok os r1 =>
    rw [e] at h
    intro vs H2 U2 s2 a2 p2 k2 n2
    simp only [Rs.bind] at h
    cases e1 : frzAll os r1 with
    | none => simp only [e1] at h; exact (show False from h).elim
    | some z =>
      obtain ⟨ds, r2⟩ := z
      simp only [e1] at h
      cases e2 : pairD ds with
      | none => simp only [e2] at h; exact (show False from h).elim
      | some kvs =>
        simp only [e2] at h
        by_cases hk : kvs.length ≤ 15
        · rw [if_pos hk] at h
          obtain ⟨U3, s3, a3, u3, k3⟩ := ops_drop s1 s2 a2 k2 n2
          obtain ⟨s4, a4, p4, x4⟩ := frzAll_ok s3 k3 e1
          obtain ⟨xs, e3, t⟩ := pairD_of x4 e2
          have up : U3 p := a3.sub p (.inr rfl)
          have hp2 : H2 p = some (.dK []) := a2.keep p _ upd_same fun z => (s1.dis p z (.inr rfl))
          refine ⟨_, e3, hp2, xs, rfl, by rw [KR.len t]; exact hk, ?_⟩
          obtain ⟨s5, a5, c5⟩ := s.poke2 s4 (a1.trans (a3.trans a4)) hp up ⟨mergeK [] xs, rfl⟩
          have m : Mono (fun _ => False) (Wn U3 σ r2) H2 (fun _ => False) (Wn U3 σ r2) (upd H2 p (.dK (mergeK [] xs))) :=
            ⟨s4.wlv, fun b o n h => by rw [upd_ne (fun z => n (by rw [z]; exact .inr up))]; exact h, fun b o n _ => n, fun _ _ z => z.elim, fun _ z => z.elim⟩
          refine h (.ref p) _ U3 s5 a5 (p2.trans p4) ⟨.od upd_same (KR.mono m (mergeD_of t)), fun q _ z => by cases z; exact up, rfl⟩ fun t' q z1 z2 z3 => ?_
          cases z3; exact hp
        · rw [if_neg hk] at h; exact h.elim
end
end GB
namespace GB
open PySem PySem.Spec PyProof.Rows L2
theorem rep_len {α : Type} (l : List α) : ∀ n, (List.replicate n l).flatten.length = n * l.length
  | 0 => by simp
  | n + 1 => by rw [List.replicate_succ, List.flatten_cons, List.length_append, rep_len l n, Nat.add_mul]; omega
theorem foldl_arr (l : List Nat) : ∀ (k : Nat) (acc : List Nat), (List.replicate k l.toArray).foldl (· ++ ·) acc.toArray = (acc ++ (List.replicate k l).flatten).toArray
  | 0, acc => by simp
  | k + 1, acc => by
    rw [List.replicate_succ, List.foldl_cons, List.replicate_succ, List.flatten_cons, ← List.append_assoc]
    have : acc.toArray ++ l.toArray = (acc ++ l).toArray := by simp
    rw [this]
    exact foldl_arr l k (acc ++ l)
section
variable {X : Cx} {C : Ct} {K : PySem.W.Frag} {U W : Addr → Prop} {H : Hp} {a b e : Expr} {fa fb fe : Rho → Rs Opd} {pos p : Pos}
def rMulS : R2 := fun x y H Q => ∃ (l : List Nat) (k : Int), x = .str ⟨l.toArray⟩ ∧ y = .int k ∧ -(2 ^ 62) ≤ k ∧ k < 2 ^ 62 ∧ l.length * k.toNat ≤ 16777216 ∧ Q (.str ⟨(List.replicate k.toNat l).flatten.toArray⟩) H
theorem op_mulS : OpR X (binaryOp .Mult) rMulS := by
  intro pins s σ H x y v u Q I rx ry h
  obtain ⟨l, k, rfl, rfl, h1, h2, h3, q⟩ := h
  obtain ⟨t, rfl⟩ := rx
  obtain ⟨t', rfl⟩ := ry
  have hln : (⟨l.toArray⟩ : Str).length = l.length := str_len l
  refine PySem.P.mul_str ?_ ?_ ?_ ?_
  · rw [decide_eq_false (by omega), decide_eq_false (by omega)]; rfl
  · intro z1 z2 z3
    rw [hln] at z3
    have hk : 0 < k := by omega
    have hk2 : (k.toNat : Int) = k := by omega
    have z4 : ((l.length * k.toNat : Nat) : Int) ≤ 16777216 := by omega
    rw [Int.natCast_mul, hk2] at z4
    have z5 : ((2 : Int) ^ 63 - 1) / k < l.length := z3
    have z6 : ((2 : Int) ^ 63 - 1) < l.length * k := by
      rw [Int.ediv_lt_iff_lt_mul hk] at z5
      exact z5
    omega
  · intro z1 z2
    rw [hln]
    unfold Builtin.Str.tooLong
    exact decide_eq_false (by rw [sizeLine_eq]; omega)
  · by_cases z : k < 1
    · rw [if_pos z]
      have e : k.toNat = 0 := by omega
      rw [e] at q
      exact ⟨Nat.zero_le _, .str _, H, I.tok _, ⟨_, rfl⟩, q⟩
    · rw [if_neg z]
      by_cases z2 : (k == 1 || (⟨l.toArray⟩ : Str).length == 0) = true
      · rw [if_pos z2]
        have e : (List.replicate k.toNat l).flatten = l := by
          rw [Bool.or_eq_true] at z2
          rcases z2 with z2 | z2
          · have : k = 1 := eq_of_beq z2
            subst this; simp
          · have z3 : l.length = 0 := by rw [← hln]; exact eq_of_beq z2
            have : l = [] := List.length_eq_zero_iff.mp z3
            subst this; simp
        rw [e] at q
        exact ⟨.str _, H, I, ⟨_, rfl⟩, q⟩
      · rw [if_neg z2]
        have e : (List.replicate k.toNat (⟨l.toArray⟩ : Str).cps).foldl (· ++ ·) #[] = (List.replicate k.toNat l).flatten.toArray := by
          have := foldl_arr l k.toNat []
          simpa using this
        rw [e]
        refine ⟨?_, .str _, H, I.tok _, ⟨_, rfl⟩, q⟩
        rw [str_len, sizeLine_eq, rep_len, Nat.mul_comm]
        exact h3
def fMulS : S → S → Option S
  | .fz (.str l), .fz (.int k) => if -(2 ^ 62) ≤ k ∧ k < 2 ^ 62 ∧ l.length * k.toNat ≤ 16777216 then some (.fz (.str (List.replicate k.toNat l).flatten)) else none
  | _, _ => none
theorem pn_mulS : PN C (fun vs H Q => ∃ x y, vs = [x, y] ∧ rMulS x y H Q) (p2 fMulS) := by
  refine pn2 fun U W H x y a b s Q lv xa xb h q => ?_
  cases a with
  | fz a =>
    cases a with
    | str l =>
      cases b with
      | fz b =>
        cases b with
        | int k =>
          rw [sr_str xa, sr_int xb]
          have h : (if -(2 ^ 62) ≤ k ∧ k < 2 ^ 62 ∧ l.length * k.toNat ≤ 16777216 then some (S.fz (.str (List.replicate k.toNat l).flatten)) else none) = some s := h
          by_cases z : -(2 ^ 62) ≤ k ∧ k < 2 ^ 62 ∧ l.length * k.toNat ≤ 16777216
          · rw [if_pos z] at h; cases h
            exact ⟨l, k, rfl, rfl, z.1, z.2.1, z.2.2, q _ _ (.same (.str _))⟩
          · rw [if_neg z] at h; cases h
        | _ => cases h
      | _ => cases h
    | _ => cases b <;> first | cases h | (rename_i d; cases d <;> cases h)
  | _ => cases b <;> first | cases h | (rename_i d; cases d <;> cases h)
def qMul : Pr := orP (p2 fMul) (p2 fMulS)
theorem x_mulA (ha : GE X C a fa) (hb : GE X C b fb) : GE X C (.BinOp a .Mult b pos) (e2 qMul fa fb) :=
  ge_op (PN.or2 pn_mul pn_mulS) (pe_op (op_mulU.or op_mulS) ha hb)
@[simp] theorem s_qMulI {i j : Int} : qMul [.fz (.int i), .fz (.int j)] = if (-(2 ^ 64) < i ∧ i < 2 ^ 64) ∨ (-(2 ^ 64) < j ∧ j < 2 ^ 64) then some (.fz (.int (i * j))) else none := by
  unfold qMul orP
  show (match fMul (.fz (.int i)) (.fz (.int j)) with | none => _ | z => z) = _
  rw [s_mulI]
  by_cases z : (-(2 ^ 64) < i ∧ i < 2 ^ 64) ∨ (-(2 ^ 64) < j ∧ j < 2 ^ 64)
  · rw [if_pos z]
  · rw [if_neg z]; rfl
@[simp] theorem s_qMulS {l : List Nat} {k : Int} : qMul [.fz (.str l), .fz (.int k)] = if -(2 ^ 62) ≤ k ∧ k < 2 ^ 62 ∧ l.length * k.toNat ≤ 16777216 then some (.fz (.str (List.replicate k.toNat l).flatten)) else none := rfl
@[simp] theorem s_qMulO {l : List D} {k : Int} : qMul [.ol l, .fz (.int k)] = if -(2 ^ 63) ≤ k ∧ k < 2 ^ 63 ∧ l.length * k.toNat ≤ 16777216 then some (.ol (List.replicate k.toNat l).flatten) else none := by
  unfold qMul orP
  show (match (if -(2 ^ 63) ≤ k ∧ k < 2 ^ 63 ∧ l.length * k.toNat ≤ 16777216 then some (S.ol (List.replicate k.toNat l).flatten) else none) with | none => p2 fMulS [.ol l, .fz (.int k)] | z => z) = _
  by_cases z : -(2 ^ 63) ≤ k ∧ k < 2 ^ 63 ∧ l.length * k.toNat ≤ 16777216
  · rw [if_pos z]
  · rw [if_neg z]; rfl
end
end GB
namespace GB
open PySem PySem.Spec PyProof.Rows L2
def numsOfD : List D → Option (List Int)
  | [] => some []
  | .int i :: ds => (numsOfD ds).map (i :: ·)
  | _ :: _ => none
def sortI (ns : List Int) : List Int := ns.mergeSort fun a b => decide (a ≤ b)
def sortT (ws : List (List Nat)) : List (List Nat) := ws.mergeSort fun a b => decide (a ≤ b)
theorem le_tr (a b c : List Nat) : decide (a ≤ b) = true → decide (b ≤ c) = true → decide (a ≤ c) = true := fun h1 h2 => decide_eq_true (List.le_trans (of_decide_eq_true h1) (of_decide_eq_true h2))
theorem le_tt (a b : List Nat) : (decide (a ≤ b) || decide (b ≤ a)) = true := by
  rcases List.le_total a b with h | h <;> simp [h]
theorem sortT_perm (ws : List (List Nat)) : (sortT ws).Perm ws := List.mergeSort_perm _ _
theorem sortT_pw (ws : List (List Nat)) : (sortT ws).Pairwise (· ≤ ·) := (List.pairwise_mergeSort le_tr le_tt ws).imp fun h => of_decide_eq_true h
theorem sortI_perm (ws : List Int) : (sortI ws).Perm ws := List.mergeSort_perm _ _
theorem leI_tr (a b c : Int) (h1 : decide (a ≤ b) = true) (h2 : decide (b ≤ c) = true) : decide (a ≤ c) = true := decide_eq_true (Int.le_trans (of_decide_eq_true h1) (of_decide_eq_true h2))
theorem leI_tt (a b : Int) : (decide (a ≤ b) || decide (b ≤ a)) = true := by
  rcases Int.le_total a b with h | h <;> simp [h]
theorem sortI_pw (ws : List Int) : (sortI ws).Pairwise (· ≤ ·) := (List.pairwise_mergeSort leI_tr leI_tt ws).imp fun h => of_decide_eq_true h
theorem sortT_of {ys ws : List (List Nat)} (h : ys.Perm ws) (hp : ys.Pairwise (· ≤ ·)) : ys = sortT ws :=
  List.Perm.eq_of_pairwise (fun _ _ _ _ h1 h2 => List.le_antisymm h1 h2) hp (sortT_pw ws) (h.trans (sortT_perm ws).symm)
theorem sortI_of {ys ws : List Int} (h : ys.Perm ws) (hp : ys.Pairwise (· ≤ ·)) : ys = sortI ws :=
  List.Perm.eq_of_pairwise (fun _ _ _ _ h1 h2 => Int.le_antisymm h1 h2) hp (sortI_pw ws) (h.trans (sortI_perm ws).symm)
theorem rising_pw : ∀ (p : Str) (l : List Str), risingS p l = true → (p :: l).Pairwise fun a b => a.cps.toList ≤ b.cps.toList
  | p, [], _ => by simp
  | p, x :: l, h => by
    have h : (!ltCps x.cps.toList p.cps.toList && risingS x l) = true := h
    rw [Bool.and_eq_true, ltCps_eq] at h
    have le : p.cps.toList ≤ x.cps.toList := by
      have := h.1
      simpa using this
    have ih := rising_pw x l h.2
    refine List.pairwise_cons.mpr ⟨fun y hy => ?_, ih⟩
    rcases List.mem_cons.mp hy with rfl | hy
    · exact le
    · exact List.le_trans le ((List.pairwise_cons.mp ih).1 y hy)
theorem sortedS_pw {l : List Str} (h : sortedS l = true) : l.Pairwise fun a b => a.cps.toList ≤ b.cps.toList := by
  cases l with
  | nil => exact .nil
  | cons x l => exact rising_pw x l h
section
variable {X : Cx} {C : Ct} {K : PySem.W.Frag} {U W : Addr → Prop} {H : Hp} {v : V} {e : Expr} {fe : Rho → Rs Opd} {fs : Rho → Rs (List Opd)} {pos p : Pos} {tg : Expr}
theorem numsOfD_of : ∀ {xs : List V} {ds : List D} {ns : List Int}, Rps K W H xs ds → numsOfD ds = some ns → xs = ns.map V.int
  | _, _, _, .nil, h => by cases h; rfl
  | _, d :: ds, ns, .cons x t, h => by
    cases x with
    | int i =>
      have h : (numsOfD ds).map (i :: ·) = some ns := h
      cases e : numsOfD ds with
      | none => rw [e] at h; cases h
      | some n2 => rw [e] at h; cases h; rw [numsOfD_of t e]; rfl
    | _ => cases h
theorem rps_ints : ∀ {ns : List Int}, Rps K W H (ns.map V.int) (ns.map D.int)
  | [] => .nil
  | _ :: _ => .cons (.int _) rps_ints
theorem rps_strs : ∀ {ws : List (List Nat)}, Rps K W H ((ws.map fun w => (⟨w.toArray⟩ : Str)).map V.str) (ws.map D.str)
  | [] => .nil
  | _ :: _ => .cons (.str _) rps_strs
/-- sorted of texts, any number of them -/
def rSrtT (K : PySem.W.Frag) : List V → Hp → VK → Prop := fun vs H Q => ∃ (a : Addr) (xs : List Str), vs = [V.ref a] ∧ SqL K H a (xs.map V.str) ∧
  ∀ (ys : List Str) (p : Addr), ys.Perm xs → sortedS ys = true → H p = none → Q (.ref p) (upd H p (.lst (ys.map V.str)))
theorem cr_srtT : CallR X (.builtin "sorted") (rSrtT X.K) := by
  intro pins s σ H vs us Q I r h
  obtain ⟨a, xs, rfl, hs, q⟩ := h
  obtain ⟨its, rv, hl, hz⟩ := I.list hs
  have hlen0 := rv.length
  cases Vals.ref1 r
  refine PyProof.Rows.sorted_strsAny hl.isList rv.strs (hlen0 ▸ hz) fun out ys h1 h2 h3 => ?_
  obtain ⟨ep, he'⟩ := PyProof.Rows.sortedAll_at s.heap its out
  have hlen : (ys.map V.str).length ≤ sizeLine := by
    rw [List.length_map] at hz ⊢
    rw [h2.length_eq]
    exact hz
  refine ⟨.ref _, upd H (s.heap.objs.size + 1) (.lst (ys.map V.str)), ?_, rfl, q ys _ h2 h3 (I.hok.fresh (Nat.le_succ _))⟩
  exact I.laid (t' := s.toks) (fun _ _ => PyProof.Rows.sortedAll_old) (Nat.le_succ _) ⟨hlen, out.toList, ep, vals_of_strs h1, he'⟩
def fSrt (s : S) : Option S := match asLs s with
  | some ds => (match numsOfD ds, strsOf ds with
    | some ns, _ => some (.ol ((sortI ns).map D.int))
    | none, some ws => some (.ol ((sortT ws).map D.str))
    | none, none => none)
  | none => none
theorem pn_srt : PN C (fun vs H Q => rSortedI C.K vs H Q ∨ rSrtT C.K vs H Q) (p1 fSrt) := by
  intro U W H vs ss s Q lv hs hp q
  match ss, hs, hp with
  | [a], .cons xa .nil, hp =>
    have hp : fSrt a = some s := hp
    unfold fSrt at hp
    cases e : asLs a with
    | none => rw [e] at hp; cases hp
    | some ds =>
      rw [e] at hp
      dsimp only at hp
      obtain ⟨l, xs, rfl, h2, t⟩ := asLs_of xa e
      cases e2 : numsOfD ds with
      | some ns =>
        rw [e2] at hp; cases hp
        rw [numsOfD_of t e2] at h2
        refine .inl ⟨l, ns, rfl, h2, fun ns' p hp hs hf => ?_⟩
        rw [sortI_of hp hs]
        exact q _ _ (Got.newL (C := C) lv hf rps_ints)
      | none =>
        rw [e2] at hp
        cases e3 : strsOf ds with
        | none => rw [e3] at hp; cases hp
        | some ws =>
          rw [e3] at hp; cases hp
          rw [strsOf_of t e3] at h2
          refine .inr ⟨l, _, rfl, h2, fun ys p hp hs hf => ?_⟩
          have e4 : ys.map (fun y => y.cps.toList) = sortT ws := by
            refine sortT_of ?_ (List.pairwise_map.mpr (sortedS_pw hs))
            have := hp.map fun y : Str => y.cps.toList
            rw [List.map_map] at this
            refine this.trans (List.Perm.of_eq ?_)
            conv => rhs; rw [← List.map_id ws]
            exact List.map_congr_left fun w _ => by simp
          have e5 : ys = (sortT ws).map fun w => (⟨w.toArray⟩ : Str) := by
            rw [← e4, List.map_map]
            conv => lhs; rw [← List.map_id ys]
            exact List.map_congr_left fun w _ => by simp
          rw [e5]
          exact q _ _ (Got.newL (C := C) lv hf rps_strs)
theorem cr_or {f : Value} {r1 r2 : List V → Hp → VK → Prop} (h1 : CallR X f r1) (h2 : CallR X f r2) : CallR X f fun vs H Q => r1 vs H Q ∨ r2 vs H Q := by
  intro pins s σ H vs us Q I r h
  rcases h with h | h
  · exact h1 pins s σ H vs us Q I r h
  · exact h2 pins s σ H vs us Q I r h
theorem x_sorted (hm : X.mg "sorted" = none) (ha : GE X C e fe) (hK : C.K = X.K := by rfl) (hg : Gl X "sorted" := by rfl) (hs : starEach [e] X.env = (false, eval e X.env) :: starEach [] X.env := by rfl) : GE X C (.Call (.Name "sorted" p) [e] [] pos) (e1 (p1 fSrt) fe) :=
  ge_call pn_srt (by rw [hK]; exact pe_callB (cr_or cr_sortedI cr_srtT) hg hm PyProof.Rows.boot_sorted (ga_cons ha ga_nil hs) (he := hs))
end
end GB
namespace GB
open PySem PySem.Spec PyProof.Rows L2
end GB
namespace GB
open PySem PySem.Spec PyProof.Rows L2
@[simp] theorem s_ixBS {kvs : List (Key × D)} {l : List Nat} : qIx [.bd kvs, .fz (.str l)] = (getD kvs (.inr ⟨l.toArray⟩)).map .fz := rfl
@[simp] theorem s_ixOS {kvs : List (Key × D)} {l : List Nat} : qIx [.od kvs, .fz (.str l)] = (getD kvs (.inr ⟨l.toArray⟩)).map .fz := rfl
@[simp] theorem s_putBS {kvs : List (Key × D)} {v : D} {l : List Nat} : mPut (.bd kvs) [v, .str l] = if decide (kvs.length < 16777216) then some (.bd (putD kvs (.inr ⟨l.toArray⟩) v), .non) else none := rfl
/-- the feed -/
def fd (cells : List Int) (a b c : Int) : List (Key × D) := [(.inr ⟨#[99, 101, 108, 108, 115]⟩, .lst (cells.map D.int)), (.inr ⟨#[97, 116]⟩, .int a), (.inr ⟨#[108, 101, 102, 116]⟩, .int b), (.inr ⟨#[116, 117, 114, 110]⟩, .int c)]
section
variable {cells : List Int} {a b c x : Int}
@[simp] theorem fd_len : (fd cells a b c).length = 4 := rfl
@[simp] theorem fd_c : getD (fd cells a b c) (.inr ⟨#[99, 101, 108, 108, 115]⟩) = some (.lst (cells.map D.int)) := rfl
@[simp] theorem fd_a : getD (fd cells a b c) (.inr ⟨#[97, 116]⟩) = some (.int a) := rfl
@[simp] theorem fd_l : getD (fd cells a b c) (.inr ⟨#[108, 101, 102, 116]⟩) = some (.int b) := rfl
@[simp] theorem fd_t : getD (fd cells a b c) (.inr ⟨#[116, 117, 114, 110]⟩) = some (.int c) := rfl
@[simp] theorem fd_pa : putD (fd cells a b c) (.inr ⟨#[97, 116]⟩) (.int x) = fd cells x b c := rfl
@[simp] theorem fd_pl : putD (fd cells a b c) (.inr ⟨#[108, 101, 102, 116]⟩) (.int x) = fd cells a x c := rfl
@[simp] theorem fd_pt : putD (fd cells a b c) (.inr ⟨#[116, 117, 114, 110]⟩) (.int x) = fd cells a b x := rfl
end
theorem atI_mod {α : Type} {l : List α} (h : 0 < l.length) (a : Int) : ∃ x, atI l (a % (l.length : Int)) = some x ∧ x ∈ l := by
  have h1 : 0 ≤ a % (l.length : Int) := Int.emod_nonneg _ (by omega)
  have h2 : a % (l.length : Int) < l.length := Int.emod_lt_of_pos _ (by omega)
  obtain ⟨k, hk⟩ := Int.eq_ofNat_of_zero_le h1
  rw [hk, atI_n]
  have : k < l.length := by omega
  exact ⟨l[k], List.getElem?_eq_getElem this, List.getElem_mem this⟩
/-- a sign turned about -/
def bk (c : Nat) : Nat := if 97 ≤ c ∧ c ≤ 102 then c - 32 else c + 32
def isL (c : Nat) : Bool := decide ((97 ≤ c ∧ c ≤ 102) ∨ (65 ≤ c ∧ c ≤ 70))
theorem isL_iff {c : Nat} : isL c = true ↔ (97 ≤ c ∧ c ≤ 102) ∨ (65 ≤ c ∧ c ≤ 70) := decide_eq_true_iff
theorem bk_isL {c : Nat} (h : isL c = true) : isL (bk c) = true := by
  rw [isL_iff] at h ⊢
  unfold bk
  split <;> omega
theorem bk_bk {c : Nat} (h : isL c = true) : bk (bk c) = c := by
  rw [isL_iff] at h
  unfold bk
  split <;> split <;> omega
theorem bk_ne {c : Nat} (h : isL c = true) : bk c ≠ c := by
  rw [isL_iff] at h
  unfold bk
  split <;> omega
/-- letters -/
def W (w : List Nat) : Prop := ∀ c ∈ w, isL c = true
theorem W.app {u v : List Nat} (h : W u) (h' : W v) : W (u ++ v) := fun c hc => (List.mem_append.mp hc).elim (h c) (h' c)
theorem W.nil : W [] := fun c hc => (nomatch hc)
theorem W.cons {c : Nat} {u : List Nat} (h : isL c = true) (h' : W u) : W (c :: u) := fun d hd => (List.mem_cons.mp hd).elim (fun e => e ▸ h) (h' d)
theorem W.head {c : Nat} {u : List Nat} (h : W (c :: u)) : isL c = true := h c (List.mem_cons_self ..)
theorem W.tail {c : Nat} {u : List Nat} (h : W (c :: u)) : W u := fun d hd => h d (List.mem_cons_of_mem _ hd)
theorem W.rev {u : List Nat} (h : W u) : W u.reverse := fun c hc => h c (List.mem_reverse.mp hc)
theorem W.take {u : List Nat} (h : W u) (n : Nat) : W (u.take n) := fun c hc => h c (List.mem_of_mem_take hc)
theorem W.drop {u : List Nat} (h : W u) (n : Nat) : W (u.drop n) := fun c hc => h c (List.mem_of_mem_drop hc)
theorem W.all {u : List Nat} (h : W u) : u.all isL = true := List.all_eq_true.mpr h
/-- the backs -/
def bkw (w : List Nat) : List Nat := (w.map bk).reverse
theorem W.bkw {w : List Nat} (h : W w) : W (bkw w) := fun c hc => by
  obtain ⟨d, hd, rfl⟩ := List.mem_map.mp (List.mem_reverse.mp hc)
  exact bk_isL (h d hd)
theorem bkw_bkw {w : List Nat} (h : W w) : bkw (bkw w) = w := by
  unfold GB.bkw
  rw [List.map_reverse, List.reverse_reverse, List.map_map]
  conv => rhs; rw [← List.map_id w]
  exact List.map_congr_left fun c hc => bk_bk (h c hc)
theorem bkw_app (u v : List Nat) : bkw (u ++ v) = bkw v ++ bkw u := by
  unfold bkw; rw [List.map_append, List.reverse_append]
theorem bkw_len (w : List Nat) : (bkw w).length = w.length := by unfold bkw; simp
/-- one sign more upon a stack -/
def step (s : List Nat) (c : Nat) : List Nat := match s with
  | x :: s' => if x = bk c then s' else c :: x :: s'
  | [] => [c]
def run (s w : List Nat) : List Nat := w.foldl step s
def red (w : List Nat) : List Nat := (run [] w).reverse
theorem run_app (s u v : List Nat) : run s (u ++ v) = run (run s u) v := List.foldl_append
/-- a stack without a sign upon its back -/
def Ok : List Nat → Prop
  | x :: y :: s => y ≠ bk x ∧ Ok (y :: s)
  | _ => True
theorem Ok.tail : ∀ {x : Nat} {s : List Nat}, Ok (x :: s) → Ok s
  | _, [], _ => trivial
  | _, _ :: _, h => h.2
theorem step_ok {s : List Nat} {c : Nat} (hs : Ok s) : Ok (step s c) := by
  cases s with
  | nil => trivial
  | cons x s =>
    unfold step
    dsimp only
    split
    · exact hs.tail
    · exact ⟨by assumption, hs⟩
theorem step_w {s : List Nat} {c : Nat} (hs : W s) (hc : isL c = true) : W (step s c) := by
  cases s with
  | nil => exact .cons hc .nil
  | cons x s =>
    unfold step
    dsimp only
    split
    · exact hs.tail
    · exact .cons hc hs
theorem step_back {s : List Nat} {c : Nat} (hs : Ok s) (hw : W s) (hc : isL c = true) : step (step s c) (bk c) = s := by
  cases s with
  | nil =>
    show (if c = bk (bk c) then [] else [bk c, c]) = []
    rw [bk_bk hc, if_pos rfl]
  | cons x s =>
    unfold step
    dsimp only
    by_cases e : x = bk c
    · rw [if_pos e]
      cases s with
      | nil => rw [e]
      | cons y s =>
        dsimp only
        have : y ≠ bk (bk c) := by
          have := hs.1
          rw [e] at this
          exact this
        rw [if_neg this, e]
    · rw [if_neg e]
      dsimp only
      rw [if_pos (bk_bk hc).symm]
theorem run_ok : ∀ {w s : List Nat}, Ok s → Ok (run s w)
  | [], _, h => h
  | c :: w, s, h => run_ok (w := w) (step_ok h)
theorem run_w : ∀ {w s : List Nat}, W s → W w → W (run s w)
  | [], _, h, _ => h
  | c :: w, s, h, hw => run_w (w := w) (step_w h hw.head) hw.tail
/-- a reduced word stays -/
theorem run_rev : ∀ {s t : List Nat}, Ok (s ++ t) → run t s.reverse = s ++ t
  | [], _, _ => rfl
  | x :: s, t, h => by
    rw [List.reverse_cons, run_app, run_rev h.tail]
    show step (s ++ t) x = x :: (s ++ t)
    cases e : s ++ t with
    | nil => rfl
    | cons y r =>
      have h : Ok (x :: (s ++ t)) := h
      rw [e] at h
      show (if y = bk x then r else x :: y :: r) = _
      rw [if_neg h.1]
/-- upon any stack, a word does what its reduced form does -/
theorem run_red {s : List Nat} (hs : Ok s) (hw : W s) : ∀ {w : List Nat}, W w → run s (red w) = run s w := by
  have key : ∀ (w t : List Nat), Ok t → W t → W w → run (run s t.reverse) w = run s (run t w).reverse := by
    intro w
    induction w with
    | nil => intro t _ _ _; rfl
    | cons c w ih =>
      intro t ht wt hw'
      have e : run (run s t.reverse) (c :: w) = run (step (run s t.reverse) c) w := rfl
      rw [e]
      have e2 : step (run s t.reverse) c = run s (step t c).reverse := by
        cases t with
        | nil => rfl
        | cons x t =>
          unfold step
          dsimp only
          by_cases h : x = bk c
          · rw [if_pos h]
            rw [List.reverse_cons, run_app]
            have hx : c = bk x := by rw [h, bk_bk hw'.head]
            have := step_back (s := run s t.reverse) (c := x) (run_ok hs) (run_w hw wt.tail.rev) wt.head
            rw [← hx] at this
            exact this
          · rw [if_neg h]
            rw [List.reverse_cons (a := c), run_app]
            rfl
      rw [e2]
      exact ih (step t c) (step_ok ht) (step_w wt hw'.head) hw'.tail
  intro w h
  exact (key w [] trivial .nil h).symm
theorem red_w {w : List Nat} (h : W w) : W (red w) := (run_w .nil h).rev
theorem ok_nil : Ok [] := by unfold Ok; trivial
theorem red_l {u v : List Nat} (hu : W u) (hv : W v) : red (red u ++ v) = red (u ++ v) := by
  show (run [] (red u ++ v)).reverse = (run [] (u ++ v)).reverse
  rw [run_app, run_app, run_red ok_nil .nil hu]
theorem step_len (s : List Nat) (c : Nat) : (step s c).length ≤ s.length + 1 := by
  cases s with
  | nil => exact Nat.le_refl _
  | cons x s =>
    unfold step
    dsimp only
    split
    · simp; omega
    · simp
theorem run_len : ∀ (w s : List Nat), (run s w).length ≤ s.length + w.length
  | [], s => Nat.le_refl _
  | c :: w, s => by
    have h1 := run_len w (step s c)
    have h2 := step_len s c
    show (run (step s c) w).length ≤ _
    rw [List.length_cons]; omega
theorem red_len (w : List Nat) : (red w).length ≤ w.length := by
  unfold red; rw [List.length_reverse]; have := run_len w []; simpa using this
@[simp] theorem atI_m1 {α : Type} {l : List α} : atI l (-1) = l.getLast? := by
  cases l with
  | nil => rfl
  | cons a l =>
    have e : ixN (a :: l).length (-1) = some l.length := by
      unfold ixN
      rw [if_neg (by omega), if_pos (by rw [List.length_cons]; omega), List.length_cons]
      congr 1
      omega
    unfold atI
    rw [e, List.getLast?_eq_getElem?]
    rfl
@[simp] theorem s_fNeg {i : Int} : fNeg (.fz (.int i)) = some (.fz (.int (-i))) := rfl
@[simp] theorem s_fAbs {i : Int} : fAbs (.fz (.int i)) = some (.fz (.int (if i < 0 then -i else i))) := rfl
@[simp] theorem s_fApp {ds : List D} {d : D} : fApp ds [d] = if decide (ds.length < 16777216) then some (ds ++ [d], .non) else none := rfl
@[simp] theorem s_fPop0 {ds : List D} : fPop0 ds [] = ds.getLast?.map fun d => (ds.dropLast, d) := rfl
def sgD (c : Nat) : D := .str [c]
@[simp] theorem join_sg {cs : List Nat} (h : cs.length ≤ 16777216) : fJoin (.fz (.str [])) (.ol (cs.map sgD)) = some (.fz (.str cs)) := by
  have e4 : strsOf (cs.map sgD) = some (cs.map fun c => [c]) := strsOf_map (fun c => [c]) cs
  have z : ((cs.map fun c => [c]).map List.length).sum = cs.length := sum_one id cs
  have fl : (cs.map fun c => [c]).flatten = cs := (flat_one id cs).trans (List.map_id cs)
  rw [s_fJoin, e4]
  dsimp only
  rw [z, joinN_nil, fl, if_pos (big_of (by simpa using h))]
theorem if_mulS {l : List Nat} {k : Int} {α : Type} {x : α} (h1 : 0 ≤ k) (h2 : k ≤ 1000000) (hl : l.length * k.toNat ≤ 16777216) : (if -(2 ^ 62) ≤ k ∧ k < 2 ^ 62 ∧ l.length * k.toNat ≤ 16777216 then some x else none) = some x := if_pos ⟨by omega, by omega, hl⟩
theorem mulS_k {l : List Nat} {k : Int} (h1 : 0 ≤ k) (h2 : k ≤ 1000000) (hl : l.length * k.toNat ≤ 16777216) : qMul [.fz (.str l), .fz (.int k)] = some (.fz (.str (List.replicate k.toNat l).flatten)) := by
  rw [s_qMulS]
  exact if_mulS h1 h2 hl
theorem mulS_n {l : List Nat} {k : Nat} (h2 : k ≤ 1000000) (hl : l.length * k ≤ 16777216) : qMul [.fz (.str l), .fz (.int (k : Nat))] = some (.fz (.str (List.replicate k l).flatten)) := by
  have := mulS_k (l := l) (k := (k : Nat)) (by omega) (by omega) (by rw [Int.toNat_natCast]; exact hl)
  rw [Int.toNat_natCast] at this
  exact this
/-- w[:k] -/
theorem sl_to {w : List Nat} (hb : w.length ≤ 16777216) (k : Nat) : fSl (.fz (.str w)) (.fz .non) (.fz (.int (k : Nat))) = some (.fz (.str (w.take k))) := by
  have e : GB.cutD w none (some (k : Int)) = w.take k := by
    unfold GB.cutD
    have e : HT.sIx w.length w.length (some (k : Int)) = min k w.length := HT.sIx_nat w.length w.length k
    rw [e]
    show List.take (min k w.length - 0) (w.drop 0) = _
    rw [List.drop_zero, Nat.sub_zero]
    by_cases h : k ≤ w.length
    · rw [Nat.min_eq_left h]
    · rw [Nat.min_eq_right (by omega), List.take_of_length_le (Nat.le_refl _), List.take_of_length_le (by omega)]
  show (if big w.length then some (S.fz (.str (GB.cutD w none (some (k : Int))))) else none) = _
  rw [if_pos (big_of hb), e]
/-- w[k:] -/
theorem sl_from {w : List Nat} (hb : w.length ≤ 16777216) (k : Nat) : fSl (.fz (.str w)) (.fz (.int (k : Nat))) (.fz .non) = some (.fz (.str (w.drop k))) := by
  have e : GB.cutD w (some (k : Int)) none = w.drop k := by
    unfold GB.cutD
    have e : HT.sIx w.length 0 (some (k : Int)) = min k w.length := HT.sIx_nat w.length 0 k
    rw [e]
    show List.take (w.length - min k w.length) (w.drop (min k w.length)) = _
    rw [List.take_of_length_le (by rw [List.length_drop]; omega)]
    by_cases h : k ≤ w.length
    · rw [Nat.min_eq_left h]
    · rw [Nat.min_eq_right (by omega), List.drop_eq_nil_of_le (Nat.le_refl _), List.drop_eq_nil_of_le (by omega)]
  show (if big w.length then some (S.fz (.str (GB.cutD w (some (k : Int)) none))) else none) = _
  rw [if_pos (big_of hb), e]
theorem lc_fz {fs : Rho → Rs (List Opd)} {mk : List S → Option (List D)} {fg : D → Rho → Option Rho} {ft : Rho → Rs Bool} {fe : Rho → Rs Opd} {vs : List Nat} {r r1 r3 : Rho} {d : D} {ds acc : List D} (h : fs r = .ok [.val (.fz d)] r1) (hk : mk [.fz d] = some ds) (hs : softs r1 vs = true) (hc : cmpL fg ft fe vs ds (wipeR r1 vs) [] = .ok acc r3) :
    eLc fs mk fg ft fe vs r = .ok (.val (.ol acc)) (restR r1 r3 vs) := by
  unfold eLc
  rw [h]
  show (match mk [.fz d] with
    | some ds => if softs r1 vs then (match cmpL fg ft fe vs ds (wipeR r1 vs) [] with | .ok acc r3 => Rs.ok (Opd.val (S.ol acc)) (unlR [] (restR r1 r3 vs)) | _ => .st) else .st
    | none => .st) = _
  rw [hk]
  dsimp only
  rw [if_pos hs, hc]
  rfl
/-- so many times -/
def rep (w : List Nat) (k : Nat) : List Nat := (List.replicate k w).flatten
theorem rep_w {w : List Nat} (h : W w) : ∀ k, W (rep w k)
  | 0 => .nil
  | k + 1 => by unfold rep; rw [List.replicate_succ, List.flatten_cons]; exact h.app (rep_w h k)
theorem rep_len2 (w : List Nat) (k : Nat) : (rep w k).length = k * w.length := rep_len w k
/-- a feed over some cells -/
def Feed (k : List (Key × D)) : Prop := ∃ cells a b c, 0 < cells.length ∧ k = fd cells a b c
theorem cut63 (ns : List Int) : GB.cutD (ns.map D.int) none (some 63) = (ns.take 63).map D.int := by
  unfold GB.cutD
  rw [List.length_map]
  have e : HT.sIx ns.length ns.length (some 63) = min 63 ns.length := HT.sIx_nat ns.length ns.length 63
  rw [e]
  show List.take (min 63 ns.length - 0) ((ns.map D.int).drop 0) = _
  rw [List.drop_zero, Nat.sub_zero, ← List.map_take]
  congr 1
  by_cases h : 63 ≤ ns.length
  · rw [Nat.min_eq_left h]
  · rw [Nat.min_eq_right (by omega), List.take_of_length_le (Nat.le_refl _), List.take_of_length_le (by omega)]
def sgn (m : Nat) : List Nat := [97, 98, 99, 100, 101, 102].take m ++ [65, 66, 67, 68, 69, 70].take m
theorem sgn_w (m : Nat) : W (sgn m) := by
  have h1 : W [97, 98, 99, 100, 101, 102] := fun c hc => isL_iff.mpr (by simp at hc; omega)
  have h2 : W [65, 66, 67, 68, 69, 70] := fun c hc => isL_iff.mpr (by simp at hc; omega)
  exact (h1.take m).app (h2.take m)
theorem sgn_len {m : Nat} (h : m ≤ 6) : (sgn m).length = 2 * m := by unfold sgn; simp; omega
end GB
namespace GB
open PySem PySem.Spec PyProof.Rows L2
theorem strsOf_ws (ws : List (List Nat)) : strsOf (ws.map D.str) = some ws := by
  induction ws with
  | nil => rfl
  | cons w ws ih => rw [List.map_cons, strsOf, ih]; rfl
theorem numsOfD_ws (w : List Nat) (ws : List (List Nat)) : numsOfD ((w :: ws).map D.str) = none := rfl
theorem srtT {ws : List (List Nat)} : fSrt (.ol (ws.map D.str)) = some (.ol ((sortT ws).map D.str)) := by
  cases ws with
  | nil => simp [fSrt, asLs, asL, numsOfD, sortI, sortT]
  | cons w ws =>
    show (match numsOfD ((w :: ws).map D.str), strsOf ((w :: ws).map D.str) with
      | some ns, _ => some (S.ol ((sortI ns).map D.int))
      | none, some ws => some (.ol ((sortT ws).map D.str))
      | none, none => none) = _
    rw [numsOfD_ws, strsOf_ws]
/-- w[i:j] -/
theorem sl_nn {w : List Nat} (hb : w.length ≤ 16777216) (i j : Nat) : fSl (.fz (.str w)) (.fz (.int (i : Nat))) (.fz (.int (j : Nat))) = some (.fz (.str ((w.take j).drop i))) := by
  have e : GB.cutD w (some (i : Int)) (some (j : Int)) = (w.take j).drop i := by
    unfold GB.cutD
    have e1' : HT.sIx w.length w.length (some (j : Int)) = min j w.length := HT.sIx_nat w.length w.length j
    have e2' : HT.sIx w.length 0 (some (i : Int)) = min i w.length := HT.sIx_nat w.length 0 i
    rw [e1', e2']
    refine List.ext_getElem? fun n => ?_
    rw [List.getElem?_take, List.getElem?_drop, List.getElem?_drop, List.getElem?_take]
    by_cases h1 : n < min j w.length - min i w.length
    · rw [if_pos h1, if_pos (by omega)]
      congr 1
      omega
    · rw [if_neg h1]
      split
      · exact (List.getElem?_eq_none (by omega)).symm
      · rfl
  show (if big w.length then some (S.fz (.str (GB.cutD w (some (i : Int)) (some (j : Int))))) else none) = _
  rw [if_pos (big_of hb), e]
theorem mkR2_i {i j : Int} (h1 : -16777216 ≤ i) (h2 : i ≤ 16777216) (h3 : -16777216 ≤ j) (h4 : j ≤ 16777216) : mkR2 [.fz (.int i), .fz (.int j)] = some (upFrom i (j - i).toNat) := by
  show (if small62 i && small62 j then some (upFrom i (j - i).toNat) else none) = _
  rw [if_pos]
  rw [Bool.and_eq_true]
  exact ⟨decide_eq_true ⟨by omega, by omega⟩, decide_eq_true ⟨by omega, by omega⟩⟩
/-- begun elsewhere -/
def rot (w : List Nat) (k : Nat) : List Nat := w.drop k ++ w.take k
theorem rot_0 (w : List Nat) : rot w 0 = w := by simp [rot]
theorem rot_len (w : List Nat) (k : Nat) : (rot w k).length = w.length := by simp [rot]; omega
theorem rot_w {w : List Nat} (h : W w) (k : Nat) : W (rot w k) := (h.drop k).app (h.take k)
/-- all turns -/
def turnsL (w : List Nat) : List (List Nat) := (List.range (max 1 w.length)).map (rot w)
theorem turnsL_len (w : List Nat) : (turnsL w).length = max 1 w.length := by simp [turnsL]
theorem turnsL_mem {w u : List Nat} (h : u ∈ turnsL w) : ∃ k, u = rot w k := by
  obtain ⟨k, _, rfl⟩ := List.mem_map.mp h
  exact ⟨k, rfl⟩
/-- the letters at place k from both ends undo each other -/
def endsUndo (s : List Nat) (k : Nat) : Bool := decide (2 * k + 1 < s.length) && (match s[k]?, s[s.length - 1 - k]? with | some x, some y => decide (x = bk y) | _, _ => false)
def coreK (s : List Nat) : Nat → Nat → Nat
  | 0, k => k
  | n + 1, k => if endsUndo s k then coreK s n (k + 1) else k
def coreN (s : List Nat) : Nat := coreK s s.length 0
/-- without k letters at both ends -/
def midK (s : List Nat) (k : Nat) : List Nat := (s.take (s.length - k)).drop k
theorem midK_len (s : List Nat) (k : Nat) : (midK s k).length = s.length - 2 * k := by unfold midK; simp; omega
theorem midK_at {s : List Nat} {k i : Nat} (h : i + 2 * k < s.length) : (midK s k)[i]? = s[k + i]? := by
  unfold midK
  rw [List.getElem?_drop, List.getElem?_take, if_pos (by omega)]
theorem midK_succ (s : List Nat) (k : Nat) : ((midK s k).take ((midK s k).length - 1)).drop 1 = midK s (k + 1) := by
  rw [midK_len]
  unfold midK
  refine List.ext_getElem? fun n => ?_
  simp only [List.getElem?_drop, List.getElem?_take]
  by_cases h : 1 + n < s.length - 2 * k - 1
  · rw [if_pos h, if_pos (by omega), if_pos (by omega)]
    congr 1
    omega
  · rw [if_neg h, if_neg (by omega)]
theorem midK_w {s : List Nat} (h : W s) (k : Nat) : W (midK s k) := (h.take _).drop _
theorem endsUndo_lt {s : List Nat} {k : Nat} (h : endsUndo s k = true) : 2 * k + 1 < s.length := by
  unfold endsUndo at h
  rw [Bool.and_eq_true] at h
  exact of_decide_eq_true h.1
end GB
namespace GB
open PySem PySem.Spec PyProof.Rows L2
/-- a slot that may be stored to: empty, a tree or an own list -/
def so (x : Option S) : Prop := x = none ∨ (∃ d, x = some (.fz d)) ∨ ∃ l, x = some (.ol l)
theorem rep_succ (w : List Nat) (k : Nat) : rep w (k + 1) = w ++ rep w k := by unfold rep; rw [List.replicate_succ, List.flatten_cons]
theorem rep_0 (w : List Nat) : rep w 0 = [] := rfl
theorem rep_1 (w : List Nat) : rep w 1 = w := by rw [rep_succ, rep_0, List.append_nil]
/-- w is so many times its first s letters -/
def per (w : List Nat) (s : Nat) : Bool := decide (rep (w.take s) (w.length / s) = w)
theorem per_len {w : List Nat} (h : w ≠ []) : per w w.length = true := by
  have : 0 < w.length := List.length_pos_iff.mpr h
  refine decide_eq_true ?_
  rw [List.take_length, Nat.div_self this, rep_1]
def sizesL (w : List Nat) : List Nat := ((List.range w.length).map (· + 1)).filter (per w)
theorem sizesL_mem {w : List Nat} {s : Nat} : s ∈ sizesL w ↔ (1 ≤ s ∧ s ≤ w.length) ∧ per w s = true := by
  unfold sizesL
  rw [List.mem_filter, List.mem_map]
  constructor
  · rintro ⟨⟨k, hk, rfl⟩, h⟩
    exact ⟨by have := List.mem_range.mp hk; omega, h⟩
  · rintro ⟨h1, h⟩
    exact ⟨⟨s - 1, List.mem_range.mpr (by omega), by omega⟩, h⟩
theorem sizesL_cons {w : List Nat} (h : w ≠ []) : ∃ s l, sizesL w = s :: l ∧ (1 ≤ s ∧ s ≤ w.length) ∧ per w s = true ∧ ∀ t, 1 ≤ t → t ≤ w.length → per w t = true → s ≤ t := by
  have hl : w.length ∈ sizesL w := sizesL_mem.mpr ⟨⟨List.length_pos_iff.mpr h, Nat.le_refl _⟩, per_len h⟩
  have hp : (sizesL w).Pairwise (· < ·) := by
    unfold sizesL
    refine List.Pairwise.filter _ (List.pairwise_map.mpr ?_)
    exact List.pairwise_lt_range.imp fun h => by omega
  cases e : sizesL w with
  | nil => rw [e] at hl; cases hl
  | cons s l =>
    rw [e] at hp
    have hs := sizesL_mem.mp (show s ∈ sizesL w from by rw [e]; exact List.mem_cons_self ..)
    refine ⟨s, l, rfl, hs.1, hs.2, fun t h1 h2 h3 => ?_⟩
    have := sizesL_mem.mpr ⟨⟨h1, h2⟩, h3⟩
    rw [e] at this
    rcases List.mem_cons.mp this with rfl | this
    · exact Nat.le_refl _
    · exact Nat.le_of_lt ((List.pairwise_cons.mp hp).1 t this)
def rootS (w : List Nat) : Nat := (sizesL w).headD 0
theorem lockAll_fz (r : Rho) : ∀ l : List D, lockAll (l.map fun d => Opd.val (.fz d)) r = some (l.map S.fz, r, [])
  | [] => rfl
  | d :: l => by
    rw [List.map_cons, List.map_cons, lockAll]
    show (match lockAll (l.map fun d => Opd.val (.fz d)) r with | some (ss, r2, u2) => some (S.fz d :: ss, r2, [] ++ u2) | none => none) = _
    rw [lockAll_fz r l]
    rfl
section
variable {fs : Rho → Rs (List Opd)} {mk : List S → Option (List D)} {fg : D → Rho → Option Rho} {f : Rho → Fl} {ft : Rho → Rs Bool} {fe : Rho → Rs Opd} {vs : List Nat} {r r1 r3 : Rho}
theorem lc_vals (l : List D) {ds acc : List D} (h : fs r = .ok (l.map fun d => Opd.val (.fz d)) r1) (hk : mk (l.map S.fz) = some ds) (hs : softs r1 vs = true) (hc : cmpL fg ft fe vs ds (wipeR r1 vs) [] = .ok acc r3) :
    eLc fs mk fg ft fe vs r = .ok (.val (.ol acc)) (restR r1 r3 vs) := by
  unfold eLc
  rw [h]
  have e := lockAll_fz r1 l
  generalize l.map (fun d => Opd.val (.fz d)) = os at *
  generalize l.map S.fz = ss at *
  show (match lockAll os r1 with
    | some (ss, r2, u) => (match mk ss with
      | some ds => if softs r2 vs then (match cmpL fg ft fe vs ds (wipeR r2 vs) [] with | .ok acc r3 => Rs.ok (Opd.val (S.ol acc)) (unlR u (restR r2 r3 vs)) | _ => .st) else .st
      | none => .st)
    | none => .st) = _
  rw [e]
  show (match mk ss with
    | some ds => if softs r1 vs then (match cmpL fg ft fe vs ds (wipeR r1 vs) [] with | .ok acc r3 => Rs.ok (Opd.val (S.ol acc)) (unlR [] (restR r1 r3 vs)) | _ => .st) else .st
    | none => .st) = _
  rw [hk]
  dsimp only
  rw [if_pos hs, hc]
  rfl
end
theorem div_n {a b : Nat} (h1 : 1 ≤ b) (h2 : b ≤ 1000000000) : fDivI (a : Int) (b : Int) = some (.fz (.int ((a / b : Nat) : Nat))) := by
  unfold fDivI
  rw [if_pos ⟨by omega, by omega⟩, Int.natCast_ediv]
theorem upFrom_map {lo : Nat} {n : Nat} : upFrom (lo : Int) n = (List.range n).map fun k => D.int ((lo + k : Nat) : Int) := by
  unfold upFrom
  exact List.map_congr_left fun k _ => by rw [Int.natCast_add]
end GB
namespace GB
open PySem PySem.Spec PyProof.Rows L2
end GB
namespace GB
open PySem PySem.Spec PyProof.Rows L2
/-- a leaf that may be compared -/
def eqL (d : D) : Prop := (∃ i, d = .int i) ∨ (∃ w : List Nat, d = .str w ∧ ∀ c ∈ w, c < 1114112) ∨ d = .non ∨ ∃ b, d = .bl b
theorem eqL_w {w : List Nat} (h : W w) : eqL (.str w) := .inr (.inl ⟨w, rfl, fun c hc => by have := isL_iff.mp (h c hc); omega⟩)
theorem eqL_spec {d : D} (h : eqL d) : d.py.canLay0 = true ∧ d.py.depth = 0 ∧ d.py.hasDict = false := by
  rcases h with ⟨i, rfl⟩ | ⟨w, rfl, h⟩ | rfl | ⟨b, rfl⟩
  · exact ⟨by rw [D.py, PyData.canLay0], by rw [D.py, PyData.depth], by rw [D.py, PyData.hasDict]⟩
  · refine ⟨?_, depth_str _, by rw [D.py, PyData.hasDict]⟩
    rw [D.py, PyData.canLay0]
    show (⟨w.toArray⟩ : Str).cps.all (· < 0x110000) = true
    simpa using h
  · exact ⟨by rw [D.py, PyData.canLay0], by rw [D.py, PyData.depth], by rw [D.py, PyData.hasDict]⟩
  · exact ⟨by rw [D.py, PyData.canLay0], by rw [D.py, PyData.depth], by rw [D.py, PyData.hasDict]⟩
theorem eqL_all : ∀ {ds : List D}, (∀ d ∈ ds, eqL d) → PyData.canLayAll0 (pyAll ds) = true ∧ PyData.depthAll (pyAll ds) = 0 ∧ PyData.hasDictAll (pyAll ds) = false
  | [], _ => ⟨rfl, rfl, rfl⟩
  | d :: ds, h => by
    obtain ⟨h1, h2, h3⟩ := eqL_spec (h d (List.mem_cons_self ..))
    obtain ⟨g1, g2, g3⟩ := eqL_all fun d hd => h d (List.mem_cons_of_mem _ hd)
    exact ⟨by rw [pyAll, PyData.canLayAll0, h1, g1]; rfl, by rw [pyAll, PyData.depthAll, h2, g2]; rfl, by rw [pyAll, PyData.hasDictAll, h3, g3]; rfl⟩
theorem fit_tup {ds : List D} (h : ∀ d ∈ ds, eqL d) : (D.tup ds).fit = true := by
  obtain ⟨h1, h2, h3⟩ := eqL_all h
  have e1' : (D.tup ds).py.canLay0 = true := by rw [D.py, PyData.canLay0]; exact h1
  have e2' : (D.tup ds).py.depth ≤ 64 := by rw [D.py, PyData.depth, h2]; decide
  have e3' : (D.tup ds).py.hasDict = false := by rw [D.py, PyData.hasDict]; exact h3
  show (((D.tup ds).py.canLay0 && decide ((D.tup ds).py.depth ≤ 64)) && !(D.tup ds).py.hasDict) = true
  rw [e1', e3', decide_eq_true e2']; rfl
theorem eqv_strs : ∀ as bs : List (List Nat), PyData.eqvAll (pyAll (as.map D.str)) (pyAll (bs.map D.str)) = decide (as = bs)
  | [], [] => rfl
  | [], _ :: _ => rfl
  | _ :: _, [] => rfl
  | a :: as, b :: bs => by
    rw [List.map_cons, List.map_cons, pyAll, pyAll, PyData.eqvAll, eqv_strs as bs, D.py, D.py, PyData.eqv]
    have e : ((⟨a.toArray⟩ : Str) == ⟨b.toArray⟩) = decide (a = b) := by
      rw [Bool.eq_iff_iff, beq_iff_eq, decide_eq_true_iff]
      simp
    rw [e, Bool.eq_iff_iff, Bool.and_eq_true, decide_eq_true_iff, decide_eq_true_iff, decide_eq_true_iff, List.cons.injEq]
theorem ne_tups {as bs : List (List Nat)} (ha : ∀ w ∈ as, W w) (hb : ∀ w ∈ bs, W w) : fNe (.fz (.tup (as.map D.str))) (.fz (.tup (bs.map D.str))) = some (.fz (.bl (!decide (as = bs)))) := by
  have f : ∀ {l : List (List Nat)}, (∀ w ∈ l, W w) → ∀ d ∈ l.map D.str, eqL d := fun h d hd => by
    obtain ⟨w, hw, rfl⟩ := List.mem_map.mp hd
    exact eqL_w (h w hw)
  show (if (D.tup (as.map D.str)).fit && (D.tup (bs.map D.str)).fit then some ((D.tup (as.map D.str)).same (.tup (bs.map D.str))) else none).map (fun k => S.fz (.bl (!k))) = _
  rw [fit_tup (f ha), fit_tup (f hb)]
  show some (S.fz (.bl (!PyData.eqv (D.tup (as.map D.str)).py (D.tup (bs.map D.str)).py))) = _
  rw [D.py, D.py, PyData.eqv, eqv_strs]
@[simp] theorem s_fIsA {T : BT} {d : D} : fIsA T (.fz d) = some (.fz (.bl (isA (.fz d) T))) := rfl
@[simp] theorem s_fIsA1 {T : BT} {d : List D} : fIsA T (.ol d) = some (.fz (.bl (isA (.ol d) T))) := rfl
@[simp] theorem s_fIsA2 {T : BT} {d : List D} : fIsA T (.br d) = some (.fz (.bl (isA (.br d) T))) := rfl
@[simp] theorem s_fIsA3 {T : BT} {d : List D} : fIsA T (.lk d) = some (.fz (.bl (isA (.lk d) T))) := rfl
@[simp] theorem isA_str {w : List Nat} : isA (.fz (.str w)) .str = true := rfl
@[simp] theorem isA_stuple {w : List Nat} : isA (.fz (.str w)) .tuple = false := rfl
@[simp] theorem isA_sint {w : List Nat} : isA (.fz (.str w)) .int = false := rfl
@[simp] theorem isA_tup {ds : List D} : isA (.fz (.tup ds)) .tuple = true := rfl
@[simp] theorem isA_tstr {ds : List D} : isA (.fz (.tup ds)) .str = false := rfl
@[simp] theorem isA_int {i : Int} : isA (.fz (.int i)) .int = true := rfl
@[simp] theorem isA_ibool {i : Int} : isA (.fz (.int i)) .bool = false := rfl
theorem any_bls {bs : List Bool} : fAny (.ol (bs.map D.bl)) = some (.fz (.bl (bs.any id))) := by
  have e : blsOf (bs.map D.bl) = some bs := by
    induction bs with
    | nil => rfl
    | cons b bs ih => rw [List.map_cons, blsOf, ih]; rfl
  show (blsOf (bs.map D.bl)).map (fun bs => S.fz (.bl (bs.any id))) = _
  rw [e]; rfl
/-- the number of a letter -/
def num (c : Nat) : Nat := if 97 ≤ c then c - 97 else c - 65
/-- no letter just ahead of its back -/
def tidy : List Nat → Bool
  | x :: y :: w => decide (x ≠ bk y) && tidy (y :: w)
  | _ => true
theorem tidy_ok {w : List Nat} (h : W w) : tidy w = true ↔ Ok w := by
  induction w with
  | nil => exact ⟨fun _ => ok_nil, fun _ => rfl⟩
  | cons x w ih =>
    cases w with
    | nil => exact ⟨fun _ => trivial, fun _ => rfl⟩
    | cons y w =>
      have ih := ih h.tail
      show (decide (x ≠ bk y) && tidy (y :: w)) = true ↔ y ≠ bk x ∧ Ok (y :: w)
      rw [Bool.and_eq_true, decide_eq_true_iff, ih]
      have hx := h.head
      have hy := h.tail.head
      constructor
      · exact fun z => ⟨fun e => z.1 (by rw [e, bk_bk hx]), z.2⟩
      · exact fun z => ⟨fun e => z.1 (by rw [e, bk_bk hy]), z.2⟩
theorem ok_snoc : ∀ (s : List Nat) (x y : Nat), Ok (s ++ [x]) → (y ≠ bk x) → Ok (s ++ [x, y])
  | [], x, y, _, h => ⟨h, trivial⟩
  | [a], x, y, g, h => ⟨g.1, h, trivial⟩
  | a :: b :: s, x, y, g, h => ⟨g.1, ok_snoc (b :: s) x y g.2 h⟩
theorem ok_rev {w : List Nat} (h : W w) : Ok w → Ok w.reverse := by
  induction w with
  | nil => exact fun h => h
  | cons x w ih =>
    intro o
    cases w with
    | nil => exact trivial
    | cons y w =>
      have i := ih h.tail o.tail
      rw [List.reverse_cons] at i ⊢
      rw [List.reverse_cons, List.append_assoc]
      refine ok_snoc _ _ _ i fun e => o.1 ?_
      rw [e, bk_bk h.tail.head]
/-- reduced just where nothing falls out -/
theorem red_self {w : List Nat} (h : W w) : red w = w ↔ tidy w = true := by
  rw [tidy_ok h]
  constructor
  · intro e
    have o : Ok (run [] w) := run_ok ok_nil
    have q : W (run [] w) := run_w .nil h
    have := ok_rev q o
    show Ok w
    rw [← e]
    exact this
  · intro o
    have := run_rev (s := w.reverse) (t := []) (by rw [List.append_nil]; exact ok_rev h o)
    unfold red
    rw [List.reverse_reverse, List.append_nil] at this
    rw [this, List.reverse_reverse]
theorem red_red {w : List Nat} (h : W w) : red (red w) = red w := by
  have := red_l (u := w) (v := []) h .nil
  rw [List.append_nil, List.append_nil] at this
  exact this
end GB
namespace GB
open PySem PySem.Spec PyProof.Rows L2
section
variable {X : Cx} {C : Ct} {K : PySem.W.Frag} {U W : Addr → Prop} {H : Hp} {v : V} {a b e : Expr} {fa fb fe : Rho → Rs Opd} {pos p : Pos}
def rListS : List V → Hp → VK → Prop := fun xs H Q => ∃ w : List Nat, xs = [.str ⟨w.toArray⟩] ∧ w.length ≤ sizeLine ∧ ∀ p, H p = none → Q (.ref p) (upd H p (.lst (w.map fun c => V.str ⟨#[c]⟩)))
theorem vals_signs {w : List Nat} {acc : Array Value} (h : ItemsOf (SignAt ⟨w.toArray⟩) acc w.length) : Vals (w.map fun c => V.str ⟨#[c]⟩) acc.toList := by
  obtain ⟨hs, hi⟩ := h
  have key : ∀ (w : List Nat) (us : List Value), us.length = w.length → (∀ (i : Nat) (v : Value), us[i]? = some v → ∃ (c : Nat) (u : Tok), w[i]? = some c ∧ v = Value.str ⟨#[c]⟩ u) → Vals (w.map fun c => V.str ⟨#[c]⟩) us := by
    intro w
    induction w with
    | nil => intro us hl _; cases us with | nil => exact .nil | cons _ _ => simp at hl
    | cons c w ih =>
      intro us hl hi
      cases us with
      | nil => simp at hl
      | cons u us =>
        obtain ⟨c', t, e1', e2'⟩ := hi 0 u rfl
        cases e1'
        exact .cons ⟨t, e2'⟩ (ih us (by simpa using hl) fun i v hv => by
          obtain ⟨c', t, e1', e2'⟩ := hi (i + 1) v (by simpa using hv)
          exact ⟨c', t, by simpa using e1', e2'⟩)
  refine key w acc.toList (by simpa using hs) fun i v hv => ?_
  have hv' : acc[i]? = some v := by rw [← Array.getElem?_toList]; exact hv
  obtain ⟨c, u, e1', e2'⟩ := hi i v hv'
  exact ⟨c, u, by simpa using e1', e2'⟩
theorem call_listS (hc : X.calm = true) : CallR X (.type "list") rListS := by
  intro pins s σ H xs us Q I r h
  obtain ⟨w, rfl, hl, q⟩ := h
  obtain ⟨u, rfl, t, rfl⟩ := vals1 r
  refine call_list_str (I.ok.hd hc) ⟨w.toArray⟩ t (fun h' tk acc n hk hS hacc => ?_) (by simpa using hl)
  have hv := vals_signs (w := w) (by simpa using hacc)
  refine ⟨.ref s.heap.objs.size, upd H s.heap.objs.size (.lst (w.map fun c => V.str ⟨#[c]⟩)), ?_, rfl, q _ (I.hok.fresh (Nat.le_refl _))⟩
  exact I.laid (t' := tk) hk (Nat.le_refl _) ⟨by rw [List.length_map]; exact hl, acc.toList, n, hv, by rw [hS]⟩
def keyT : Key → D
  | .inl i => .int i
  | .inr s => .str s.cps.toList
theorem rp_key (k : Key) : Rp K W H (kV k) (keyT k) := by
  cases k with
  | inl i => exact .int i
  | inr s =>
    have e : s = ⟨s.cps.toList.toArray⟩ := toStr s
    rw [e]
    have := Rp.str (K := K) (W := W) (H := H) s.cps.toList
    simpa [kV, keyT] using this
theorem rps_keys : ∀ ks : List Key, Rps K W H (ks.map kV) (ks.map keyT)
  | [] => .nil
  | k :: ks => .cons (rp_key k) (rps_keys ks)
def asKs : S → Option (List Key)
  | .fz (.dic ks _) => some ks
  | .od k => some (k.map Prod.fst) | .bd k => some (k.map Prod.fst)
  | _ => none
theorem asKs_of {s : S} (x : SR K U W H v s) {ks : List Key} (h : asKs s = some ks) : ∃ p kvs, v = .ref p ∧ H p = some (.dK kvs) ∧ kvs.map Prod.fst = ks := by
  cases x with
  | fz x => cases x with
    | dic e n q t => cases h; exact ⟨_, _, rfl, e, q⟩
    | _ => cases h
  | od e x => cases h; exact ⟨_, _, rfl, e, (kr_rps x).1⟩
  | bd e x => cases h; exact ⟨_, _, rfl, e, (kr_rps x).1⟩
  | _ => cases h
def fListU : S → Option S := fun s => match s with
  | .fz (.str w) => if big w.length then some (.ol (w.map fun c => .str [c])) else none
  | s => match asKs s with
    | some ks => some (.ol (ks.map keyT))
    | none => fList s
def rListU (K : PySem.W.Frag) : List V → Hp → VK → Prop := fun xs H Q => rListS xs H Q ∨ (∃ (a : Addr) (kvs : List (Key × V)), xs = [.ref a] ∧ Rd H a (.dK kvs) ∧ ∀ p, H p = none → Q (.ref p) (upd H p (.lst (kvs.map fun kv => kV kv.1)))) ∨
  ∃ p ys, xs = [.ref p] ∧ (SqL K H p ys ∨ SqT K H p ys) ∧ ∀ l, H l = none → Q (.ref l) (upd H l (.lst ys))
theorem call_listU (hc : X.calm = true) : CallR X (.type "list") (rListU X.K) := cr_or (call_listS hc) (cr_or (call_listD hc) call_list_of)
theorem rps_signs : ∀ w : List Nat, Rps K W H (w.map fun c => V.str ⟨#[c]⟩) (w.map fun c => D.str [c])
  | [] => .nil
  | c :: w => .cons (.str [c]) (rps_signs w)
theorem pn_listU : PN C (rListU C.K) (p1 fListU) := by
  intro U W H vs ss s Q lv hs hp q
  match ss, hs with
  | [], .nil => cases hp
  | _ :: _ :: _, .cons _ (.cons _ _) => cases hp
  | [t], .cons (a := x) xa .nil =>
    have hp : fListU t = some s := hp
    have old : fList t = some s → rListU C.K [x] H Q := fun h => .inr (.inr (pn_list U W H [x] [t] s Q lv (.cons xa .nil) h q))
    have keys : ∀ ks, asKs t = some ks → s = .ol (ks.map keyT) → rListU C.K [x] H Q := fun ks h1 h2 => by
      subst h2
      obtain ⟨a, kvs, rfl, e, e2'⟩ := asKs_of xa h1
      refine .inr (.inl ⟨a, kvs, rfl, .inl e, fun l hl => ?_⟩)
      have e3' : (kvs.map fun kv => kV kv.1) = ks.map kV := by rw [← e2', List.map_map]; rfl
      rw [e3']
      exact q _ _ (Got.newL (C := C) lv hl (rps_keys ks))
    by_cases z : ∃ w, t = .fz (.str w)
    · obtain ⟨w, rfl⟩ := z
      have hp : (if big w.length then some (S.ol (w.map fun c => D.str [c])) else none) = some s := hp
      by_cases hb : big w.length = true
      · rw [if_pos hb] at hp; cases hp
        rw [sr_str xa]
        exact .inl ⟨w, rfl, big_le hb, fun l hl => q _ _ (Got.newL (C := C) lv hl (rps_signs w))⟩
      · rw [if_neg hb] at hp; cases hp
    · have hp : (match asKs t with | some ks => some (S.ol (ks.map keyT)) | none => fList t) = some s := by
        cases t with
        | fz d => cases d with
          | str w => exact absurd ⟨_, rfl⟩ z
          | _ => exact hp
        | _ => exact hp
      cases e : asKs t with
      | none => rw [e] at hp; exact old hp
      | some ks => rw [e] at hp; cases hp; exact keys ks e rfl
theorem x_listU (hc : X.calm = true) (hm : X.mg "list" = none) (ha : GE X C a fa) (hK : C.K = X.K := by rfl) (hg : Gl X "list" := by rfl) (hs : starEach [a] X.env = (false, eval a X.env) :: starEach [] X.env := by rfl) : GE X C (.Call (.Name "list" p) [a] [] pos) (e1 (p1 fListU) fa) :=
  ge_call pn_listU (by rw [hK]; exact pe_callTy (call_listU hc) hg hm PyProof.Rows.boot_list (ga_cons ha ga_nil hs) (he := hs))
def rTupS : List V → Hp → VK → Prop := fun xs H Q => ∃ w : List Nat, xs = [.str ⟨w.toArray⟩] ∧ w.length ≤ sizeLine ∧ ∀ p o, TupO o → H p = none → Q (.ref p) (upd H p (.frz o (.tup (w.map fun c => V.str ⟨#[c]⟩))))
theorem call_tupS (hc : X.calm = true) : CallR X (.type "tuple") rTupS := by
  intro pins s σ H xs us Q I r h
  obtain ⟨w, rfl, hl, q⟩ := h
  obtain ⟨u, rfl, t, rfl⟩ := vals1 r
  refine call_tuple_str (I.ok.hd hc) ⟨w.toArray⟩ t (fun h' tk acc hk hacc => ?_) (by simpa using hl)
  have hv := vals_signs (w := w) (by simpa using hacc)
  have I1 : L2.Inv X pins σ H { s with heap := h', toks := tk } := I.kept hk
  refine ⟨.ref h'.objs.size, upd H h'.objs.size (.frz { cls := .type "tuple", data := .seq acc } (.tup (w.map fun c => V.str ⟨#[c]⟩))), ?_, rfl, q _ _ ⟨rfl, rfl⟩ (I1.hok.fresh (Nat.le_refl _))⟩
  exact I1.laid (t' := tk) (fun b u e => Heap.get?_push_of_some _ e) (Nat.le_refl _) ⟨Heap.get?_push_size _ rfl, by rw [List.length_map]; exact hl, acc.toList, hv, ⟨_, Heap.get?_push_size _ rfl, rfl, _, by simp; rfl⟩⟩
def fTupU : S → Option S := fun s => match s with
  | .fz (.str w) => if big w.length then some (.fz (.tup (w.map fun c => .str [c]))) else none
  | s => fTuple s
def rTupU (K : PySem.W.Frag) : List V → Hp → VK → Prop := fun xs H Q => rTupS xs H Q ∨ ∃ p ys, xs = [.ref p] ∧ ((SqL K H p ys ∧ ∀ l o, TupO o → H l = none → Q (.ref l) (upd H l (.frz o (.tup ys)))) ∨ (SqT K H p ys ∧ Q (.ref p) H))
theorem pn_tupU : PN C (rTupU C.K) (p1 fTupU) := by
  intro U W H vs ss s Q lv hs hp q
  match ss, hs with
  | [], .nil => cases hp
  | _ :: _ :: _, .cons _ (.cons _ _) => cases hp
  | [t], .cons (a := x) xa .nil =>
    have hp : fTupU t = some s := hp
    by_cases z : ∃ w, t = .fz (.str w)
    · obtain ⟨w, rfl⟩ := z
      have hp : (if big w.length then some (S.fz (.tup (w.map fun c => D.str [c]))) else none) = some s := hp
      by_cases hb : big w.length = true
      · rw [if_pos hb] at hp; cases hp
        rw [sr_str xa]
        exact .inl ⟨w, rfl, big_le hb, fun l o ho hl => q _ _ (Got.newT (C := C) lv hl ho (rps_signs w))⟩
      · rw [if_neg hb] at hp; cases hp
    · have hp : fTuple t = some s := by
        cases t with
        | fz d => cases d with
          | str w => exact absurd ⟨_, rfl⟩ z
          | _ => exact hp
        | _ => exact hp
      exact .inr (pn_tuple U W H [x] [t] s Q lv (.cons xa .nil) hp q)
theorem x_tupU (hc : X.calm = true) (hm : X.mg "tuple" = none) (ha : GE X C a fa) (hK : C.K = X.K := by rfl) (hg : Gl X "tuple" := by rfl) (hs : starEach [a] X.env = (false, eval a X.env) :: starEach [] X.env := by rfl) : GE X C (.Call (.Name "tuple" p) [a] [] pos) (e1 (p1 fTupU) fa) :=
  ge_call pn_tupU (by rw [hK]; exact pe_callTy (cr_or (call_tupS hc) call_tuple_ofX) hg hm PyProof.Rows.boot_tuple (ga_cons ha ga_nil hs) (he := hs))
def fIs (a b : S) : Option S := match a, b with
  | .fz (.bl x), .fz (.bl y) => some (.fz (.bl (decide (x = y))))
  | a, b => fIsN a b
def fIsNot (a b : S) : Option S := match a, b with
  | .fz (.bl x), .fz (.bl y) => some (.fz (.bl (!decide (x = y))))
  | a, b => fIsNotN a b
def rIsU : R2 := fun x y H Q => (y = .non ∧ Q (.bl (decide (x = .non))) H) ∨ ∃ a b, x = .bl a ∧ y = .bl b ∧ Q (.bl (decide (a = b))) H
def rIsNotU : R2 := fun x y H Q => (y = .non ∧ Q (.bl (!decide (x = .non))) H) ∨ ∃ a b, x = .bl a ∧ y = .bl b ∧ Q (.bl (!decide (a = b))) H
theorem pn_is : PN C (fun vs H Q => ∃ x y, vs = [x, y] ∧ rIsU x y H Q) (p2 fIs) := by
  refine pn2 (rr := rIsU) fun U W H x y a b s Q lv xa xb h q => ?_
  by_cases z : ∃ k l, a = .fz (.bl k) ∧ b = .fz (.bl l)
  · obtain ⟨k, l, rfl, rfl⟩ := z
    cases h
    exact .inr ⟨k, l, sr_bl xa, sr_bl xb, q _ _ (.same (.bl _))⟩
  · have h : fIsN a b = some s := by
      rw [← h]
      unfold fIs
      split
      · exact absurd ⟨_, _, rfl, rfl⟩ z
      · rfl
    obtain ⟨x', y', e, h1⟩ := pn_isN U W H [x, y] [a, b] s Q lv (.cons xa (.cons xb .nil)) h q
    cases e
    exact .inl h1
theorem pn_isNot : PN C (fun vs H Q => ∃ x y, vs = [x, y] ∧ rIsNotU x y H Q) (p2 fIsNot) := by
  refine pn2 (rr := rIsNotU) fun U W H x y a b s Q lv xa xb h q => ?_
  by_cases z : ∃ k l, a = .fz (.bl k) ∧ b = .fz (.bl l)
  · obtain ⟨k, l, rfl, rfl⟩ := z
    cases h
    exact .inr ⟨k, l, sr_bl xa, sr_bl xb, q _ _ (.same (.bl _))⟩
  · have h : fIsNotN a b = some s := by
      rw [← h]
      unfold fIsNot
      split
      · exact absurd ⟨_, _, rfl, rfl⟩ z
      · rfl
    obtain ⟨x', y', e, h1⟩ := pn_isNotN U W H [x, y] [a, b] s Q lv (.cons xa (.cons xb .nil)) h q
    cases e
    exact .inl h1
theorem op_isU : OpR X (compareOp .Is) rIsU := op_isN.or op_is_bl
theorem op_isNotU : OpR X (compareOp .IsNot) rIsNotU := op_notN.or op_isnot_bl
theorem x_is (ha : GE X C a fa) (hb : GE X C b fb) : GE X C (.Compare a [.Is] [b] pos) (e2 (p2 fIs) fa fb) := ge_op pn_is (pe_cmpR op_isU ha hb (nobehind _ (by decide) (by decide)))
theorem t_isNot (ha : GE X C a fa) (hb : GE X C b fb) : GT X C (.Compare a [.IsNot] [b] pos) (eBl (e2 (p2 fIsNot) fa fb)) := gt_cmp op_isNotU pn_isNot ha hb (nobehind _ (by decide) (by decide))
end
@[simp] theorem listU_o {ds : List D} : fListU (.ol ds) = fList (.ol ds) := rfl
@[simp] theorem listU_b {ds : List D} : fListU (.br ds) = fList (.br ds) := rfl
@[simp] theorem listU_k {ds : List D} : fListU (.lk ds) = fList (.lk ds) := rfl
@[simp] theorem listU_l {ds : List D} : fListU (.fz (.lst ds)) = fList (.fz (.lst ds)) := rfl
@[simp] theorem listU_t {ds : List D} : fListU (.fz (.tup ds)) = fList (.fz (.tup ds)) := rfl
@[simp] theorem listU_c {ds : List D} : fListU (.fz (.scr ds)) = fList (.fz (.scr ds)) := rfl
@[simp] theorem tupU_o {ds : List D} : fTupU (.ol ds) = fTuple (.ol ds) := rfl
@[simp] theorem tupU_b {ds : List D} : fTupU (.br ds) = fTuple (.br ds) := rfl
@[simp] theorem tupU_k {ds : List D} : fTupU (.lk ds) = fTuple (.lk ds) := rfl
@[simp] theorem tupU_l {ds : List D} : fTupU (.fz (.lst ds)) = fTuple (.fz (.lst ds)) := rfl
@[simp] theorem tupU_t {ds : List D} : fTupU (.fz (.tup ds)) = fTuple (.fz (.tup ds)) := rfl
@[simp] theorem is_bb {a b : Bool} : fIs (.fz (.bl a)) (.fz (.bl b)) = some (.fz (.bl (decide (a = b)))) := rfl
@[simp] theorem isNot_bb {a b : Bool} : fIsNot (.fz (.bl a)) (.fz (.bl b)) = some (.fz (.bl (!decide (a = b)))) := rfl
@[simp] theorem is_n {d : D} : fIs (.fz d) (.fz .non) = some (.fz (.bl d.isNon)) := by cases d <;> rfl
@[simp] theorem isNot_n {d : D} : fIsNot (.fz d) (.fz .non) = some (.fz (.bl (!d.isNon))) := by cases d <;> rfl
end GB
namespace GB
open PySem PySem.Spec PyProof.Rows L2
section
variable {fa fb : Rho → Rs Opd} {r : Rho}
@[simp] theorem s_eAnd : eAnd fa fb r = (fa r).bind fun o r1 => match blOf o r1 with | some true => fb r1 | some false => .ok (.val (.fz (.bl false))) r1 | none => .st := rfl
@[simp] theorem s_eOr : eOr fa fb r = (fa r).bind fun o r1 => match blOf o r1 with | some true => .ok (.val (.fz (.bl true))) r1 | some false => fb r1 | none => .st := rfl
@[simp] theorem s_eNotV : eNot fa r = (fa r).bind fun o r1 => match blOf o r1 with | some b => .ok (.val (.fz (.bl (!b)))) r1 | none => .st := rfl
@[simp] theorem blOf_val {b : Bool} : blOf (.val (.fz (.bl b))) r = some b := rfl
@[simp] theorem blOf_loc {i : Nat} : blOf (.loc i) r = match (r[i]?).join with | some (.fz (.bl b)) => some b | _ => none := rfl
end
@[simp] theorem big_0 : big 0 = true := rfl
@[simp] theorem big_1 : big 1 = true := rfl
@[simp] theorem big_2 : big 2 = true := rfl
@[simp] theorem big_3 : big 3 = true := rfl
@[simp] theorem big_4 : big 4 = true := rfl
@[simp] theorem big_5 : big 5 = true := rfl
@[simp] theorem big_6 : big 6 = true := rfl
@[simp] theorem big_7 : big 7 = true := rfl
@[simp] theorem big_8 : big 8 = true := rfl
@[simp] theorem big_9 : big 9 = true := rfl
@[simp] theorem big_10 : big 10 = true := rfl
@[simp] theorem big_11 : big 11 = true := rfl
@[simp] theorem big_12 : big 12 = true := rfl
@[simp] theorem big_13 : big 13 = true := rfl
@[simp] theorem big_14 : big 14 = true := rfl
section
variable {n : Nat} {f : List D → Rho → Option Rho} {fg : D → Rho → Option Rho} {d : D} {ds : List D} {r : Rho}
@[simp] theorem s_gTp : gTp n f (.tup ds) r = if ds.length = n then f ds r else none := rfl
@[simp] theorem s_gsCons : gsCons fg f (d :: ds) r = match fg d r with | some r1 => f ds r1 | none => none := rfl
@[simp] theorem s_gsNil : gsNil [] r = some r := rfl
end
@[simp] theorem s_eDic0 {r : Rho} : eDic0 r = .ok (.val (.od [])) r := rfl
@[simp] theorem merge_one {k : Key} {v : D} : mergeD [(k, v)] = [(k, v)] := rfl
@[simp] theorem s_frzD {kvs : List (Key × D)} {r : Rho} : frz1 (.val (.od kvs)) r = some (.dic (kvs.map Prod.fst) (kvs.map Prod.snd), r) := rfl
end GB
namespace GB
open PySem PySem.Spec PyProof.Rows L2
@[simp] theorem s_eChain {p p' : Pr} {fa fb fc : Rho → Rs Opd} {r : Rho} : eChain p p' fa fb fc r = (fa r).bind fun o1 r1 => (fb r1).bind fun o2 r2 => (eP p [o1, o2] r2).bind fun o3 r3 => match o3 with
  | .val (.fz (.bl true)) => (fc r3).bind fun o4 r4 => eP p' [o2, o4] r4
  | .val (.fz (.bl false)) => .ok (.val (.fz (.bl false))) r3
  | _ => .st := rfl
/-- a thing that may be compared -/
def eqT (d : D) : Prop := d.py.canLay0 = true ∧ d.py.depth ≤ 9 ∧ d.py.hasDict = false
theorem eqL.T {d : D} (h : eqL d) : eqT d := by
  obtain ⟨h1, h2, h3⟩ := eqL_spec h
  exact ⟨h1, by omega, h3⟩
theorem tidy_ix : ∀ {u : List Nat}, W u → (tidy u = true ↔ ∀ k x y, u[k]? = some x → u[k + 1]? = some y → y ≠ bk x)
  | [], _ => by simp [tidy]
  | [x], _ => by
    constructor
    · intro _ k a b h1 h2
      have : k + 1 < 1 := lt_of_at h2
      omega
    · intro _; rfl
  | x :: y :: w, h => by
    have ih := tidy_ix (u := y :: w) h.tail
    show (decide (x ≠ bk y) && tidy (y :: w)) = true ↔ _
    rw [Bool.and_eq_true, decide_eq_true_iff, ih]
    have hx := h.head
    have hy := h.tail.head
    constructor
    · rintro ⟨h1, h2⟩ k a b ha hb
      cases k with
      | zero =>
        cases ha
        cases hb
        exact fun e => h1 (by rw [e, bk_bk hx])
      | succ k => exact h2 k a b (by simpa using ha) (by simpa using hb)
    · intro hh
      refine ⟨fun e => hh 0 x y rfl rfl (by rw [e, bk_bk hy]), fun k a b ha hb => hh (k + 1) a b (by simpa using ha) (by simpa using hb)⟩
end GB
namespace GB
open PySem PySem.Spec PyProof.Rows L2
/-- what a letter becomes -/
def bec (cs : List (List Nat)) (c : Nat) : List Nat := if 97 ≤ c then cs.getD (num c) [] else bkw (cs.getD (num c) [])
def sub (cs : List (List Nat)) (w : List Nat) : List Nat := w.flatMap (bec cs)
end GB
namespace GB
open PySem PySem.Spec PyProof.Rows L2
section
variable {X : Cx} {C : Ct} {es : List Expr} {pos : Pos}
theorem pg_or {tg : Expr} {t1 t2 : TG} (h1 : PG X tg t1) (h2 : PG X tg t2) : PG X tg fun v σ H Q => t1 v σ H Q ∨ t2 v σ H Q :=
  ⟨fun pins s σ H v u Q I r h => h.elim (h1.run pins s σ H v u Q I r) (h2.run pins s σ H v u Q I r)⟩
/-- (a, b, ..) = a tuple, or a list -/
def gTpU (n : Nat) (f : List D → Rho → Option Rho) : D → Rho → Option Rho := fun d r => match d with
  | .tup ds => if ds.length = n then f ds r else none
  | .lst ds => if ds.length = n then f ds r else none
  | _ => none
theorem gg_tupU {k : Nat} {f : List D → Rho → Option Rho} {n : Nat} {t : List Nat} (hc : X.calm = true) (h : GGs X C es t f) (hK : C.K = X.K := by rfl)
    (hn : (assignEach es X.env).length = n := by rfl) (hst : (assignEach es X.env).findIdx? (·.1) = none := by rfl) : GG X C (.Tuple es k pos) t (gTpU n f) := by
  refine weakG (pg_or (pg_tup hc h hn hst) (pg_unl hc h hn hst)) fun v σ H Q h => ?_
  obtain ⟨U, r, d, s, x, h⟩ := h
  have x := x.tree
  cases x with
  | @tup a xs ds q xs' =>
    unfold gTpU at h
    dsimp only at h
    by_cases hl : ds.length = n
    · rw [if_pos hl] at h
      exact .inl ⟨a, xs, rfl, hK ▸ q.sq, xs'.len.trans hl, U, r, ds, s, xs', h⟩
    · rw [if_neg hl] at h
      exact h.elim
  | @lst a xs ds q n' xs' =>
    unfold gTpU at h
    dsimp only at h
    by_cases hl : ds.length = n
    · rw [if_pos hl] at h
      exact .inr ⟨a, xs, rfl, .inl (.inl q), xs'.len.trans hl, U, r, ds, s, xs', h⟩
    · rw [if_neg hl] at h
      exact h.elim
  | _ => exact h.elim
end
section
variable {n : Nat} {f : List D → Rho → Option Rho} {ds : List D} {r : Rho} {fg : D → Rho → Option Rho} {fe : Rho → Rs Opd}
@[simp] theorem s_gTpU : gTpU n f (.tup ds) r = if ds.length = n then f ds r else none := rfl
@[simp] theorem s_gTpUl : gTpU n f (.lst ds) r = if ds.length = n then f ds r else none := rfl
@[simp] theorem s_fAsg : fAsg fg fe r = ofR (fe r) fun o r1 => match frz1 o r1 with
  | some (d, r2) => (match fg d r2 with | some r3 => .nx r3 | none => .st)
  | none => .st := rfl
end
theorem cut_nnD {α : Type} (w : List α) (i j : Nat) : GB.cutD w (some (i : Int)) (some (j : Int)) = (w.take j).drop i := by
  unfold GB.cutD
  have e1' : HT.sIx w.length w.length (some (j : Int)) = min j w.length := HT.sIx_nat w.length w.length j
  have e2' : HT.sIx w.length 0 (some (i : Int)) = min i w.length := HT.sIx_nat w.length 0 i
  rw [e1', e2']
  refine List.ext_getElem? fun n => ?_
  rw [List.getElem?_take, List.getElem?_drop, List.getElem?_drop, List.getElem?_take]
  by_cases h1 : n < min j w.length - min i w.length
  · rw [if_pos h1, if_pos (by omega)]
    congr 1
    omega
  · rw [if_neg h1]
    split
    · exact (List.getElem?_eq_none (by omega)).symm
    · rfl
end GB
namespace GB
open PySem PySem.Spec PyProof.Rows L2
theorem cut_toD {α : Type} (w : List α) (k : Nat) : GB.cutD w none (some (k : Int)) = w.take k := by
  unfold GB.cutD
  have e : HT.sIx w.length w.length (some (k : Int)) = min k w.length := HT.sIx_nat w.length w.length k
  rw [e]
  show List.take (min k w.length - 0) (w.drop 0) = _
  rw [List.drop_zero, Nat.sub_zero]
  by_cases h : k ≤ w.length
  · rw [Nat.min_eq_left h]
  · rw [Nat.min_eq_right (by omega), List.take_of_length_le (Nat.le_refl _), List.take_of_length_le (by omega)]
theorem cut_fromD {α : Type} (w : List α) (k : Nat) : GB.cutD w (some (k : Int)) none = w.drop k := by
  unfold GB.cutD
  have e : HT.sIx w.length 0 (some (k : Int)) = min k w.length := HT.sIx_nat w.length 0 k
  rw [e]
  show List.take (w.length - min k w.length) (w.drop (min k w.length)) = _
  rw [List.take_of_length_le (by rw [List.length_drop]; omega)]
  by_cases h : k ≤ w.length
  · rw [Nat.min_eq_left h]
  · rw [Nat.min_eq_right (by omega), List.drop_eq_nil_of_le (Nat.le_refl _), List.drop_eq_nil_of_le (by omega)]
@[simp] theorem tupO {ds : List D} : fTuple (.ol ds) = some (.fz (.tup ds)) := rfl
@[simp] theorem listO {ds : List D} : fList (.ol ds) = some (.ol ds) := rfl
end GB
namespace GB
open PySem PySem.Spec PyProof.Rows L2
theorem sl_toT (ds : List D) (k : Nat) : fSl (.fz (.tup ds)) (.fz .non) (.fz (.int (k : Nat))) = some (.fz (.tup (ds.take k))) := by
  show some (S.fz (.tup (GB.cutD ds none (some (k : Int))))) = _
  rw [cut_toD]
theorem sl_fromT (ds : List D) (k : Nat) : fSl (.fz (.tup ds)) (.fz (.int (k : Nat))) (.fz .non) = some (.fz (.tup (ds.drop k))) := by
  show some (S.fz (.tup (GB.cutD ds (some (k : Int)) none))) = _
  rw [cut_fromD]
end GB
namespace GB
open PySem PySem.Spec PyProof.Rows L2
/-- what is asked of the class whose __init__ is called -/
structure BaseC (K : PySem.W.Frag) (mg : Str → Option Value) (B : Str) : Prop where
  ex : ∃ R : Addr, mg B = some (.ref R) ∧ PySem.W.readsIn K R (.type "type") = true ∧ PySem.W.specialIn K (.ref R) "__getattribute__" = some (some (.builtin "type.__getattribute__")) ∧
    PySem.W.findCls K (.ref R) (.type "type") "__init__" = some (.val (.builtin "ValueError.__init__"))
section
variable {X : Cx} {e : Expr} {es : List Expr} {ta : TA} {p1 p2 pos : Pos} {B : Str}
theorem pe_ownInit {pl : Sem Bool} (b : BaseC X.K X.mg B) (ha : PA X (e :: es) ta) (hg : Gl X B := by rfl) (hdb : (B == ("__debug__" : Str)) = false := by decide)
    (hc : eval (.Call (.Attribute (.Name B p1) "__init__" p2) (e :: es) [] pos) X.env = (do
      let ov ← eval (.Name B p1) X.env
      standAt p2.atName
      let (f, first) ← holding [ov] (getMethod ov "__init__" pl)
      callWith pos f first (backTo pos (starEach (e :: es) X.env)) (backToKw pos (keywordEach [] X.env))) := by rfl)
    (he : starEach (e :: es) X.env = (false, eval e X.env) :: starEach es X.env := by rfl) (hpl : (backTo pos (starEach es X.env)).any (·.1) = false := by rfl) :
    PE X (.Call (.Attribute (.Name B p1) "__init__" p2) (e :: es) [] pos) (tVeI X.K ta) := by
  obtain ⟨R, hm, hr, hs, hf⟩ := b.ex
  refine ⟨fun pins s σ H Q I h => ?_⟩
  refine PySem.W.methodCall_KW (ld_glob I hg hm ?_ hdb) hc
  refine PySem.W.method_cls I.kIn hs (PySem.W.cls_value I.kIn hr hf (by decide +kernel) ?_)
  show wpAny _ _ (callWith pos (Value.builtin "ValueError.__init__") [] (backTo pos (starEach (e :: es) X.env)) []) _ _ _
  refine PyProof.Rows.callWith_method1 (thn (ha.run pos pins _ σ H _ (I.tok _) h) fun us s1 ⟨vs, H1, I1, r1, a, C, ws, ev, hl, T, ea, q⟩ => ?_) he hpl
  subst ev
  cases r1 with
  | @cons _ u0 _ ur ra rw' =>
    obtain rfl : u0 = Value.ref a := ra
    have hlen : ur.length ≤ sizeLine := by
      rw [← Paired.length rw', sizeLine_eq]
      omega
    exact oinit_ok T I1 ea hlen fun s' J => ⟨.non, H1, J, rfl, q⟩
end
structure XDone (H H2 : Hp) (a C d : Addr) (fs : List (Str × V)) : Prop where
  keep : ∀ b o, b ≠ a → b ≠ d → H b = some o → H2 b = some o
  obj : H2 a = some (exo a C (some d))
  dic : H2 d = some (exd d fs)
def tAsgs (K : PySem.W.Frag) : List (Str × Nat) → TS
  | [] => tNext
  | (f, i) :: l => tSeq (tOst K f (tVar 0) (tVar i)) (tAsgs K l)
/-- the values that are stored -/
inductive Vals' (σ : St) : List (Str × Nat) → List (Str × V) → Prop
  | nil : Vals' σ [] []
  | cons {f : Str} {i : Nat} {v : V} {l : List (Str × Nat)} {m : List (Str × V)} : σ[i]? = some (some v) → Vals' σ l m → Vals' σ ((f, i) :: l) ((f, v) :: m)
theorem asgs_more {K : PySem.W.Frag} {a C d : Addr} {σ : St} {D : Ends} (T : OexC K C) (h0 : σ[0]? = some (some (V.ref a))) (hda : d ≠ a) :
    ∀ (l : List (Str × Nat)) (m fs : List (Str × V)) (H : Hp), Vals' σ l m → (∀ p ∈ l, PySem.W.findIn K (.ref C) p.1 = some none) → fs.length + l.length ≤ 900 → H a = some (exo a C (some d)) → H d = some (exd d fs) →
      (∀ H2, XDone H H2 a C d (m.reverse ++ fs) → D.nx σ H2) → tAsgs K l D σ H
  | _, _, fs, H, .nil, _, _, ea, ed, k => k H ⟨fun _ _ _ _ h => h, ea, ed⟩
  | (f, i) :: l, (_, v) :: m, fs, H, .cons hi t, hn, hl, ea, ed, k => by
    refine ⟨v, hi, .ref a, h0, a, C, rfl, T, hn (f, i) (List.mem_cons_self ..), .inr ⟨d, fs, ea, ed, by simp at hl; omega, ?_⟩⟩
    refine asgs_more T h0 hda l m ((f, v) :: fs) _ t (fun p hp => hn p (List.mem_cons_of_mem _ hp)) (by simp at hl ⊢; omega) (by rw [upd_ne (Ne.symm hda)]; exact ea) upd_same fun H2 x => k H2 ⟨fun b o n1 n2 h => x.keep b o n1 n2 (by rw [upd_ne n2]; exact h), x.obj, ?_⟩
    have := x.dic
    rw [this, List.reverse_cons, List.append_assoc]; rfl
theorem asgs_all {K : PySem.W.Frag} {a C : Addr} {σ : St} {D : Ends} (T : OexC K C) (h0 : σ[0]? = some (some (V.ref a))) :
    ∀ (l : List (Str × Nat)) (m : List (Str × V)) (H : Hp), l ≠ [] → Vals' σ l m → (∀ p ∈ l, PySem.W.findIn K (.ref C) p.1 = some none) → l.length ≤ 900 → H a = some (exo a C none) →
      (∀ d H2, H d = none → d ≠ a → XDone H H2 a C d m.reverse → D.nx σ H2) → tAsgs K l D σ H
  | (f, i) :: l, (_, v) :: m, H, _, .cons hi t, hn, hl, ea, k => by
    refine ⟨v, hi, .ref a, h0, a, C, rfl, T, hn (f, i) (List.mem_cons_self ..), .inl ⟨ea, fun dx hd hda => ?_⟩⟩
    have kp : ∀ b o, b ≠ a → b ≠ dx → H b = some o → upd (upd H dx (exd dx [(f, v)])) a (exo a C (some dx)) b = some o := fun b o n1 n2 h => by rw [upd_ne n1, upd_ne n2]; exact h
    refine asgs_more T h0 hda l m [(f, v)] _ t (fun p hp => hn p (List.mem_cons_of_mem _ hp)) (by simp at hl ⊢; omega) upd_same (by rw [upd_ne hda]; exact upd_same) fun H2 x => k dx H2 hd hda ⟨fun b o n1 n2 h => x.keep b o n1 n2 (kp b o n1 n2 h), x.obj, ?_⟩
    have := x.dic
    rw [this, List.reverse_cons]
def initR (ds : List D) : Rho := none :: ds.map fun d => some (.fz d)
def spInit (K : PySem.W.Frag) (fields : List Str) (fm : Rho → Rs Opd) : Sp := fun vs H Q _ => ∃ (a C : Addr) (ws : List V) (ds : List D) (W : Addr → Prop),
  vs = .ref a :: ws ∧ ws.length = fields.length ∧ OexC K C ∧ (∀ f ∈ fields, PySem.W.findIn K (.ref C) f = some none) ∧ H a = some (exo a C none) ∧ (∀ b, W b → Lv H b) ∧ Rps K W H ws ds ∧ (∃ o r, fm (initR ds) = .ok o r) ∧
  ∀ d H2, H d = none → d ≠ a → XDone H H2 a C d (fields.zip ws).reverse → Q .non H2
theorem zip_fst_mem {α β : Type} : ∀ (xs : List α) (ys : List β) (p : α × β), p ∈ xs.zip ys → p.1 ∈ xs
  | [], _, _, h => by simp at h
  | _ :: _, [], _, h => by simp at h
  | x :: xs, y :: ys, p, h => by
    rw [List.zip_cons_cons] at h
    rcases List.mem_cons.mp h with rfl | h
    · exact List.mem_cons_self ..
    · exact List.mem_cons_of_mem _ (zip_fst_mem xs ys p h)
theorem vals_zip {σ : St} : ∀ (fields : List Str) (ws : List V) (k : Nat), fields.length = ws.length → (∀ (i : Nat) (v : V), ws[i]? = some v → σ[k + i]? = some (some v)) → Vals' σ (fields.zip ((List.range' k fields.length))) (fields.zip ws)
  | [], [], _, _, _ => .nil
  | f :: fields, w :: ws, k, hl, h => by
    rw [List.length_cons, List.range'_succ, List.zip_cons_cons, List.zip_cons_cons]
    refine .cons (by simpa using h 0 w rfl) (vals_zip fields ws (k + 1) (by simpa using hl) fun i v e => ?_)
    have := h (i + 1) v (by simpa using e)
    rw [← this]; congr 1; omega
  | [], _ :: _, _, h, _ => by simp at h
  | _ :: _, [], _, h, _ => by simp at h
/-- THE RULE for an own exception's __init__: the message by its function, then the fields -/
theorem init_ok {P : Program} {w : World} {K : PySem.W.Frag} {mg : Str → Option Value} {base : Heap} {qual : Str} {st : Stmt} {fI : Addr} {fd : FuncData} {N fields : List Str} {fm : Rho → Rs Opd} (F : L2.Fun K "__init__" qual st fI fd) (Sc : FnScope N N (defScope st)) (hN : N.length = fields.length + 1) (hf : fields ≠ []) (hfl : fields.length ≤ 900)
    (hb : ∀ (cdv : Value) (A : Around) (l : List Env) (t : Shared) (H : Hp) (E : XK), PSs (bodyCx P w K mg base N qual st fI cdv A l t H E) (defBody st) (tSeq (tDrop (tVeI K (tCons (tVar 0) (tCons (tE (bodyCt K mg E) fm) tNil)))) (tAsgs K (fields.zip (List.range' 1 fields.length))))) :
    FnOk P w K mg base (L2.CX P w) 1 fI fd N (spInit K fields fm) := by
  refine F.okX (k := 0) Sc (fun vs H Q E h => ?_) (fun cdv A l t H vs Q E hr h => ⟨_, hb cdv A l t H E, ?_⟩)
  · obtain ⟨a, C, ws, ds, W, rfl, hl, _⟩ := h
    rw [List.length_cons, hl, hN]
  · obtain ⟨a, C, ws, ds, W, rfl, hl, T, hn, ea, lv, rps, ⟨o, ro, hm⟩, k⟩ := h
    have es : L2.start N (V.ref a :: ws) = some (V.ref a) :: ws.map some := by
      unfold L2.start
      rw [hN, List.length_cons, hl, Nat.sub_self]
      simp
    rw [es]
    have noOwn : ∀ b, ¬ Own (some (V.ref a) :: ws.map some) (initR ds) b := by
      rintro b ⟨i, s, h1, h2, _⟩
      match i, h1 with
      | 0, h1 => cases h1
      | i + 1, h1 =>
        simp only [initR, List.getElem?_cons_succ, List.getElem?_map, Option.map_eq_some_iff] at h1
        obtain ⟨d, _, e⟩ := h1
        cases e; cases h2
    have wn : Wn W (some (V.ref a) :: ws.map some) (initR ds) = W := by
      funext b
      exact propext ⟨fun z => z.elim (fun z => (noOwn b z).elim) id, .inr⟩
    have sit : Sit (bodyCt K mg E) W H (some (V.ref a) :: ws.map some) (initR ds) := by
      refine ⟨by simp [initR, rps.len], fun i s h => ?_, fun i j s u v h1 q1 => ?_, fun b h => (noOwn b h).elim, lv⟩
      · match i, h with
        | 0, h => cases h
        | i + 1, h =>
          simp only [initR, List.getElem?_cons_succ, List.getElem?_map, Option.map_eq_some_iff] at h
          obtain ⟨d, hd, e⟩ := h
          cases e
          rw [wn]
          have key : ∀ (i : Nat) (ws : List V) (ds : List D), Rps K W H ws ds → ds[i]? = some d → ∃ v, ws[i]? = some v ∧ Rp K W H v d := by
            intro i
            induction i with
            | zero => intro ws ds r hd; cases r with | nil => cases hd | cons x t => cases hd; exact ⟨_, rfl, x⟩
            | succ i ih => intro ws ds r hd; cases r with | nil => cases hd | cons x t => exact ih _ _ t (by simpa using hd)
          obtain ⟨v, hv, x⟩ := key i ws ds rps hd
          exact ⟨v, by simp [hv], .fz x⟩
      · match i, h1 with
        | 0, h1 => cases h1
        | i + 1, h1 =>
          simp only [initR, List.getElem?_cons_succ, List.getElem?_map, Option.map_eq_some_iff] at h1
          obtain ⟨d, _, e⟩ := h1
          cases e; cases q1
    refine ⟨V.ref a, rfl, W, initR ds, sit, ?_⟩
    rw [hm]
    intro v H1 U1 s1 a1 p1 o1 n1
    refine ⟨a, C, [v], rfl, by simp, T, a1.keep a _ ea (noOwn a), ?_⟩
    refine asgs_all T rfl _ (fields.zip ws) H1 (fun z => ?_) (vals_zip fields ws 1 hl.symm fun i v e => by rw [Nat.add_comm]; simp [e]) (fun p hp => hn _ (zip_fst_mem _ _ _ hp)) (by rw [List.length_zip, List.length_range']; omega) (a1.keep a _ ea (noOwn a)) fun d H2 hd hda x => ?_
    · have z := congrArg List.length z
      rw [List.length_zip, List.length_range', Nat.min_self] at z
      exact hf (List.length_eq_zero_iff.mp z)
    · exact k d H2 (a1.back hd) hda ⟨fun b o n1 n2 h => x.keep b o n1 n2 (a1.keep b o h (noOwn b)), x.obj, x.dic⟩
end GB
namespace GB
open PySem PySem.Spec PyProof.Rows L2
def mkX (fields : List Str) (fm : Rho → Rs Opd) (ds : List D) : Option (List (Str × D)) :=
  if ds.length = fields.length then (match fm (initR ds) with | .ok _ _ => some (fields.zip ds).reverse | _ => none) else none
def fRaise (x : Str) (mk : List D → Option (List (Str × D))) (fa : Rho → Rs (List Opd)) : Rho → Fl := fun r => match fa r with
  | .ok os r1 => (match frzAll os r1 with
    | some (ds, r2) => if os.length ≤ 1000 then (match mk ds with | some fs => .ex x fs r2 | none => .st) else .st
    | none => .st)
  | .ex c fs r1 => .ex c fs r1
  | .st => .st
/-- what is needed of an own class of exceptions -/
structure XCls (P : Program) (w : World) (K : PySem.W.Frag) (mg : Str → Option Value) (base : Heap) (x : Str) (fields : List Str) (fm : Rho → Rs Opd) : Prop where
  ex : ∃ (C fI : Addr) (fd : FuncData), mg x = some (.ref C) ∧ OexC K C ∧ PySem.W.findIn K (.ref C) "__init__" = some (some (.ref fI)) ∧ PySem.W.typeIn K (.ref fI) = some (.type "function") ∧
    (∀ f ∈ fields, PySem.W.findIn K (.ref C) f = some none) ∧ FnOk P w K mg base (L2.CX P w) 1 fI fd ("self" :: fields) (spInit K fields fm) ∧ Binds K fd ("self" :: fields) []
theorem paired_app {α β : Type} {F : α → β → Prop} : ∀ {xs : List α} {ys : List β} {xs' : List α} {ys' : List β}, Paired F xs ys → Paired F xs' ys' → Paired F (xs ++ xs') (ys ++ ys')
  | _, _, _, _, .nil, k => k
  | _, _, _, _, .cons h t, k => .cons h (paired_app t k)
theorem paired_rev {α β : Type} {F : α → β → Prop} : ∀ {xs : List α} {ys : List β}, Paired F xs ys → Paired F xs.reverse ys.reverse
  | _, _, .nil => .nil
  | _, _, .cons h t => by rw [List.reverse_cons, List.reverse_cons]; exact paired_app (paired_rev t) (.cons h .nil)
theorem kr_zip {K : PySem.W.Frag} {W : Addr → Prop} {H : Hp} : ∀ (fields : List Str) {vs : List V} {ds : List D}, Rps K W H vs ds → KR K W H (fields.zip vs) (fields.zip ds)
  | [], _, _, _ => .nil
  | _ :: _, _, _, .nil => .nil
  | f :: fields, _, _, .cons x t => .cons ⟨rfl, x⟩ (kr_zip fields t)
section
variable {X : Cx} {C : Ct} {e : Expr} {es : List Expr} {fa : Rho → Rs (List Opd)} {x : Str} {fields : List Str} {fm : Rho → Rs Opd} {k : Nat} {p pos pos2 : Pos}
theorem gs_raise (c : XCls X.prog X.w X.K X.mg X.base x fields fm) (hc : X.calm = true) (hr : Room k X.A) (hk : 2 ≤ k) (tk : Takes X C.W) (ha : GA X C (e :: es) fa) (hK : C.K = X.K := by rfl) (hM : C.mg = X.mg := by rfl) (hg : Gl X x := by rfl) (hdb : (x == ("__debug__" : Str)) = false := by decide)
    (he : starEach (e :: es) X.env = (false, eval e X.env) :: starEach es X.env := by rfl) (hpl : (backTo pos (starEach es X.env)).any (·.1) = false := by rfl) :
    GS X C (.Raise (some (.Call (.Name x p) (e :: es) [] pos)) none pos2) (fRaise x (mkX fields fm) fa) := by
  obtain ⟨CA, fI, fd, hm, T, iC, tI, hn, F1, hb⟩ := c.ex
  refine weakS (ps_raise hc tk (pmk_oex (CX := L2.CX X.prog X.w) T iC tI F1 (hr.mono hk) hb (dvs := []) .nil passL hg hm ha hdb he hpl)) fun D σ H h => ?_
  obtain ⟨U, r, s, h⟩ := h
  refine ⟨U, r, s, ?_⟩
  unfold fRaise at h
  cases e : fa r with
  | st => rw [e] at h; exact h
  | ex c fs r1 => rw [e] at h; exact h
  | ok os r1 =>
    rw [e] at h
    intro vs H1 U1 s1 a1 p1 k1 n1
    cases e2 : frzAll os r1 with
    | none => simp only [e2] at h; exact (show False from h).elim
    | some q =>
      obtain ⟨ds, r2⟩ := q
      simp only [e2] at h
      by_cases hl : os.length ≤ 1000
      · rw [if_pos hl] at h
        cases e3 : mkX fields fm ds with
        | none => simp only [e3] at h; exact (show False from h).elim
        | some fs =>
          simp only [e3] at h
          have h : XWant C U H σ r x fs r2 := h
          obtain ⟨U2, s2, a2, u2, k2⟩ := ops_drop s s1 a1 k1 n1
          obtain ⟨s3, a3, p3, x3⟩ := frzAll_ok s2 k2 e2
          have fin : ds.length = fields.length ∧ (∃ o r, fm (initR ds) = .ok o r) ∧ fs = (fields.zip ds).reverse := by
            unfold mkX at e3
            by_cases q : ds.length = fields.length
            · rw [if_pos q] at e3
              cases e4 : fm (initR ds) with
              | ok o r => simp only [e4] at e3; cases e3; exact ⟨q, ⟨_, _, rfl⟩, rfl⟩
              | ex c fs r => simp only [e4] at e3; cases e3
              | st => simp only [e4] at e3; cases e3
            · rw [if_neg q] at e3; cases e3
          obtain ⟨q1, q2, rfl⟩ := fin
          refine ⟨by rw [← Paired.length k1]; exact hl, fun a ha => ?_⟩
          rw [List.append_nil]
          have kp : ∀ b o, H1 b = some o → upd H1 a (exo a CA none) b = some o := upd_keep ha
          have x3' : Rps X.K (Wn U2 σ r2) H1 vs ds := by rw [← hK]; exact x3
          refine ⟨a, CA, vs, ds, Wn U2 σ r2, rfl, by rw [x3.len, q1], T, hn, upd_same, fun b hb => (s3.wlv b hb).grow kp, x3'.mono (monoKeep s3.wlv kp), q2, fun d H2 hd hda xd => ?_⟩
          have hd1 : H1 d = none := by rw [upd_ne hda] at hd; exact hd
          refine ⟨rfl, d, _, xd.obj, xd.dic, hd1, ?_⟩
          have kp2 : ∀ b o, H1 b = some o → upd (del H2 a) d (.xd (fields.zip vs).reverse) b = some o := fun b o hb => by
            have n1 : b ≠ a := ne_of_none hb ha
            have n2 : b ≠ d := ne_of_none hb hd1
            rw [upd_ne n2, del_ne n1]
            exact xd.keep b o n1 n2 (kp b o hb)
          obtain ⟨s4, a4⟩ := s3.ext kp2 (fun _ h => h) (fun _ h => .inl h) fun b hb => (s3.uok b hb).grow kp2
          refine h _ _ σ _ U2 s4 ((a2.trans a3).trans a4) ⟨CA, d, _, rfl, by rw [hM]; exact hm, rfl, upd_same, ?_⟩
          exact paired_rev (kr_zip fields (x3.mono (monoKeep s3.wlv kp2)))
      · rw [if_neg hl] at h; exact (show False from h).elim
def intTxt (i : Int) : List Nat := (Str.ofString (toString i)).cps.toList
def fStr : S → Option S
  | .fz (.int i) => if i.natAbs.log2 < 1920 then some (.fz (.str (intTxt i))) else none
  | .fz (.str l) => some (.fz (.str l))
  | _ => none
def rStr : List V → Hp → VK → Prop := fun xs H Q => (∃ i, xs = [.int i] ∧ i.natAbs.log2 < 1920 ∧ Q (.str (toString i)) H) ∨ (∃ a, xs = [.str a] ∧ Q (.str a) H)
theorem call_strU : CallR X (.type "str") rStr := cr_or call_str_int SkE.call_str_str
theorem pn_str : PN C rStr (p1 fStr) := by
  intro U W H vs ss s Q lv hs hp q
  match ss, hs, hp with
  | [a], .cons xa .nil, hp =>
    cases a with
    | fz a =>
      cases a with
      | int i =>
        have hp : (if i.natAbs.log2 < 1920 then some (S.fz (.str (intTxt i))) else none) = some s := hp
        by_cases z : i.natAbs.log2 < 1920
        · rw [if_pos z] at hp; cases hp
          rw [sr_int xa]
          refine .inl ⟨i, rfl, z, ?_⟩
          have e : (Str.ofString (toString i)) = ⟨(intTxt i).toArray⟩ := toStr _
          rw [e]
          exact q _ _ (.same (.str _))
        · rw [if_neg z] at hp; cases hp
      | str l => cases hp; rw [sr_str xa]; exact .inr ⟨_, rfl, q _ _ (.same (.str _))⟩
      | _ => cases hp
    | _ => cases hp
variable {a : Expr} {fe : Rho → Rs Opd}
theorem x_str1 (hm : X.mg "str" = none) (ha : GE X C a fe) (hg : Gl X "str" := by rfl) (hs : starEach [a] X.env = (false, eval a X.env) :: starEach [] X.env := by rfl) : GE X C (.Call (.Name "str" p) [a] [] pos) (e1 (p1 fStr) fe) :=
  ge_call pn_str (pe_callTy call_strU hg hm PyProof.Rows.boot_str (ga_cons ha ga_nil hs) (he := hs))
end
end GB
namespace GB
open PySem PySem.Spec PyProof.Rows L2
open Classical in
/-- the one end that a suite has at all addresses -/
noncomputable def oneF (f : Addr → Addr → Fl) : Fl := if h : ∃ R, ∀ a d, f a d = R then h.choose else .st
theorem oneF_eq {f : Addr → Addr → Fl} {R : Fl} (h : ∀ a d, f a d = R) : oneF f = R := by
  have e : ∃ R, ∀ a d, f a d = R := ⟨R, h⟩
  unfold oneF
  rw [dif_pos e, ← h 0 0]
  exact (e.choose_spec 0 0).symm
@[simp] theorem oneF_const (R : Fl) : oneF (fun _ _ => R) = R := oneF_eq fun _ _ => rfl
section
variable {C : Ct} {U U' : Addr → Prop} {H H' : Hp} {σ σ' : St} {r r' : Rho} {i : Nat}
theorem RS.cast (C' : Ct) (hK : C.K = C'.K) {D : Ends} {z : Fl} (h : RS C U H σ r D z) (hx : ∀ c fs r1, z ≠ .ex c fs r1) : RS C' U H σ r D z := by
  cases z with
  | nx r2 => exact fun σ2 H2 U2 s2 a2 => h σ2 H2 U2 (s2.cast hK.symm) a2
  | bk r2 => exact fun σ2 H2 U2 s2 a2 => h σ2 H2 U2 (s2.cast hK.symm) a2
  | ct r2 => exact fun σ2 H2 U2 s2 a2 => h σ2 H2 U2 (s2.cast hK.symm) a2
  | rt s r2 => exact fun v σ2 H2 U2 s2 a2 o n => h v σ2 H2 U2 (s2.cast hK.symm) a2 (by unfold OpOk at o ⊢; rw [hK]; exact o) n
  | ex c fs r2 => exact (hx _ _ _ rfl).elim
  | st => exact h
end
end GB
namespace GB
open PySem PySem.Spec PyProof.Rows L2
/-- tables by classes -/
def tb (l : List (Str × Bool)) : Str → Option Bool := fun c => l.lookup c
section
variable {X : Cx} {C : Ct} {a CA dx : Addr} {oe : Obj} {pn : List (Addr × Obj)} {c N y f : Str} {Ns : List Str} {i : Nat} {tbl : Str → Option Bool} {p q1 q2 pos : Pos} {cs : List Expr}
/-- what the slot of the caught one must hold -/
def exAt (r : Rho) (i : Nat) (a dx : Addr) (c : Str) : Option (List (Str × D)) := match r[i]? with
  | some (some (.exc a' dx' c' fs)) => if a' = a ∧ dx' = dx ∧ c' = c then some fs else none
  | _ => none
@[simp] theorem s_exAt {r : Rho} {fs : List (Str × D)} : exAt r i a dx c = (match r[i]? with
  | some (some (.exc a' dx' c' fs)) => if a' = a ∧ dx' = dx ∧ c' = c then some fs else none
  | _ => none) := rfl
end
end GB
namespace GB
open PySem PySem.Spec PyProof.Rows L2
/-- an own class that is raised, by its text -/
structure XAt (K : PySem.W.Frag) (mg : Str → Option Value) (x : Str) (fields : List Str) (qual : Str) (st : Stmt) : Prop where
  ex : ∃ (C fI : Addr) (fd : FuncData), mg x = some (.ref C) ∧ OexC K C ∧ PySem.W.findIn K (.ref C) "__init__" = some (some (.ref fI)) ∧ PySem.W.typeIn K (.ref fI) = some (.type "function") ∧
    (∀ f ∈ fields, PySem.W.findIn K (.ref C) f = some none) ∧ L2.Fun K "__init__" qual st fI fd ∧ Binds K fd ("self" :: fields) []
theorem xcls_of {P : Program} {w : World} {K : PySem.W.Frag} {mg : Str → Option Value} {base : Heap} {x qual : Str} {st : Stmt} {fields : List Str} {fm : Rho → Rs Opd} (a : XAt K mg x fields qual st) (Sc : FnScope ("self" :: fields) ("self" :: fields) (defScope st)) (hf : fields ≠ []) (hfl : fields.length ≤ 900)
    (hb : ∀ (fI : Addr) (cdv : Value) (A : Around) (l : List Env) (t : Shared) (H : Hp) (E : XK), PSs (bodyCx P w K mg base ("self" :: fields) qual st fI cdv A l t H E) (defBody st) (tSeq (tDrop (tVeI K (tCons (tVar 0) (tCons (tE (bodyCt K mg E) fm) tNil)))) (tAsgs K (fields.zip (List.range' 1 fields.length))))) :
    XCls P w K mg base x fields fm := by
  obtain ⟨C, fI, fd, hm, o, i1, t1, nf, F, b⟩ := a.ex
  exact ⟨C, fI, fd, hm, o, i1, t1, nf, init_ok F Sc rfl hf hfl (hb fI), b⟩
def clsS (i : Nat) : Stmt → Stmt
  | .ClassDef _ _ _ body _ _ _ _ _ _ _ => body.getD i (.Pass ⟨0, 0, 0, 0⟩)
  | s => s
end GB
namespace GB
open PySem PySem.Spec PyProof.Rows L2
def addO (l : List (List Nat)) (t : List Nat) : List (List Nat) := if t ∈ l then l else l ++ [t]
def addAll (l ts : List (List Nat)) : List (List Nat) := ts.foldl addO l
def turnsO (rs : List (List Nat)) : List (List Nat) := rs.foldl (fun l r => addAll (addAll l (turnsL r)) (turnsL (bkw r))) []
theorem addO_nodup {l : List (List Nat)} {t : List Nat} (h : l.Nodup) : (addO l t).Nodup := by
  unfold addO
  split
  · exact h
  · rename_i n
    rw [List.nodup_append]
    refine ⟨h, by simp, fun a ha b hb => ?_⟩
    rw [List.mem_singleton] at hb
    subst hb
    exact fun e => n (e ▸ ha)
theorem addAll_nodup : ∀ {ts l : List (List Nat)}, l.Nodup → (addAll l ts).Nodup
  | [], _, h => h
  | _ :: ts, _, h => addAll_nodup (ts := ts) (addO_nodup h)
theorem addO_len (l : List (List Nat)) (t : List Nat) : (addO l t).length ≤ l.length + 1 := by
  unfold addO
  split
  · omega
  · simp
theorem addAll_len : ∀ (ts l : List (List Nat)), (addAll l ts).length ≤ l.length + ts.length
  | [], _ => Nat.le_refl _
  | t :: ts, l => by
    have h1 := addAll_len ts (addO l t)
    have h2 := addO_len l t
    show (addAll (addO l t) ts).length ≤ _
    rw [List.length_cons]; omega
theorem addO_mem {l : List (List Nat)} {t x : List Nat} : x ∈ addO l t ↔ x ∈ l ∨ x = t := by
  unfold addO
  split
  · rename_i h
    exact ⟨.inl, fun z => z.elim id fun z => z ▸ h⟩
  · simp
theorem addAll_mem : ∀ {ts l : List (List Nat)} {x : List Nat}, x ∈ addAll l ts ↔ x ∈ l ∨ x ∈ ts
  | [], _, _ => by simp [addAll]
  | t :: ts, l, x => by
    show x ∈ addAll (addO l t) ts ↔ _
    rw [addAll_mem (ts := ts), addO_mem, List.mem_cons, or_assoc]
def lcp : List Nat → List Nat → Nat
  | a :: as, b :: bs => if a = b then lcp as bs + 1 else 0
  | _, _ => 0
theorem lcp_le : ∀ a b : List Nat, lcp a b ≤ a.length ∧ lcp a b ≤ b.length
  | [], _ => ⟨Nat.le_refl _, Nat.zero_le _⟩
  | _ :: _, [] => ⟨Nat.zero_le _, Nat.le_refl _⟩
  | a :: as, b :: bs => by
    have h := lcp_le as bs
    unfold lcp
    split
    · exact ⟨by rw [List.length_cons]; omega, by rw [List.length_cons]; omega⟩
    · exact ⟨Nat.zero_le _, Nat.zero_le _⟩
theorem lcp_at : ∀ (a b : List Nat) (k : Nat), k < lcp a b → a[k]? = b[k]?
  | [], _, _, h => absurd h (Nat.not_lt_zero _)
  | _ :: _, [], _, h => absurd h (Nat.not_lt_zero _)
  | a :: as, b :: bs, k, h => by
    unfold lcp at h
    split at h
    · rename_i e
      cases k with
      | zero => simp [e]
      | succ k => simpa using lcp_at as bs k (by omega)
    · exact absurd h (Nat.not_lt_zero _)
theorem lcp_stop : ∀ (a b : List Nat), lcp a b < a.length → lcp a b < b.length → a[lcp a b]? ≠ b[lcp a b]?
  | [], _, h, _ => absurd h (Nat.not_lt_zero _)
  | _ :: _, [], _, h => absurd h (Nat.not_lt_zero _)
  | a :: as, b :: bs, h1, h2 => by
    unfold lcp at h1 h2 ⊢
    split
    · rename_i e
      rw [if_pos e, List.length_cons] at h1 h2
      simpa using lcp_stop as bs (by omega) (by omega)
    · rename_i e
      simpa using e
theorem lcp_take (a b : List Nat) (k : Nat) (h : k ≤ lcp a b) : a.take k = b.take k := by
  refine List.ext_getElem? fun i => ?_
  rw [List.getElem?_take, List.getElem?_take]
  split
  · exact lcp_at a b i (by omega)
  · rfl
theorem lcp_mid1 : ∀ {a b c : List Nat}, a ≤ b → b ≤ c → lcp a c ≤ lcp a b
  | [], _, _, _, _ => Nat.zero_le _
  | x :: a, [], _, h, _ => absurd h (by simp)
  | x :: a, y :: b, [], _, h => absurd h (by simp)
  | x :: a, y :: b, z :: c, h1, h2 => by
    rw [List.cons_le_cons_iff] at h1 h2
    unfold lcp
    by_cases e : x = z
    · have e2' : x = y := by
        rcases h1 with h1 | h1 <;> rcases h2 with h2 | h2 <;> omega
      rw [if_pos e, if_pos e2']
      have g1 : a ≤ b := (h1.resolve_left (by omega)).2
      have g2 : b ≤ c := (h2.resolve_left (by omega)).2
      exact Nat.add_le_add_right (lcp_mid1 g1 g2) 1
    · rw [if_neg e]; exact Nat.zero_le _
theorem lcp_mid2 : ∀ {a b c : List Nat}, c ≤ b → b ≤ a → lcp a c ≤ lcp a b
  | [], _, _, _, _ => Nat.zero_le _
  | x :: a, _, [], _, _ => Nat.zero_le _
  | x :: a, [], z :: c, h, _ => absurd h (by simp)
  | x :: a, y :: b, z :: c, h1, h2 => by
    rw [List.cons_le_cons_iff] at h1 h2
    unfold lcp
    by_cases e : x = z
    · have e2' : x = y := by
        rcases h1 with h1 | h1 <;> rcases h2 with h2 | h2 <;> omega
      rw [if_pos e, if_pos e2']
      have g1 : c ≤ b := (h1.resolve_left (by omega)).2
      have g2 : b ≤ a := (h2.resolve_left (by omega)).2
      exact Nat.add_le_add_right (lcp_mid2 g1 g2) 1
    · rw [if_neg e]; exact Nat.zero_le _
/-- whether a text shares too much with another one -/
def thickB (a b : List Nat) : Bool := decide (a ≠ b) && decide (a.length ≤ 6 * lcp a b)
theorem thickB_iff {a b : List Nat} : thickB a b = true ↔ a ≠ b ∧ a.length ≤ 6 * lcp a b := by
  unfold thickB
  rw [Bool.and_eq_true, decide_eq_true_iff, decide_eq_true_iff]
/-- in a rising row it is enough to look beside -/
theorem beside {l : List (List Nat)} (hs : l.Pairwise (· ≤ ·)) (hn : l.Nodup) {i : Nat} {a : List Nat} (ha : l[i]? = some a) : ((l.take (i + 2)).drop (i - 1)).any (thickB a) = l.any (thickB a) := by
  rw [Bool.eq_iff_iff, List.any_eq_true, List.any_eq_true]
  have le : ∀ (j k : Nat) (x y : List Nat), j < k → l[j]? = some x → l[k]? = some y → x ≤ y := fun j k x y h hx hy => by
    rw [List.pairwise_iff_getElem] at hs
    have hj := lt_of_at hx
    have hk := lt_of_at hy
    rw [List.getElem?_eq_getElem hj] at hx
    rw [List.getElem?_eq_getElem hk] at hy
    cases hx; cases hy
    exact hs j k hj hk h
  have ne : ∀ (j k : Nat) (x y : List Nat), j ≠ k → l[j]? = some x → l[k]? = some y → x ≠ y := fun j k x y h hx hy e => by
    subst e
    exact h ((List.getElem?_inj (lt_of_at hx) hn).mp (hx.trans hy.symm))
  have mem : ∀ (j : Nat) (x : List Nat), i - 1 ≤ j → j < i + 2 → l[j]? = some x → x ∈ (l.take (i + 2)).drop (i - 1) := fun j x h1 h2 hx => by
    refine List.mem_of_getElem? (i := j - (i - 1)) ?_
    rw [List.getElem?_drop, show i - 1 + (j - (i - 1)) = j from by omega, List.getElem?_take, if_pos h2]
    exact hx
  constructor
  · rintro ⟨x, hx, h⟩
    exact ⟨x, List.mem_of_mem_take (List.mem_of_mem_drop hx), h⟩
  · rintro ⟨c, hc, h⟩
    obtain ⟨j, hj⟩ := List.getElem?_of_mem hc
    obtain ⟨h1, h2⟩ := thickB_iff.mp h
    have ij : j ≠ i := fun e => by
      subst e
      rw [ha] at hj; cases hj
      exact h1 rfl
    rcases Nat.lt_or_gt_of_ne ij with g | g
    · have hi := lt_of_at ha
      have hb : l[i - 1]? = some (l[i - 1]'(by omega)) := List.getElem?_eq_getElem (by omega)
      refine ⟨_, mem (i - 1) _ (Nat.le_refl _) (by omega) hb, thickB_iff.mpr ⟨ne _ _ _ _ (by omega) ha hb, ?_⟩⟩
      by_cases z : j = i - 1
      · subst z
        rw [hj] at hb
        rw [← Option.some.inj hb]; exact h2
      · have := lcp_mid2 (le j (i - 1) _ _ (by omega) hj hb) (le (i - 1) i _ _ (by omega) hb ha)
        omega
    · have hl := lt_of_at hj
      have hb : l[i + 1]? = some (l[i + 1]'(by omega)) := List.getElem?_eq_getElem (by omega)
      refine ⟨_, mem (i + 1) _ (by omega) (by omega) hb, thickB_iff.mpr ⟨ne _ _ _ _ (by omega) ha hb, ?_⟩⟩
      by_cases z : j = i + 1
      · subst z
        rw [hj] at hb
        rw [← Option.some.inj hb]; exact h2
      · have := lcp_mid1 (le i (i + 1) _ _ (by omega) ha hb) (le (i + 1) j _ _ (by omega) hb hj)
        omega
/-- what is told of a thick one -/
def pieceD (a b : List Nat) : D := .tup [.str a, .str b, .str (a.take (lcp a b))]
def thickAt (l : List (List Nat)) (a : List Nat) : Option S := (l.find? (thickB a)).map fun b => S.fz (pieceD a b)
def firstN (h : Nat → Option S) : Nat → Nat → Option S
  | _, 0 => none
  | k, n + 1 => match h k with
    | some v => some v
    | none => firstN h (k + 1) n
theorem forL_idx {fg : D → Rho → Option Rho} {f : Rho → Fl} {P : Rho → Prop} {h : Nat → Option S} : ∀ {ds : List D} {r : Rho} (k : Nat), P r → (∀ i d r, ds[i]? = some d → P r → ∃ r1, fg d r = some r1 ∧ ∃ r2, P r2 ∧ f r1 = (match h (k + i) with | none => Fl.nx r2 | some v => .rt v r2)) →
    ∃ r2, P r2 ∧ forL fg f ds r = (match firstN h k ds.length with | none => Fl.nx r2 | some v => .rt v r2)
  | [], r, k, h0, _ => ⟨r, h0, rfl⟩
  | d :: ds, r, k, h0, hs => by
    obtain ⟨r1, g1, r2, g2, g3⟩ := hs 0 d r rfl h0
    rw [Nat.add_zero] at g3
    rw [forL, g1]
    dsimp only
    rw [List.length_cons, firstN]
    cases e : h k with
    | some v =>
      rw [e] at g3
      dsimp only at g3
      exact ⟨r2, g2, by rw [g3]⟩
    | none =>
      rw [e] at g3
      dsimp only at g3
      obtain ⟨r3, g4, g5⟩ := forL_idx (fg := fg) (f := f) (P := P) (h := h) (ds := ds) (r := r2) (k + 1) g2 fun i d r hd hp => by
        have := hs (i + 1) d r (by simpa using hd) hp
        rw [show k + 1 + i = k + (i + 1) from by omega]; exact this
      exact ⟨r3, g4, by rw [g3]; exact g5⟩
def pickS (l : List (List Nat)) (p : List Nat → Bool) (g : List Nat → S) (i : Nat) : Option S := match l[i]? with
  | some b => if p b then some (g b) else none
  | none => none
theorem pickS_at {l : List (List Nat)} {p : List Nat → Bool} {g : List Nat → S} {i : Nat} {b : List Nat} (h : l[i]? = some b) : pickS l p g i = if p b then some (g b) else none := by unfold pickS; rw [h]
def rowS (l : List (List Nat)) (i : Nat) : Option S := match l[i]? with
  | some a => thickAt l a
  | none => none
theorem rowS_at {l : List (List Nat)} {i : Nat} {a : List Nat} (h : l[i]? = some a) : rowS l i = thickAt l a := by unfold rowS; rw [h]
def thickD (l : List (List Nat)) : Option S := firstN (rowS l) 0 l.length
def outS : Option S → S
  | none => .fz .non
  | some v => v
theorem firstN_find {l : List (List Nat)} {p : List Nat → Bool} {g : List Nat → S} : ∀ {m : List (List Nat)} {k : Nat}, (∀ i x, m[i]? = some x → l[k + i]? = some x) → firstN (pickS l p g) k m.length = (m.find? p).map g
  | [], _, _ => rfl
  | x :: m, k, h => by
    have h0 : l[k]? = some x := h 0 x rfl
    rw [List.length_cons, firstN, pickS_at h0]
    cases c : p x with
    | true => rw [if_pos rfl, List.find?_cons_of_pos c]; rfl
    | false =>
      rw [if_neg (by decide), List.find?_cons_of_neg (by simp [c])]
      exact firstN_find (m := m) (k := k + 1) fun i y hy => by rw [show k + 1 + i = k + (i + 1) from by omega]; exact h (i + 1) y (by simpa using hy)
theorem for_gen {fs : Rho → Rs (List Opd)} {mk : List S → Option (List D)} {fg : D → Rho → Option Rho} {f : Rho → Fl} {r r1 r2 : Rho} {os : List Opd} {ss : List S} {u : List (Nat × S)} {ds : List D} (h : fs r = .ok os r1) (la : lockAll os r1 = some (ss, r2, u)) (hk : mk ss = some ds) : fFor fs mk fg f r = mapFl (unlR u) (forL fg f ds r2) := by
  unfold fFor
  rw [h]
  show (match lockAll os r1 with | some (ss, r2, u) => (match mk ss with | some ds => mapFl (unlR u) (forL fg f ds r2) | none => .st) | none => .st) = _
  rw [la]
  show (match mk ss with | some ds => mapFl (unlR u) (forL fg f ds r2) | none => .st) = _
  rw [hk]
theorem lc_gen {fs : Rho → Rs (List Opd)} {mk : List S → Option (List D)} {fg : D → Rho → Option Rho} {ft : Rho → Rs Bool} {fe : Rho → Rs Opd} {vs : List Nat} {r r1 r2 r3 : Rho} {os : List Opd} {ss : List S} {u : List (Nat × S)} {ds acc : List D} (h : fs r = .ok os r1) (la : lockAll os r1 = some (ss, r2, u)) (hk : mk ss = some ds) (hs : softs r2 vs = true) (hc : cmpL fg ft fe vs ds (wipeR r2 vs) [] = .ok acc r3) :
    eLc fs mk fg ft fe vs r = .ok (.val (.ol acc)) (unlR u (restR r2 r3 vs)) := by
  unfold eLc
  rw [h]
  show (match lockAll os r1 with
    | some (ss, r2, u) => (match mk ss with
      | some ds => if softs r2 vs then (match cmpL fg ft fe vs ds (wipeR r2 vs) [] with | .ok acc r3 => Rs.ok (Opd.val (S.ol acc)) (unlR u (restR r2 r3 vs)) | _ => .st) else .st
      | none => .st)
    | none => .st) = _
  rw [la]
  show (match mk ss with
      | some ds => if softs r2 vs then (match cmpL fg ft fe vs ds (wipeR r2 vs) [] with | .ok acc r3 => Rs.ok (Opd.val (S.ol acc)) (unlR u (restR r2 r3 vs)) | _ => .st) else .st
      | none => .st) = _
  rw [hk]
  show (if softs r2 vs then (match cmpL fg ft fe vs ds (wipeR r2 vs) [] with | .ok acc r3 => Rs.ok (Opd.val (S.ol acc)) (unlR u (restR r2 r3 vs)) | _ => .st) else .st) = _
  rw [if_pos hs, hc]
theorem sl_nnK (ds : List D) (i j : Nat) : fSl (.lk ds) (.fz (.int (i : Nat))) (.fz (.int (j : Nat))) = some (.ol ((ds.take j).drop i)) := by
  show some (S.ol (GB.cutD ds (some (i : Int)) (some (j : Int)))) = _
  rw [cut_nnD]
end GB
namespace GB
open PySem PySem.Spec PyProof.Rows L2
def dT (l : List (List Nat)) : List (Key × D) := l.map fun t => ((.inr ⟨t.toArray⟩ : Key), D.bl true)
theorem key_inj {a b : List Nat} : ((.inr ⟨a.toArray⟩ : Key) = .inr ⟨b.toArray⟩) ↔ a = b := by
  constructor
  · intro h
    have h := Sum.inr.inj h
    have h := congrArg (fun s : Str => s.cps.toList) h
    simpa using h
  · intro h; rw [h]
theorem put_dT (l : List (List Nat)) (t : List Nat) : putD (dT l) (.inr ⟨t.toArray⟩) (.bl true) = dT (addO l t) := by
  have ha : ((dT l).any fun kv => decide (kv.1 = (.inr ⟨t.toArray⟩ : Key))) = decide (t ∈ l) := by
    rw [Bool.eq_iff_iff, List.any_eq_true, decide_eq_true_iff]
    constructor
    · rintro ⟨x, hx, h⟩
      obtain ⟨u, hu, rfl⟩ := List.mem_map.mp hx
      have := key_inj.mp (of_decide_eq_true h)
      exact this ▸ hu
    · intro h
      exact ⟨_, List.mem_map.mpr ⟨t, h, rfl⟩, decide_eq_true rfl⟩
  unfold putD addO
  rw [ha]
  by_cases c : t ∈ l
  · rw [if_pos (decide_eq_true c), if_pos c]
    conv => rhs; rw [← List.map_id (dT l)]
    refine List.map_congr_left fun x hx => ?_
    obtain ⟨u, hu, rfl⟩ := List.mem_map.mp hx
    dsimp only [id]
    split
    · rfl
    · rfl
  · rw [if_neg (by simpa using c), if_neg c]
    unfold dT
    rw [List.map_append]; rfl
/-- rings as they are told -/
def ringsT (rs : List (List Nat)) : D := .tup (rs.map D.str)
def knownL (rs : List (List Nat)) : List (List Nat) := sortT (turnsO rs)
theorem keys_dT (l : List (List Nat)) : fListU (.od (dT l)) = some (.ol (l.map D.str)) := by
  show some (S.ol (((dT l).map Prod.fst).map keyT)) = _
  unfold dT
  rw [List.map_map, List.map_map]
  congr 2
theorem mx_run {i : Nat} : (if 1 < (i : Int) then ((i : Int) - 1) else 0) = ((i - 1 : Nat) : Int) := by
  by_cases c : 1 < (i : Int)
  · rw [if_pos c]; omega
  · rw [if_neg c]; omega
theorem knownL_ok {rs : List (List Nat)} (hr : ∀ r ∈ rs, W r ∧ r.length ≤ 1000) (hl : rs.length ≤ 40) : (knownL rs).Pairwise (· ≤ ·) ∧ (knownL rs).Nodup ∧ (∀ b ∈ knownL rs, W b ∧ b.length ≤ 1000) ∧ (knownL rs).length ≤ 100000 := by
  have key : ∀ (rs l : List (List Nat)), (∀ r ∈ rs, W r ∧ r.length ≤ 1000) → l.Nodup → (∀ b ∈ l, W b ∧ b.length ≤ 1000) → 
      (rs.foldl (fun l r => addAll (addAll l (turnsL r)) (turnsL (bkw r))) l).Nodup ∧ (∀ b ∈ rs.foldl (fun l r => addAll (addAll l (turnsL r)) (turnsL (bkw r))) l, W b ∧ b.length ≤ 1000) ∧ (rs.foldl (fun l r => addAll (addAll l (turnsL r)) (turnsL (bkw r))) l).length ≤ l.length + rs.length * 2002 := by
    intro rs
    induction rs with
    | nil => exact fun l _ h1 h2 => ⟨h1, h2, by simp⟩
    | cons r rs ih =>
      intro l hr h1 h2
      obtain ⟨hw, hl⟩ := hr r (List.mem_cons_self ..)
      have tm : ∀ {u : List Nat}, W u → u.length ≤ 1000 → ∀ b ∈ turnsL u, W b ∧ b.length ≤ 1000 := fun {u} hu hul b hb => by
        obtain ⟨k, rfl⟩ := turnsL_mem hb
        unfold rot
        refine ⟨(fun c hc => hu c ?_), by rw [List.length_append, List.length_drop, List.length_take]; omega⟩
        rcases List.mem_append.mp hc with h | h
        · exact List.mem_of_mem_drop h
        · exact List.mem_of_mem_take h
      obtain ⟨g1, g2, g3⟩ := ih (addAll (addAll l (turnsL r)) (turnsL (bkw r))) (fun r hr' => hr r (List.mem_cons_of_mem _ hr')) (addAll_nodup (addAll_nodup h1)) (fun b hb => by
        rcases addAll_mem.mp hb with hb | hb
        · rcases addAll_mem.mp hb with hb | hb
          · exact h2 b hb
          · exact tm hw hl b hb
        · exact tm hw.bkw (by rw [bkw_len]; exact hl) b hb)
      refine ⟨g1, g2, ?_⟩
      have n1 := addAll_len (turnsL r) l
      have n2 := addAll_len (turnsL (bkw r)) (addAll l (turnsL r))
      rw [turnsL_len] at n1 n2
      rw [bkw_len] at n2
      rw [List.foldl_cons, List.length_cons]
      omega
  obtain ⟨g1, g2, g3⟩ := key rs [] hr List.nodup_nil (fun _ h => nomatch h)
  have hp := sortT_perm (turnsO rs)
  refine ⟨sortT_pw _, hp.nodup_iff.mpr g1, fun b hb => g2 b (hp.mem_iff.mp hb), ?_⟩
  unfold knownL
  rw [hp.length_eq]
  have : (turnsO rs).length ≤ ([] : List (List Nat)).length + rs.length * 2002 := g3
  simp at this
  omega
theorem take_lcp {a b : List Nat} {k : Nat} (h1 : k < a.length) (h2 : k < b.length) (h : k ≤ lcp a b) : (a.take (k + 1) = b.take (k + 1)) ↔ k < lcp a b := by
  constructor
  · intro e
    have := Classical.byContradiction fun n : ¬ k < lcp a b => by
      have ek : k = lcp a b := by omega
      have ne := lcp_stop a b (by omega) (by omega)
      rw [← ek] at ne
      have e2' := congrArg (fun l : List Nat => l[k]?) e
      rw [List.getElem?_take, List.getElem?_take, if_pos (by omega), if_pos (by omega)] at e2'
      exact ne e2'
    exact this
  · intro h
    exact lcp_take a b (k + 1) (by omega)
/-- how the row is held while it is walked -/
def Held (X : S) (ds : List D) : Prop := X = .lk ds ∨ X = .fz (.lst ds)
theorem held_lock {X : S} {ds : List D} (h : Held X ds) {r : Rho} (hr : r[0]? = some (some X)) : lockAll [.loc 0] r = some ([X], r, []) ∧ mkSeq [X] = some ds := by
  rcases h with rfl | rfl
  · exact ⟨by simp [hr], rfl⟩
  · exact ⟨by simp [hr], rfl⟩
theorem inS_ws (l : List (List Nat)) (t : List Nat) : inS (.fz (.str t)) (.ol (l.map D.str)) = some (decide (t ∈ l)) := by
  have f1 : (l.map D.str).all D.flat = true := by
    rw [List.all_map]
    exact List.all_eq_true.mpr fun _ _ => rfl
  show (if (D.str t).flat && (l.map D.str).all D.flat then some ((l.map D.str).any fun e => eqFlat e (.str t)) else none) = _
  rw [f1]
  show some ((l.map D.str).any fun e => eqFlat e (.str t)) = _
  congr 1
  rw [Bool.eq_iff_iff, List.any_map, List.any_eq_true, decide_eq_true_iff]
  constructor
  · rintro ⟨u, hu, h⟩
    have h : (u == t) = true := h
    rw [beq_iff_eq] at h
    exact h ▸ hu
  · intro h
    exact ⟨t, h, show (t == t) = true from by simp⟩
theorem notIn_ws (l : List (List Nat)) (t : List Nat) : qNotIn [.fz (.str t), .ol (l.map D.str)] = some (.fz (.bl (!decide (t ∈ l)))) := by
  unfold qNotIn
  simp [s_orP, fNotIn, inS_ws]
def okRs (rs : List (List Nat)) : Prop := (∀ r ∈ rs, W r ∧ r.length ≤ 1000 ∧ r ≠ []) ∧ rs.length ≤ 20
theorem mul_d {w : List Nat} (hw : w.length ≤ 100) (n : Nat) (hn : n ≤ 1000) (b : Nat) : qMul [.fz (.str w), .fz (.int ((b : Int) + (n : Int)))] = some (.fz (.str (rep w (b + n)))) ∨ 1000 < b := by
  by_cases hb : 1000 < b
  · exact .inr hb
  · refine .inl ?_
    have e : (b : Int) + (n : Int) = ((b + n : Nat) : Int) := by omega
    rw [e]
    refine mulS_n (by omega) ?_
    have : w.length * (b + n) ≤ 100 * 2000 := Nat.mul_le_mul hw (by omega)
    omega
theorem rep_ok {w : List Nat} (h : W w) {n B : Nat} (hb : n * w.length ≤ B) : W (rep w n) ∧ (rep w n).length ≤ B := ⟨rep_w h n, by rw [rep_len2]; exact hb⟩
theorem W1 {c : Nat} (h : isL c = true) : W [c] := W.cons h .nil
def holed : List (List Nat) := [[97, 98, 65, 66, 99, 100, 67, 68], [97, 98, 99, 100, 65, 66, 67, 68], [97, 97, 98, 98, 99, 99, 100, 100], [97, 98, 99, 65, 66, 100, 67, 68]]
theorem thickD_some {l : List (List Nat)} {v : S} (h : thickD l = some v) : ∃ a b, v = .fz (pieceD a b) ∧ a ∈ l ∧ b ∈ l := by
  have key : ∀ (n k : Nat), firstN (rowS l) k n = some v → ∃ i, rowS l i = some v := by
    intro n
    induction n with
    | zero => intro k h; cases h
    | succ n ih =>
      intro k h
      unfold firstN at h
      cases e : rowS l k with
      | some w => rw [e] at h; exact ⟨k, by rw [e]; exact h⟩
      | none => rw [e] at h; exact ih (k + 1) h
  obtain ⟨i, hi⟩ := key _ _ h
  unfold rowS at hi
  cases e : l[i]? with
  | none => rw [e] at hi; cases hi
  | some a =>
    rw [e] at hi
    dsimp only at hi
    unfold thickAt at hi
    cases c : l.find? (thickB a) with
    | none => rw [c] at hi; cases hi
    | some b =>
      rw [c] at hi
      exact ⟨a, b, (Option.some.inj hi).symm, List.mem_of_getElem? e, List.mem_of_find?_eq_some c⟩
theorem is_out (l : List (List Nat)) : fIs (outS (thickD l)) (.fz .non) = some (.fz (.bl (thickD l).isNone)) := by
  cases c : thickD l with
  | none => rfl
  | some v =>
    obtain ⟨a, b, rfl, _, _⟩ := thickD_some c
    rfl
/-- rings that the law draws -/
def okR (rs : List (List Nat)) : Prop := (∀ r ∈ rs, W r ∧ r.length ≤ 60 ∧ r ≠ []) ∧ rs.length ≤ 6
theorem okR.Rs {rs : List (List Nat)} (h : okR rs) : okRs rs := ⟨fun r hr => by obtain ⟨a, b, c⟩ := h.1 r hr; exact ⟨a, by omega, c⟩, by have := h.2; omega⟩
theorem okR_nil : okR [] := ⟨fun _ h => (nomatch h), by simp⟩
theorem subAtL_iff {p l : List Nat} {i : Nat} : subAtL p l i = true ↔ i + p.length ≤ l.length ∧ (l.drop i).take p.length = p := by
  unfold subAtL
  rw [Bool.and_eq_true, decide_eq_true_iff, beq_iff_eq]
theorem subIx_w {p l : List Nat} : (subIx p l).isSome = true ↔ ∃ i, i + p.length ≤ l.length ∧ (l.drop i).take p.length = p := by
  unfold subIx
  rw [List.find?_isSome]
  constructor
  · rintro ⟨i, _, h⟩
    exact ⟨i, subAtL_iff.mp h⟩
  · rintro ⟨i, h⟩
    exact ⟨i, List.mem_range.mpr (by omega), subAtL_iff.mpr h⟩
theorem subIx_at {p l : List Nat} {i : Nat} (h : subIx p l = some i) : i + p.length ≤ l.length ∧ (l.drop i).take p.length = p := subAtL_iff.mp (List.find?_some h)
theorem subIx_none {p l : List Nat} (h : subIx p l = none) (i : Nat) : ¬ (i + p.length ≤ l.length ∧ (l.drop i).take p.length = p) := fun z => by
  have := List.find?_eq_none.mp h i (List.mem_range.mpr (by omega))
  exact this (subAtL_iff.mpr z)
theorem dbl_rot {r : List Nat} {i : Nat} (h : i ≤ r.length) : ((r ++ r).drop i).take r.length = rot r i := by
  unfold rot
  rw [List.drop_append, show i - r.length = 0 from by omega, List.drop_zero, List.take_append, List.length_drop, List.take_of_length_le (by rw [List.length_drop]; omega), show r.length - (r.length - i) = i from by omega]
theorem turns_iff {r t : List Nat} : t ∈ turnsL r ↔ ∃ k, k < max 1 r.length ∧ rot r k = t := by
  unfold turnsL
  rw [List.mem_map]
  simp
theorem rot_full (r : List Nat) : rot r r.length = r := by unfold rot; simp
/-- a turn stands in the ring told twice -/
theorem in_dbl {r t : List Nat} (hr : r ≠ []) (hl : t.length = r.length) : (subIx t (r ++ r)).isSome = true ↔ t ∈ turnsL r := by
  have h0 : 0 < r.length := List.length_pos_iff.mpr hr
  rw [subIx_w, turns_iff]
  constructor
  · rintro ⟨i, h1, h2⟩
    rw [List.length_append] at h1
    rw [hl, dbl_rot (by omega)] at h2
    by_cases c : i = r.length
    · exact ⟨0, by omega, by rw [rot_0, ← h2, c, rot_full]⟩
    · exact ⟨i, by omega, h2⟩
  · rintro ⟨k, h1, h2⟩
    exact ⟨k, by rw [List.length_append]; omega, by rw [hl, dbl_rot (by omega)]; exact h2⟩
theorem turns_len {r t : List Nat} (h : t ∈ turnsL r) : t.length = r.length := by
  obtain ⟨k, _, rfl⟩ := turns_iff.mp h
  exact rot_len r k
theorem known_iff {rs : List (List Nat)} {t : List Nat} : t ∈ knownL rs ↔ ∃ r ∈ rs, t ∈ turnsL r ∨ t ∈ turnsL (bkw r) := by
  have key : ∀ (rs l : List (List Nat)), t ∈ rs.foldl (fun l r => addAll (addAll l (turnsL r)) (turnsL (bkw r))) l ↔ t ∈ l ∨ ∃ r ∈ rs, t ∈ turnsL r ∨ t ∈ turnsL (bkw r) := by
    intro rs
    induction rs with
    | nil => intro l; simp
    | cons r rs ih =>
      intro l
      rw [List.foldl_cons, ih, addAll_mem, addAll_mem]
      constructor
      · rintro (((h | h) | h) | ⟨q, h1, h2⟩)
        · exact .inl h
        · exact .inr ⟨r, List.mem_cons_self .., .inl h⟩
        · exact .inr ⟨r, List.mem_cons_self .., .inr h⟩
        · exact .inr ⟨q, List.mem_cons_of_mem _ h1, h2⟩
      · rintro (h | ⟨q, h1, h2⟩)
        · exact .inl (.inl (.inl h))
        · rcases List.mem_cons.mp h1 with rfl | h1
          · rcases h2 with h2 | h2
            · exact .inl (.inl (.inr h2))
            · exact .inl (.inr h2)
          · exact .inr ⟨q, h1, h2⟩
  unfold knownL
  rw [(sortT_perm _).mem_iff]
  unfold turnsO
  rw [key]
  simp
/-- whether a word is a turn of a ring, or of its back -/
def turnOf (t r : List Nat) : Bool := decide (t.length = r.length) && ((subIx t (r ++ r)).isSome || (subIx t (bkw r ++ bkw r)).isSome)
theorem turnOf_any {rs : List (List Nat)} (h : ∀ r ∈ rs, r ≠ []) (t : List Nat) : rs.any (turnOf t) = decide (t ∈ knownL rs) := by
  rw [Bool.eq_iff_iff, List.any_eq_true, decide_eq_true_iff, known_iff]
  have nb : ∀ r ∈ rs, bkw r ≠ [] := fun r hr z => h r hr (by have := congrArg List.length z; rw [bkw_len] at this; exact List.length_eq_zero_iff.mp this)
  constructor
  · rintro ⟨r, hr, z⟩
    unfold turnOf at z
    rw [Bool.and_eq_true, Bool.or_eq_true, decide_eq_true_iff] at z
    refine ⟨r, hr, ?_⟩
    rcases z.2 with z2 | z2
    · exact .inl ((in_dbl (h r hr) z.1).mp z2)
    · exact .inr ((in_dbl (nb r hr) (by rw [bkw_len]; exact z.1)).mp z2)
  · rintro ⟨r, hr, z⟩
    refine ⟨r, hr, ?_⟩
    unfold turnOf
    rw [Bool.and_eq_true, Bool.or_eq_true, decide_eq_true_iff]
    rcases z with z | z
    · exact ⟨turns_len z, .inl ((in_dbl (h r hr) (turns_len z)).mpr z)⟩
    · have hl := turns_len z
      refine ⟨by rw [bkw_len] at hl; exact hl, .inr ((in_dbl (nb r hr) hl).mpr z)⟩
end GB
namespace GB
open PySem PySem.Spec PyProof.Rows L2
end GB
namespace GB
open PySem PySem.Spec PyProof.Rows L2
def outO (w : List Nat) (p : Nat) : Option (List Nat) := match w[p]?, w[p + 1]? with
  | some x, some y => if y = bk x then some (w.take p ++ w.drop (p + 2)) else none
  | _, _ => none
def outW : Option (List Nat) → S
  | none => .fz .non
  | some u => .fz (.str u)
def insO (w : List Nat) (p c : Nat) : Option (List Nat) := if p ≤ w.length then some (w.take p ++ [c] ++ [bk c] ++ w.drop p) else none
def ringO (rs : List (List Nat)) (w : List Nat) (p : Nat) (t : List Nat) (m : Nat) : Option (List Nat) :=
  if m ≤ t.length ∧ p + m ≤ w.length ∧ t ∈ knownL rs ∧ (w.take (p + m)).drop p = t.take m then some (w.take p ++ bkw (t.drop m) ++ w.drop (p + m)) else none
inductive Stp where
  | out (p : Nat) | ins (p c : Nat) | ring (p : Nat) (t : List Nat) (m : Nat)
def stepD : Stp → D
  | .out p => .tup [.str [111, 117, 116], .int p]
  | .ins p c => .tup [.str [105, 110], .int p, .str [c]]
  | .ring p t m => .tup [.str [114, 105, 110, 103], .int p, .str t, .int m]
def stepOk : Stp → Prop
  | .out p => p ≤ 100000
  | .ins p c => p ≤ 100000 ∧ isL c = true
  | .ring p t m => p ≤ 100000 ∧ W t ∧ t.length ≤ 1000 ∧ m ≤ 100000
def rawO (rs : List (List Nat)) (w : List Nat) : Stp → Option (List Nat)
  | .out p => outO w p
  | .ins p c => insO w p c
  | .ring p t m => ringO rs w p t m
def cutO : Option (List Nat) → Option (List Nat)
  | none => none
  | some u => if u.length ≤ 2000 then some u else none
def stepO (rs : List (List Nat)) (w : List Nat) (s : Stp) : Option (List Nat) := cutO (rawO rs w s)
theorem cutO_some {o : Option (List Nat)} {u : List Nat} (h : cutO o = some u) : o = some u ∧ u.length ≤ 2000 := by
  cases o with
  | none => cases h
  | some v =>
    have h : (if v.length ≤ 2000 then some v else none) = some u := h
    by_cases c : v.length ≤ 2000
    · rw [if_pos c] at h; cases h; exact ⟨rfl, c⟩
    · rw [if_neg c] at h; cases h
theorem outO_len {w u : List Nat} {p : Nat} (h : outO w p = some u) : u.length ≤ w.length ∧ (W w → W u) := by
  unfold outO at h
  split at h
  · split at h
    · cases h
      refine ⟨by rw [List.length_append, List.length_take, List.length_drop]; omega, fun hw c hc => ?_⟩
      rcases List.mem_append.mp hc with h | h
      · exact hw c (List.mem_of_mem_take h)
      · exact hw c (List.mem_of_mem_drop h)
    · cases h
  · cases h
theorem rawO_W {rs : List (List Nat)} {w u : List Nat} {s : Stp} (hw : W w) (hs : stepOk s) (h : rawO rs w s = some u) : W u ∧ u.length ≤ w.length + 1000 := by
  cases s with
  | out p => exact ⟨(outO_len h).2 hw, by have := (outO_len h).1; omega⟩
  | ins p c =>
    have h : insO w p c = some u := h
    unfold insO at h
    split at h
    · cases h
      refine ⟨(((hw.take p).app (W1 hs.2)).app (W1 (bk_isL hs.2))).app (hw.drop p), ?_⟩
      simp only [List.length_append, List.length_take, List.length_drop, List.length_cons, List.length_nil]; omega
    · cases h
  | ring p t m =>
    have h : ringO rs w p t m = some u := h
    unfold ringO at h
    split at h
    · cases h
      obtain ⟨h1, h2, h3, h4⟩ := hs
      refine ⟨((hw.take p).app (W.bkw (h2.drop m))).app (hw.drop (p + m)), ?_⟩
      simp only [List.length_append, List.length_take, List.length_drop, bkw_len]; omega
    · cases h
theorem stepO_W {rs : List (List Nat)} {w u : List Nat} {s : Stp} (hw : W w) (hs : stepOk s) (h : stepO rs w s = some u) : W u ∧ u.length ≤ 2000 := by
  obtain ⟨h1, h2⟩ := cutO_some h
  exact ⟨(rawO_W hw hs h1).1, h2⟩
theorem dbl_mul {r : List Nat} (h : r.length ≤ 1000) : qMul [.fz (.str r), .fz (.int 2)] = some (.fz (.str (r ++ r))) := by
  have := mulS_n (l := r) (k := 2) (by omega) (by omega)
  have e : (List.replicate 2 r).flatten = r ++ r := by simp
  rw [e] at this
  exact this
theorem in_txt (a b : List Nat) : qIn [.fz (.str a), .fz (.str b)] = some (.fz (.bl (subIx a b).isSome)) := by
  unfold qIn
  simp [s_orP, fIn, inS]
end GB
namespace GB
open PySem PySem.Spec PyProof.Rows L2
theorem one_at (w : List Nat) (j : Nat) : (w.take (j + 1)).drop j = (w[j]?).toList := by
  refine List.ext_getElem? fun n => ?_
  rw [List.getElem?_drop, List.getElem?_take]
  cases n with
  | zero =>
    rw [if_pos (by omega), Nat.add_zero]
    cases w[j]? <;> rfl
  | succ n =>
    rw [if_neg (by omega)]
    cases w[j]? <;> rfl
theorem lcp_ge {a b : List Nat} {k : Nat} (h : a.take k = b.take k) (h1 : k ≤ a.length) (h2 : k ≤ b.length) : k ≤ lcp a b := by
  refine Classical.byContradiction fun n => ?_
  have st := lcp_stop a b (by omega) (by omega)
  have e := congrArg (fun l : List Nat => l[lcp a b]?) h
  rw [List.getElem?_take, List.getElem?_take, if_pos (by omega), if_pos (by omega)] at e
  exact st e
def halfL (t : List Nat) : List Nat := t.take (t.length / 2 + 1)
theorem half_len {t : List Nat} (h : t ≠ []) : (halfL t).length = t.length / 2 + 1 := by
  unfold halfL
  have : 0 < t.length := List.length_pos_iff.mpr h
  rw [List.length_take]; omega
theorem half_lcp {t w : List Nat} {p : Nat} (h : t ≠ []) (e : subIx (halfL t) w = some p) : p + lcp t (w.drop p) ≤ w.length ∧ t.length / 2 + 1 ≤ lcp t (w.drop p) ∧ lcp t (w.drop p) ≤ t.length := by
  obtain ⟨h1, h2⟩ := subIx_at e
  rw [half_len h] at h1 h2
  obtain ⟨l1, l2⟩ := lcp_le t (w.drop p)
  rw [List.length_drop] at l2
  have : 0 < t.length := List.length_pos_iff.mpr h
  refine ⟨by omega, lcp_ge (by unfold halfL at h2; exact h2.symm) (by omega) (by rw [List.length_drop]; omega), l1⟩
def shortS : Stp → Bool
  | .out _ => true
  | .ins _ _ => false
  | .ring _ t m => decide (t.length < 2 * m)
def goodS (rs : List (List Nat)) (w : List Nat) (s : Stp) : Prop := stepOk s ∧ shortS s = true ∧ ∃ u, stepO rs w s = some u ∧ u.length < w.length
/-- the steps lead from w to h, each of them shortening -/
def chainS (rs : List (List Nat)) : List Nat → List Stp → List Nat → Prop
  | w, [], h => h = w
  | w, s :: ss, h => stepOk s ∧ shortS s = true ∧ ∃ u, stepO rs w s = some u ∧ chainS rs u ss h
theorem chain_snoc {rs : List (List Nat)} {s : Stp} {v : List Nat} (so : stepOk s) (ss' : shortS s = true) : ∀ {ss : List Stp} {w u : List Nat}, chainS rs w ss u → stepO rs u s = some v → chainS rs w (ss ++ [s]) v
  | [], w, u, h, e => by
    have h : u = w := h
    subst h
    exact ⟨so, ss', v, e, rfl⟩
  | s' :: ss, w, u, ⟨h1, h2, u', h3, h4⟩, e => ⟨h1, h2, u', h3, chain_snoc so ss' h4 e⟩
theorem known_ok {rs : List (List Nat)} (h : okRs rs) {t : List Nat} (ht : t ∈ knownL rs) : W t ∧ t.length ≤ 1000 ∧ t ≠ [] := by
  obtain ⟨k1, k2, k3, k4⟩ := knownL_ok (rs := rs) (fun r hr => ⟨(h.1 r hr).1, (h.1 r hr).2.1⟩) (by have := h.2; omega)
  refine ⟨(k3 t ht).1, (k3 t ht).2, fun z => ?_⟩
  obtain ⟨r, hr, q⟩ := known_iff.mp ht
  have l := (h.1 r hr).2.2
  have : t.length = r.length := by
    rcases q with q | q
    · exact turns_len q
    · rw [turns_len q, bkw_len]
  rw [z] at this
  exact l (List.length_eq_zero_iff.mp this.symm)
theorem out_good {rs : List (List Nat)} {w : List Nat} {p : Nat} (hl : w.length ≤ 2000) (h : w[p + 1]? = (w[p]?).map bk) (hp : p + 1 < w.length) : goodS rs w (.out p) := by
  have h1 : w[p]? = some (w[p]'(by omega)) := List.getElem?_eq_getElem (by omega)
  have h2 : w[p + 1]? = some (w[p + 1]'(by omega)) := List.getElem?_eq_getElem (by omega)
  have e : w[p + 1]'(by omega) = bk (w[p]'(by omega)) := by
    rw [h1, h2] at h
    exact Option.some.inj h
  refine ⟨show p ≤ 100000 by omega, rfl, w.take p ++ w.drop (p + 2), ?_, by rw [List.length_append, List.length_take, List.length_drop]; omega⟩
  have o : outO w p = some (w.take p ++ w.drop (p + 2)) := by
    unfold outO
    rw [h1, h2]
    exact if_pos e
  show cutO (outO w p) = _
  rw [o]
  exact if_pos (by rw [List.length_append, List.length_take, List.length_drop]; omega)
theorem ring_good {rs : List (List Nat)} (h : okRs rs) {w t : List Nat} {p : Nat} (hl : w.length ≤ 2000) (ht : t ∈ knownL rs) (e : subIx (halfL t) w = some p) : goodS rs w (.ring p t (lcp t (w.drop p))) := by
  obtain ⟨h1, h2, h3⟩ := known_ok h ht
  obtain ⟨g1, g2, g3⟩ := half_lcp h3 e
  refine ⟨⟨by omega, h1, h2, by omega⟩, decide_eq_true (by omega), w.take p ++ bkw (t.drop (lcp t (w.drop p))) ++ w.drop (p + lcp t (w.drop p)), ?_, ?_⟩
  · have o : ringO rs w p t (lcp t (w.drop p)) = some (w.take p ++ bkw (t.drop (lcp t (w.drop p))) ++ w.drop (p + lcp t (w.drop p))) := by
      unfold ringO
      refine if_pos ⟨g3, g1, ht, ?_⟩
      rw [lcp_take t (w.drop p) _ (Nat.le_refl _), List.drop_take]
      congr 1
      omega
    show cutO (ringO rs w p t (lcp t (w.drop p))) = _
    rw [o]
    refine if_pos ?_
    simp only [List.length_append, List.length_take, List.length_drop, bkw_len]
    omega
  · simp only [List.length_append, List.length_take, List.length_drop, bkw_len]
    omega
def optD : Option Stp → D
  | none => .non
  | some s => stepD s
/-- the first ring that halves a place -/
def rsH (l : List (List Nat)) (w : List Nat) (i : Nat) : Option S := match l[i]? with
  | none => none
  | some t => match subIx (halfL t) w with
    | none => none
    | some p => some (.fz (stepD (.ring p t (lcp t (w.drop p)))))
theorem rsH_at {l : List (List Nat)} {w t : List Nat} {i : Nat} (h : l[i]? = some t) : rsH l w i = (match subIx (halfL t) w with
    | none => none
    | some p => some (.fz (stepD (.ring p t (lcp t (w.drop p)))))) := by unfold rsH; rw [h]
theorem firstN_at {h : Nat → Option S} {v : S} : ∀ (n k : Nat), firstN h k n = some v → ∃ i, h i = some v := by
  intro n
  induction n with
  | zero => intro k z; cases z
  | succ n ih =>
    intro k z
    unfold firstN at z
    cases e : h k with
    | none => rw [e] at z; exact ih _ z
    | some u => rw [e] at z; exact ⟨k, by rw [e]; exact z⟩
theorem firstN_no {h : Nat → Option S} : ∀ (n k : Nat), firstN h k n = none → ∀ i, k ≤ i → i < k + n → h i = none := by
  intro n
  induction n with
  | zero => intro k _ i h1 h2; omega
  | succ n ih =>
    intro k z i h1 h2
    unfold firstN at z
    cases e : h k with
    | some u => rw [e] at z; cases z
    | none =>
      rw [e] at z
      rcases Nat.lt_or_ge k i with c | c
      · exact ih (k + 1) z i (by omega) (by omega)
      · have : i = k := by omega
        rw [this]; exact e
def noHalf (rs : List (List Nat)) (w : List Nat) : Prop := ∀ t ∈ knownL rs, subIx (halfL t) w = none
theorem rsH_good {rs : List (List Nat)} (h : okRs rs) {w : List Nat} (hl : w.length ≤ 2000) : ∃ o : Option Stp, (∀ s, o = some s → goodS rs w s) ∧ (o = none ↔ noHalf rs w) ∧ (match firstN (rsH (knownL rs) w) 0 (knownL rs).length with | none => S.fz .non | some v => v) = .fz (optD o) := by
  cases c : firstN (rsH (knownL rs) w) 0 (knownL rs).length with
  | none =>
    refine ⟨none, (fun _ z => nomatch z), ⟨fun _ t ht => ?_, fun _ => rfl⟩, rfl⟩
    obtain ⟨i, hi⟩ := List.getElem?_of_mem ht
    have hlt : i < (knownL rs).length := (List.getElem?_eq_some_iff.mp hi).1
    have := firstN_no _ _ c i (Nat.zero_le _) (by omega)
    rw [rsH_at hi] at this
    cases q : subIx (halfL t) w with
    | none => rfl
    | some p => rw [q] at this; cases this
  | some v =>
    obtain ⟨i, hi⟩ := firstN_at _ _ c
    cases e : (knownL rs)[i]? with
    | none =>
      unfold rsH at hi
      rw [e] at hi; cases hi
    | some t =>
      rw [rsH_at e] at hi
      cases q : subIx (halfL t) w with
      | none => rw [q] at hi; cases hi
      | some p =>
        rw [q] at hi
        refine ⟨some (.ring p t (lcp t (w.drop p))), fun s z => by cases z; exact ring_good h hl (List.mem_of_getElem? e) q, ⟨(fun z => nomatch z), fun z => ?_⟩, ?_⟩
        · rw [z t (List.mem_of_getElem? e)] at q; cases q
        · exact (Option.some.inj hi).symm
end GB
namespace GB
open PySem PySem.Spec PyProof.Rows L2
/-- nothing falls out where a ends and b begins -/
def Jn (a b : List Nat) : Prop := ∀ x y, a.getLast? = some x → b.head? = some y → y ≠ bk x
theorem tidy_app : ∀ {a b : List Nat}, W a → W b → (tidy (a ++ b) = true ↔ tidy a = true ∧ tidy b = true ∧ Jn a b)
  | [], b, _, _ => ⟨fun h => ⟨rfl, h, fun x y h => nomatch h⟩, fun h => h.2.1⟩
  | [x], [], _, _ => ⟨fun h => ⟨rfl, rfl, fun x y _ h => nomatch h⟩, fun h => rfl⟩
  | [x], y :: b, ha, hb => by
    show (decide (x ≠ bk y) && tidy (y :: b)) = true ↔ _
    rw [Bool.and_eq_true, decide_eq_true_iff]
    have hx := ha.head
    have hy := hb.head
    constructor
    · rintro ⟨h1, h2⟩
      refine ⟨rfl, h2, fun u v hu hv e => ?_⟩
      cases hu; cases hv
      exact h1 (by rw [e]; exact (bk_bk hx).symm)
    · rintro ⟨_, h2, h3⟩
      exact ⟨fun e => h3 x y rfl rfl (by rw [e, bk_bk hy]), h2⟩
  | x :: x' :: a, b, ha, hb => by
    have ih := tidy_app (a := x' :: a) (b := b) ha.tail hb
    show (decide (x ≠ bk x') && tidy (x' :: a ++ b)) = true ↔ (decide (x ≠ bk x') && tidy (x' :: a)) = true ∧ _ ∧ _
    rw [Bool.and_eq_true, ih, Bool.and_eq_true]
    have e : Jn (x :: x' :: a) b ↔ Jn (x' :: a) b := by
      unfold Jn
      rw [List.getLast?_cons_cons]
    rw [e]
    exact ⟨fun ⟨h1, h2, h3, h4⟩ => ⟨⟨h1, h2⟩, h3, h4⟩, fun ⟨⟨h1, h2⟩, h3, h4⟩ => ⟨h1, h2, h3, h4⟩⟩
theorem head_bkw (w : List Nat) : (bkw w).head? = w.getLast?.map bk := by
  unfold bkw
  rw [List.head?_reverse, List.getLast?_map]
theorem last_bkw (w : List Nat) : (bkw w).getLast? = w.head?.map bk := by
  unfold bkw
  rw [List.getLast?_reverse, List.head?_map]
theorem bkw_cons (x : Nat) (w : List Nat) : bkw (x :: w) = bkw w ++ [bk x] := by unfold bkw; simp
theorem tidy_bkw : ∀ {w : List Nat}, W w → tidy w = true → tidy (bkw w) = true
  | [], _, _ => rfl
  | x :: w, h, t => by
    have hx := h.head
    have t' : tidy ([x] ++ w) = true := t
    rw [tidy_app (W1 hx) h.tail] at t'
    obtain ⟨_, t1, j⟩ := t'
    rw [bkw_cons, tidy_app h.tail.bkw (W1 (bk_isL hx))]
    refine ⟨tidy_bkw h.tail t1, rfl, fun u v hu hv e => ?_⟩
    cases hv
    rw [last_bkw] at hu
    cases w with
    | nil => cases hu
    | cons y w =>
      have hu : some (bk y) = some u := hu
      cases hu
      have hy := h.tail.head
      rw [bk_bk hy] at e
      exact j x y rfl rfl e.symm
theorem rep_add (t : List Nat) : ∀ a b : Nat, rep t (a + b) = rep t a ++ rep t b
  | 0, b => by rw [Nat.zero_add, rep_0, List.nil_append]
  | a + 1, b => by rw [Nat.add_right_comm, rep_succ, rep_succ, rep_add t a b, List.append_assoc]
theorem rep_snoc (t : List Nat) (k : Nat) : rep t (k + 1) = rep t k ++ t := by rw [rep_add, rep_1]
theorem rep_rep (t : List Nat) (k : Nat) : ∀ q : Nat, rep (rep t k) q = rep t (k * q)
  | 0 => rfl
  | q + 1 => by rw [rep_succ, rep_rep t k q, ← rep_add, Nat.mul_succ, Nat.add_comm]
/-- no power of another word -/
def Prim (r : List Nat) : Prop := r ≠ [] ∧ ∀ t k, r = rep t k → k ≤ 1
theorem per_rep {t : List Nat} (h : t ≠ []) {k : Nat} (hk : 1 ≤ k) : per (rep t k) t.length = true := by
  obtain ⟨q, rfl⟩ : ∃ q, k = q + 1 := ⟨k - 1, by omega⟩
  have : 0 < t.length := List.length_pos_iff.mpr h
  refine decide_eq_true ?_
  have e : (rep t (q + 1)).take t.length = t := by rw [rep_succ]; exact List.take_left' rfl
  rw [rep_len2, Nat.mul_div_cancel _ this, e]
theorem root_spec {c : List Nat} (h : c ≠ []) : c = rep (c.take (rootS c)) (c.length / rootS c) ∧ 1 ≤ c.length / rootS c ∧ Prim (c.take (rootS c)) := by
  obtain ⟨s, l, e, h1, h2, h3⟩ := sizesL_cons h
  have er : rootS c = s := by unfold rootS; rw [e]; rfl
  rw [er]
  have hc : rep (c.take s) (c.length / s) = c := of_decide_eq_true h2
  have pos : 1 ≤ c.length / s := (Nat.one_le_div_iff (by omega)).mpr h1.2
  have lr : (c.take s).length = s := by rw [List.length_take]; omega
  refine ⟨hc.symm, pos, fun z => by rw [z] at lr; simp at lr; omega, fun t k hk => ?_⟩
  refine Classical.byContradiction fun n => ?_
  have hl : s = k * t.length := by rw [← lr, hk, rep_len2]
  have tp : 0 < t.length := by
    rcases Nat.eq_zero_or_pos t.length with z | z
    · rw [z] at hl; omega
    · exact z
  have ct : c = rep t (k * (c.length / s)) := by rw [← rep_rep, ← hk, hc]
  have km : 1 ≤ k * (c.length / s) := Nat.mul_pos (by omega) pos
  have tl : t.length ≤ c.length := by
    have : t.length ≤ k * t.length := Nat.le_mul_of_pos_left _ (by omega)
    omega
  have p := per_rep (t := t) (fun z => by rw [z] at tp; simp at tp) km
  rw [← ct] at p
  have le := h3 t.length tp tl p
  have : 2 * t.length ≤ k * t.length := Nat.mul_le_mul_right _ (by omega)
  omega
theorem coreK_spec {s : List Nat} : ∀ (n k : Nat), n + k = s.length → (∀ i, i < k → endsUndo s i = true) → (∀ i, i < coreK s n k → endsUndo s i = true) ∧ endsUndo s (coreK s n k) = false
  | 0, k, hk, h => by
    refine ⟨h, ?_⟩
    show endsUndo s k = false
    rw [← Bool.not_eq_true]
    intro z
    have := endsUndo_lt z
    omega
  | n + 1, k, hk, h => by
    unfold coreK
    by_cases c : endsUndo s k = true
    · rw [if_pos c]
      exact coreK_spec n (k + 1) (by omega) fun i hi => by
        rcases Nat.lt_or_ge i k with z | z
        · exact h i z
        · have : i = k := by omega
          rw [this]; exact c
    · rw [if_neg c]
      exact ⟨h, by simpa using c⟩
theorem core_spec (s : List Nat) : (∀ i, i < coreN s → endsUndo s i = true) ∧ endsUndo s (coreN s) = false := coreK_spec s.length 0 (by omega) fun i h => absurd h (Nat.not_lt_zero i)
theorem bkw_at {u : List Nat} {k : Nat} (h : k < u.length) : (bkw u)[k]? = (u[u.length - 1 - k]?).map bk := by
  unfold bkw
  rw [List.getElem?_reverse (by rw [List.length_map]; exact h), List.length_map, List.getElem?_map]
theorem ends_at {s : List Nat} {k : Nat} (h : endsUndo s k = true) : ∃ x y, s[k]? = some x ∧ s[s.length - 1 - k]? = some y ∧ x = bk y := by
  unfold endsUndo at h
  rw [Bool.and_eq_true] at h
  have h := h.2
  split at h
  · exact ⟨_, _, by assumption, by assumption, of_decide_eq_true h⟩
  · cases h
theorem core_split {s : List Nat} (hw : W s) : s.take (coreN s) ++ midK s (coreN s) ++ bkw (s.take (coreN s)) = s ∧ 2 * coreN s ≤ s.length := by
  obtain ⟨g1, g2⟩ := core_spec s
  have hN : 2 * coreN s ≤ s.length := by
    rcases Nat.eq_zero_or_pos (coreN s) with z | z
    · omega
    · have := endsUndo_lt (g1 (coreN s - 1) (by omega)); omega
  refine ⟨?_, hN⟩
  generalize coreN s = N at *
  have lt : (s.take N).length = N := by rw [List.length_take]; omega
  refine List.ext_getElem? fun i => ?_
  rw [List.getElem?_append, List.length_append, lt, midK_len]
  by_cases c1 : i < N + (s.length - 2 * N)
  · rw [if_pos c1, List.getElem?_append, lt]
    by_cases c2 : i < N
    · rw [if_pos c2, List.getElem?_take, if_pos c2]
    · rw [if_neg c2, midK_at (by omega)]
      congr 1; omega
  · rw [if_neg c1]
    by_cases c3 : i < s.length
    · rw [bkw_at (by rw [lt]; omega), lt, List.getElem?_take, if_pos (by omega)]
      obtain ⟨x, y, hx, hy, e⟩ := ends_at (g1 (s.length - 1 - i) (by omega))
      have e1' : N - 1 - (i - (N + (s.length - 2 * N))) = s.length - 1 - i := by omega
      have e2' : s.length - 1 - (s.length - 1 - i) = i := by omega
      rw [e1', hx]
      rw [e2'] at hy
      rw [hy, e]
      show some (bk (bk y)) = some y
      rw [bk_bk (hw y (List.mem_of_getElem? hy))]
    · rw [List.getElem?_eq_none (by rw [bkw_len, lt]; omega), List.getElem?_eq_none (by omega)]
theorem core_jn {s : List Nat} (hw : W s) (ht : tidy s = true) (hne : s ≠ []) : midK s (coreN s) ≠ [] ∧ Jn (midK s (coreN s)) (midK s (coreN s)) := by
  obtain ⟨g1, g2⟩ := core_spec s
  have sp : 0 < s.length := List.length_pos_iff.mpr hne
  have hN : 2 * coreN s < s.length := by
    rcases Nat.eq_zero_or_pos (coreN s) with z | z
    · omega
    · have q := g1 (coreN s - 1) (by omega)
      have l := endsUndo_lt q
      obtain ⟨x, y, hx, hy, e⟩ := ends_at q
      rcases Nat.lt_or_ge (2 * coreN s) s.length with z2 | z2
      · exact z2
      · exfalso
        have e1' : s.length - 1 - (coreN s - 1) = coreN s - 1 + 1 := by omega
        rw [e1'] at hy
        have := (tidy_ix hw).mp ht _ x y hx hy
        exact this (by rw [e, bk_bk (hw y (List.mem_of_getElem? hy))])
  generalize coreN s = N at *
  have ml := midK_len s N
  refine ⟨fun z => by rw [z] at ml; simp at ml; omega, fun x y hx hy e => ?_⟩
  rw [List.getLast?_eq_getElem?, ml, midK_at (by omega)] at hx
  rw [List.head?_eq_getElem?, midK_at (by omega)] at hy
  have e1' : N + (s.length - 2 * N - 1) = s.length - 1 - N := by omega
  rw [e1'] at hx
  rw [Nat.add_zero] at hy
  by_cases c : 2 * N + 1 < s.length
  · have : endsUndo s N = true := by
      unfold endsUndo
      rw [hx, hy, decide_eq_true c]
      exact decide_eq_true e
    rw [this] at g2; cases g2
  · have e2' : s.length - 1 - N = N := by omega
    rw [e2', hy] at hx
    cases hx
    exact bk_ne (hw x (List.mem_of_getElem? hy)) e.symm
theorem head_rep {r : List Nat} (h : r ≠ []) {j : Nat} (hj : 1 ≤ j) : (rep r j).head? = r.head? := by
  obtain ⟨q, rfl⟩ : ∃ q, j = q + 1 := ⟨j - 1, by omega⟩
  rw [rep_succ]
  cases r with
  | nil => exact absurd rfl h
  | cons x r => rfl
theorem last_rep {r : List Nat} (h : r ≠ []) {j : Nat} (hj : 1 ≤ j) : (rep r j).getLast? = r.getLast? := by
  obtain ⟨q, rfl⟩ : ∃ q, j = q + 1 := ⟨j - 1, by omega⟩
  rw [rep_snoc, List.getLast?_append]
  cases e : r.getLast? with
  | none => rw [List.getLast?_eq_none_iff] at e; exact absurd e h
  | some x => rfl
theorem jn_rep {r : List Nat} (h : r ≠ []) {a b : Nat} (ha : 1 ≤ a) (hb : 1 ≤ b) : Jn (rep r a) (rep r b) ↔ Jn r r := by
  unfold Jn
  rw [last_rep h ha, head_rep h hb]
theorem tidy_rep {r : List Nat} (hr : W r) (h : r ≠ []) (t : tidy r = true) (j : Jn r r) : ∀ k : Nat, tidy (rep r k) = true
  | 0 => rfl
  | k + 1 => by
    rw [rep_succ, tidy_app hr (rep_w hr k)]
    refine ⟨t, tidy_rep hr h t j k, ?_⟩
    cases k with
    | zero => rw [rep_0]; exact fun x y _ z => nomatch z
    | succ k =>
      have := (jn_rep h (a := 1) (b := k + 1) (by omega) (by omega)).mpr j
      rw [rep_1] at this
      exact this
theorem jn_bkw {r : List Nat} (hr : W r) (j : Jn r r) : Jn (bkw r) (bkw r) := fun x y hx hy e => by
  rw [last_bkw] at hx
  rw [head_bkw] at hy
  cases q1 : r.head? with
  | none => rw [q1] at hx; cases hx
  | some u =>
    cases q2 : r.getLast? with
    | none => rw [q2] at hy; cases hy
    | some v =>
      rw [q1] at hx
      rw [q2] at hy
      have hx : some (bk u) = some x := hx
      have hy : some (bk v) = some y := hy
      cases hx; cases hy
      have hu : isL u = true := hr u (List.mem_of_head? q1)
      rw [bk_bk hu] at e
      exact j v u q2 q1 e.symm
end GB
namespace GB
open PySem PySem.Spec PyProof.Rows L2
end GB
namespace GB
open PySem PySem.Spec PyProof.Rows L2
section
variable {X : Cx} {C : Ct}
def isLs (s : S) : Bool := (asLs s).isSome
theorem isLs_ty (U W : Addr → Prop) (H : Hp) (v : V) (s : S) (x : SR C.K U W H v s) (h : isLs s = true) : tyV C.K "list" v H := by
  unfold isLs at h
  cases e : asLs s with
  | none => rw [e] at h; cases h
  | some ds =>
    obtain ⟨p, xs, rfl, h2, h3⟩ := asLs_of x e
    exact .inl ⟨rfl, xs, h2⟩
variable {e o : Expr} {fe fo : Rho → Rs Opd} {apos cpos : Pos}
end
theorem countP_vals {y : V} {uy : Value} (ry : RelV y uy) : ∀ {ys : List V} {its : List Value}, Vals ys its → ys.all flatV = true → its.countP (eqU y) = ys.countP fun z => eqV z y
  | _, _, .nil, _ => rfl
  | _, _, .cons r t, h => by
    rw [List.all_cons, Bool.and_eq_true] at h
    rw [List.countP_cons, List.countP_cons, countP_vals ry t h.2, eqU_of r h.1]
def rFCount (K : PySem.W.Frag) : V → List V → Hp → VK → Prop := fun x xs H Q => ∃ (a : Addr) (ys : List V) (y : V), x = V.ref a ∧ xs = [y] ∧ SqL K H a ys ∧ flatV y = true ∧ ys.all flatV = true ∧ Q (.int ((ys.countP fun z => eqV z y : Nat) : Nat)) H
theorem mt_fcount {X : Cx} : MtR X "list.count" (rFCount X.K) := by
  intro pins s σ H x xs v us Q I rx rxs h
  obtain ⟨a, ys, y, rfl, rfl, hs, fy, fys, q⟩ := h
  cases rx
  cases rxs with
  | cons ry rt =>
    rename_i uy ut
    cases rt
    obtain ⟨its, rv, ⟨⟨cls, dd, data, sl⟩, n, ho, hc, hdn, hd⟩, hlen⟩ := I.list hs
    simp only at hc hd
    subst hc hd
    refine call_meets PySem.F.slot_list_count ⟨_, ho, rfl⟩ PySem.F.entry_list_count (PySem.F.args_list_count_2 _ _)
      (SeqAt.list_countAt a its.toArray n dd sl uy (eqU y)) ⟨ho, fun u' hu' => mem_eqAt ry fy rv fys u' (by simpa using hu'), ?_⟩
    have ec : its.toArray.toList.countP (eqU y) = ys.countP fun z => eqV z y := countP_vals ry rv fys
    refine ⟨.int ((ys.countP fun z => eqV z y : Nat) : Nat), H, I.tok _, ⟨s.toks, ?_⟩, q⟩
    rw [ec]
def fLCount (a b : S) : Option S := match asLs a, b with
  | some ds, .fz d => if d.flat && ds.all D.flat then some (.fz (.int ((ds.countP fun e => eqFlat e d : Nat) : Nat))) else none
  | _, _ => none
theorem countP_rps {K : PySem.W.Frag} {W : Addr → Prop} {H : Hp} {y : V} {d : D} (xb : Rp K W H y d) (hd : d.flat = true) : ∀ {xs : List V} {ds : List D}, Rps K W H xs ds → ds.all D.flat = true → (xs.countP fun z => eqV z y) = ds.countP fun e => eqFlat e d
  | _, _, .nil, _ => rfl
  | _, _, .cons x t, h => by
    rw [List.all_cons, Bool.and_eq_true] at h
    rw [List.countP_cons, List.countP_cons, countP_rps xb hd t h.2, eqFlat_v x xb h.1 hd]
theorem pn_lcount {C : Ct} : PN C (fun vs H Q => ∃ x xs, vs = x :: xs ∧ rFCount C.K x xs H Q) (p2 fLCount) := by
  refine pnm1 (rr := rFCount C.K) fun U W H x y a b s Q lv xa xb h q => ?_
  unfold fLCount at h
  split at h
  · rename_i ds d e
    by_cases z : (d.flat && ds.all D.flat) = true
    · rw [if_pos z] at h; cases h
      rw [Bool.and_eq_true] at z
      obtain ⟨p, xs, rfl, h2, h3⟩ := asLs_of xa e
      cases xb with
      | fz xb =>
        refine ⟨p, xs, y, rfl, rfl, h2, flat_v xb z.1, rps_flat h3 z.2, ?_⟩
        rw [countP_rps xb z.1 h3 z.2]
        exact q _ _ (.same (.int _))
    · rw [if_neg z] at h; cases h
  · cases h
section
variable {X : Cx} {C : Ct} {e o : Expr} {fe fo : Rho → Rs Opd} {apos cpos : Pos}
theorem x_lcount (ho : GE X C o fo) (ha : GE X C e fe) (mc : MCall X o "count" apos e [] cpos) (hK : C.K = X.K := by rfl) : GE X C (.Call (.Attribute o "count" apos) [e] [] cpos) (eMeth isLs (p2 fLCount) fo (eCons fe eNil)) :=
  ge_meth (pe_bm PySem.F.plainAttrs_list PySem.F.slot_list_count PySem.F.type_list_count mt_fcount ho (ga_cons ha ga_nil mc.star) mc.base mc.few mc.line mc.star mc.plain) (by rw [← hK]; exact isLs_ty) (by rw [← hK]; exact pn_lcount)
end
@[simp] theorem isLs_o {ds : List D} : isLs (.ol ds) = true := rfl
@[simp] theorem isLs_b {ds : List D} : isLs (.br ds) = true := rfl
@[simp] theorem isLs_k {ds : List D} : isLs (.lk ds) = true := rfl
@[simp] theorem isLs_f {ds : List D} : isLs (.fz (.lst ds)) = true := rfl
end GB
namespace GB
open PySem PySem.Spec PyProof.Rows L2
def Rt (a b : List Nat) : Prop := ∃ u v, a = u ++ v ∧ b = v ++ u
theorem Rt.refl (a : List Nat) : Rt a a := ⟨[], a, rfl, by rw [List.append_nil]⟩
theorem Rt.symm {a b : List Nat} (h : Rt a b) : Rt b a := let ⟨u, v, h1, h2⟩ := h; ⟨v, u, h2, h1⟩
theorem Rt.trans {a b c : List Nat} (h : Rt a b) (k : Rt b c) : Rt a c := by
  obtain ⟨u, v, rfl, rfl⟩ := h
  obtain ⟨x, y, h1, rfl⟩ := k
  rcases List.append_eq_append_iff.mp h1 with ⟨w, h2, h3⟩ | ⟨w, h2, h3⟩
  · subst h2 h3
    exact ⟨w, y ++ v, by simp only [List.append_assoc], by simp only [List.append_assoc]⟩
  · subst h2 h3
    exact ⟨u ++ x, w, by simp only [List.append_assoc], by simp only [List.append_assoc]⟩
theorem Rt.len {a b : List Nat} (h : Rt a b) : a.length = b.length := by
  obtain ⟨u, v, rfl, rfl⟩ := h
  rw [List.length_append, List.length_append, Nat.add_comm]
theorem rt_rot (a : List Nat) (k : Nat) : Rt a (rot a k) := ⟨a.take k, a.drop k, (List.take_append_drop k a).symm, rfl⟩
theorem rt_mem {a b : List Nat} : b ∈ turnsL a ↔ Rt a b := by
  rw [turns_iff]
  constructor
  · rintro ⟨k, _, rfl⟩
    exact rt_rot a k
  · rintro ⟨u, v, rfl, rfl⟩
    by_cases h : v = []
    · subst h
      refine ⟨0, by omega, ?_⟩
      rw [rot_0, List.append_nil, List.nil_append]
    · have : 0 < v.length := List.length_pos_iff.mpr h
      refine ⟨u.length, by rw [List.length_append]; omega, ?_⟩
      unfold rot
      rw [List.drop_left' rfl, List.take_left' rfl]
theorem rt_bkw {a b : List Nat} (h : Rt a b) : Rt (bkw a) (bkw b) := by
  obtain ⟨u, v, rfl, rfl⟩ := h
  exact ⟨bkw v, bkw u, bkw_app u v, bkw_app v u⟩
end GB
namespace GB
open PySem PySem.Spec PyProof.Rows L2
section
variable {X : Cx} {C : Ct} {a b e : Expr} {fa fb fe : Rho → Rs Opd} {rest : List Expr} {pos p : Pos}
def eOrU (fa fb : Rho → Rs Opd) : Rho → Rs Opd := fun r => (fa r).bind fun o r1 => match res r1 o with
  | some s => (match tru s with | some true => .ok o r1 | some false => fb r1 | none => .st)
  | none => .st
@[simp] theorem s_eOrU {r : Rho} : eOrU fa fb r = (fa r).bind fun o r1 => match res r1 o with
  | some s => (match tru s with | some true => .ok o r1 | some false => fb r1 | none => .st)
  | none => .st := rfl
end
end GB
namespace GB
open PySem PySem.Spec PyProof.Rows L2
end GB
namespace GB
open PySem PySem.Spec PyProof.Rows L2
/-- a function that is not unfolded by itself -/
noncomputable def lockF {α : Type} (f : α) : α := Classical.choose (⟨f, rfl⟩ : ∃ g, g = f)
theorem lockF_eq {α : Type} (f : α) : lockF f = f := Classical.choose_spec (⟨f, rfl⟩ : ∃ g, g = f)
theorem runF_rt {n : Nat} {f : Rho → Fl} {ss o : List S} {r0 r : Rho} {s : S} (e0 : startR n ss = r0) (h : f r0 = .rt s r) (ho : outsL ss r = o) : runF n f ss = .ok s o := by
  rw [s_runF, e0, h, ← ho]
end GB
namespace GB
open PySem PySem.Spec PyProof.Rows L2 RZ
end GB
namespace GB
open PySem PySem.Spec PyProof.Rows L2
@[simp] theorem s_ixD {kvs : List (Key × D)} {k : Int} : qIx [.od kvs, .fz (.int k)] = (getD kvs (.inl k)).map .fz := rfl
@[simp] theorem s_putD {kvs : List (Key × D)} {v : D} {k : Int} : mPut (.od kvs) [v, .int k] = if decide (kvs.length < 16777216) then some (.od (putD kvs (.inl k) v), .non) else none := rfl
end GB
namespace GB
open PySem PySem.Spec PyProof.Rows L2
/-- from x along s, and then to e -/
def Lk (f : Nat → Nat) : Nat → List Nat → Nat → Prop
  | x, [], e => f x = e
  | x, y :: s, e => f x = y ∧ Lk f y s e
theorem lk_app {f : Nat → Nat} : ∀ {s : List Nat} {x y e : Nat} {t : List Nat}, Lk f x (s ++ y :: t) e ↔ Lk f x s y ∧ Lk f y t e
  | [], x, y, e, t => Iff.rfl
  | z :: s, x, y, e, t => by
    show f x = z ∧ Lk f z (s ++ y :: t) e ↔ (f x = z ∧ Lk f z s y) ∧ _
    rw [lk_app, and_assoc]
/-- a round -/
def Orb (f : Nat → Nat) (u : List Nat) : Prop := ∃ x s, u = x :: s ∧ Lk f x s x
theorem Orb.rt {f : Nat → Nat} {u v : List Nat} (h : Orb f u) (r : Rt u v) : Orb f v := by
  obtain ⟨x, s, rfl, h⟩ := h
  obtain ⟨a, b, e, rfl⟩ := r
  cases a with
  | nil => rw [List.append_nil]; exact ⟨x, s, e.symm, h⟩
  | cons y a =>
    cases b with
    | nil =>
      rw [List.append_nil] at e
      exact ⟨x, s, e.symm, h⟩
    | cons z b =>
      cases e
      obtain ⟨h1, h2⟩ := lk_app.mp h
      exact ⟨z, b ++ x :: a, rfl, lk_app.mpr ⟨h2, h1⟩⟩
end GB
namespace GB
open PySem PySem.Spec PyProof.Rows L2
/-- what doesn't raise -/
def noX (f : Rho → Rs Opd) : Rho → Rs Opd := fun r => match f r with | .ok o r1 => .ok o r1 | _ => .st
@[simp] theorem noX_def {f : Rho → Rs Opd} {r : Rho} : noX f r = (match f r with | .ok o r1 => .ok o r1 | _ => .st) := rfl
structure FnGN (P : Program) (w : World) (K : PySem.W.Frag) (mg : Str → Option Value) (base : Heap) (k : Nat) (f : Addr) (fd : FuncData) (ps : List Str) (sp : Sp) : Prop where
  len : ∀ vs H Q E, sp vs H Q E → vs.length = ps.length
  go : ∀ (A : Around) (l : List Env) (t : Shared) (H : Hp) (args : Args) (us : List Value) (vs : List V) (Q : VK) (E : XK), Room k A → A.guards = some [] → Env0 P w K mg base A l t H →
    BindsTo t fd args (ps.zip us) → Vals vs us → sp vs H Q E → codeAny (model P w) A (.call (.ref f) args) (CR (L2N.CX P w) l P w H t Q E) t
section
variable {P : Program} {w : World} {K : PySem.W.Frag} {mg : Str → Option Value} {base : Heap}
theorem cx_plain {l : List Env} {H : Hp} {s : Shared} {E : XK} {u : Value} {s' : Shared} (h : L2N.CX P w l H s E u s') : L2.CX P w l H s E u s' := by
  obtain ⟨a, B, H', cls, d, e, fl, r⟩ := h
  exact ⟨a, B, H', cls, d, e, L2H.flyingZ_imp (fun o z => z.zc) fl, r⟩
theorem FnGN.plain {k : Nat} {f : Addr} {fd : FuncData} {ps : List Str} {sp : Sp} (F : FnGN P w K mg base k f fd ps sp) : FnG P w K mg base k f fd ps sp :=
  ⟨F.len, fun A l t H args us vs Q E hr gu e b r q => codeAny_mono (F.go A l t H args us vs Q E hr gu e b r q) fun res t' z => by
    cases res with
    | error ex => exact cx_plain z
    | ok fl => cases fl <;> exact z⟩
end
section
variable {X : Cx} {C : Ct} {k n : Nat} {f : Addr} {fd : FuncData} {ps : List Str} {x : Str} {p pos : Pos} {e : Expr} {es : List Expr} {F : Fs} {fa fs : Rho → Rs (List Opd)}
/-- a def of the module whose exceptions bear no context -/
def DefOkN (P : Program) (w : World) (K : PySem.W.Frag) (mg : Str → Option Value) (base : Heap) (k : Nat) (x : Str) (ps : List Str) (F : Fs) : Prop :=
  ∃ f fd, FnGN P w K mg base k f fd ps (spF (ct0 K mg) ps.length F) ∧ mg x = some (.ref f) ∧ PySem.W.keepIn K (.ref f) = true ∧ Binds K fd ps []
theorem DefOkN.plain {P : Program} {w : World} {K : PySem.W.Frag} {mg : Str → Option Value} {base : Heap} (h : DefOkN P w K mg base k x ps F) : DefOk P w K mg base k x ps F := by
  obtain ⟨f, fd, G, r⟩ := h
  exact ⟨f, fd, G.plain, r⟩
end
end GB
namespace GB
open PySem PySem.Spec PyProof.Rows L2 HotX
end GB
namespace GB
open PySem PySem.Spec PyProof.Rows L2
end GB
namespace GB
open PySem PySem.Spec PyProof.Rows L2
end GB
namespace GB
open PySem PySem.Spec PyProof.Rows L2
end GB
namespace GB
open PySem PySem.Spec PyProof.Rows L2
end GB
namespace GB
open PySem PySem.Spec PyProof.Rows L2
end GB
namespace GB
open PySem PySem.Spec PyProof.Rows L2
end GB
namespace GB
open PySem PySem.Spec PyProof.Rows L2
theorem adS {a b : List Nat} (h : a.length + b.length ≤ 1000000) : fAdd (.fz (.str a)) (.fz (.str b)) = some (.fz (.str (a ++ b))) := by rw [s_addS, if_pos (big_of (by omega))]
theorem lnS {a : List Nat} (h : a.length ≤ 1000000) : fLen (.fz (.str a)) = some (.fz (.int (a.length : Int))) := by rw [s_lenS]; exact if_pos (big_of (by omega))
end GB
namespace GB
open PySem PySem.Spec PyProof.Rows L2
end GB
namespace GB
open PySem PySem.Spec PyProof.Rows L2
end GB
namespace GB
open PySem PySem.Spec PyProof.Rows L2
structure Row (s : Nat) (r : List Nat) : Prop where
  len : r.length = s
  lt : ∀ x ∈ r, x < s
  nd : r.Nodup
def Tbl (m s : Nat) (t : List (List Nat)) : Prop := t.length = m ∧ ∀ r ∈ t, Row s r
theorem Tbl.row {m s : Nat} {t : List (List Nat)} (h : Tbl m s t) {i : Nat} (hi : i < m) : t[i]? = some (t.getD i []) ∧ Row s (t.getD i []) := by
  have hl : i < t.length := by rw [h.1]; exact hi
  have e : t[i]? = some t[i] := List.getElem?_eq_getElem hl
  have e2 : t.getD i [] = t[i] := by rw [List.getD_eq_getElem?_getD, e]; rfl
  exact ⟨by rw [e2]; exact e, by rw [e2]; exact h.2 _ (List.getElem_mem hl)⟩
end GB
namespace GB
open PySem PySem.Spec PyProof.Rows L2
end GB
namespace GB
open PySem PySem.Spec PyProof.Rows L2
end GB
namespace GB
open PySem PySem.Spec PyProof.Rows L2
end GB
namespace GB
open PySem PySem.Spec PyProof.Rows L2
end GB
namespace GB
open PySem PySem.Spec PyProof.Rows L2
end GB
namespace GB
open PySem PySem.Spec PyProof.Rows L2
/-- an object that is no locked dict -/
def NoFd (o : HO) : Prop := ∀ q kvs, o ≠ .frz q (.dK kvs)
structure MonoX (W : Addr → Prop) (H : Hp) (W' : Addr → Prop) (H' : Hp) : Prop where
  lv : ∀ a, W a → Lv H a
  keep : ∀ a o, ¬ W a → NoFd o → H a = some o → H' a = some o
  free : ∀ a o, ¬ W a → NoFd o → H a = some o → ¬ W' a
section
variable {K : PySem.W.Frag} {U U' W W' : Addr → Prop} {H H' : Hp}
theorem MonoX.tup (m : MonoX W H W' H') {a : Addr} {xs : List V} (h : SqX K H a xs) : SqX K H' a xs := by
  rcases h with ⟨o, t, h⟩ | h
  · have n : ¬ W a := fun w => (m.lv a w).fzn h
    exact .inl ⟨o, t, m.keep a _ n (fun q kvs z => by injection z with _ z; cases z) h⟩
  · exact .inr h
theorem MonoX.scr (m : MonoX W H W' H') {a : Addr} {xs : List V} (h : Scr K H a xs) : Scr K H' a xs := by
  rcases h with ⟨o, h⟩ | h
  · have n : ¬ W a := fun w => (m.lv a w).fzn h
    exact .inl ⟨o, m.keep a _ n (fun q kvs z => by injection z with _ z; cases z) h⟩
  · exact .inr h
end
end GB
namespace GB
open PySem PySem.Spec PyProof.Rows L2
section
variable {X : Cx} {C : Ct} {a : Expr} {fa : Rho → Rs Opd} {p pos : Pos}
def isDo (o : Opd) (r : Rho) : Bool := match resAll r [o] with
  | some [s] => (asDr s).isSome
  | _ => false
def fGet1 (a b : S) : Option S := match asDr a, b with
  | some kvs, .fz k => (match keyD k with | some k => some (.fz ((getD kvs k).getD .non)) | none => none)
  | _, _ => none
def fGet2 (a b c : S) : Option S := match asDr a, b, c with
  | some kvs, .fz k, .fz z => (match keyD k with | some k => some (.fz ((getD kvs k).getD z)) | none => none)
  | _, _, _ => none
def eGet1 (fa fb : Rho → Rs Opd) : Rho → Rs Opd := fun r => (fa r).bind fun o r1 => if isDo o r1 then (fb r1).bind (fun o2 r2 => eP (p2 fGet1) [o, o2] r2) else .st
def eGet2 (fa fb fc : Rho → Rs Opd) : Rho → Rs Opd := fun r => (fa r).bind fun o r1 => if isDo o r1 then (fb r1).bind (fun o2 r2 => (fc r2).bind fun o3 r3 => eP (p3 fGet2) [o, o2, o3] r3) else .st
@[simp] theorem s_get1 {kvs : List (Key × D)} {k : D} : fGet1 (.od kvs) (.fz k) = (match keyD k with | some k => some (.fz ((getD kvs k).getD .non)) | none => none) := rfl
@[simp] theorem s_get1b {kvs : List (Key × D)} {k : D} : fGet1 (.bd kvs) (.fz k) = (match keyD k with | some k => some (.fz ((getD kvs k).getD .non)) | none => none) := rfl
@[simp] theorem s_get2 {kvs : List (Key × D)} {k z : D} : fGet2 (.od kvs) (.fz k) (.fz z) = (match keyD k with | some k => some (.fz ((getD kvs k).getD z)) | none => none) := rfl
@[simp] theorem s_eGet1 {fa fb : Rho → Rs Opd} {r : Rho} : eGet1 fa fb r = (fa r).bind fun o r1 => if isDo o r1 then (fb r1).bind (fun o2 r2 => eP (p2 fGet1) [o, o2] r2) else .st := rfl
@[simp] theorem s_eGet2 {fa fb fc : Rho → Rs Opd} {r : Rho} : eGet2 fa fb fc r = (fa r).bind fun o r1 => if isDo o r1 then (fb r1).bind (fun o2 r2 => (fc r2).bind fun o3 r3 => eP (p3 fGet2) [o, o2, o3] r3) else .st := rfl
@[simp] theorem s_isDoV {kvs : List (Key × D)} {r : Rho} : isDo (.val (.od kvs)) r = true := rfl
end
end GB
namespace GB
open PySem PySem.Spec PyProof.Rows L2
end GB
namespace GB
open PySem PySem.Spec PyProof.Rows L2
/-- new ones, each once -/
def Fr (o0 : HO) (H1 : Hp) (D : Addr) (U : Addr → Prop) (H : Hp) (xs : List V) : Prop := ∃ bs : List Addr, xs = bs.map V.ref ∧ bs.Nodup ∧ ∀ b ∈ bs, U b ∧ H1 b = none ∧ b ≠ D ∧ H b = some o0
theorem Fr.poke {o0 : HO} {H1 H : Hp} {D : Addr} {U : Addr → Prop} {xs : List V} {o : HO} (h : Fr o0 H1 D U H xs) : Fr o0 H1 D U (upd H D o) xs := by
  obtain ⟨bs, e1, e2, e3⟩ := h
  exact ⟨bs, e1, e2, fun b hb => let ⟨q0, q1, q2, ho⟩ := e3 b hb; ⟨q0, q1, q2, by rw [upd_ne q2]; exact ho⟩⟩
end GB
namespace GB
open PySem PySem.Spec PyProof.Rows L2
def isOw : S → Bool
  | .ol _ => true | .od _ => true | _ => false
theorem isOw.own {s : S} (h : isOw s = true) : s.own = true ∧ s.hard = false ∧ s.lkd = false ∧ s.soft = false := by
  cases s <;> simp [isOw, S.own, S.hard, S.lkd, S.soft] at h ⊢
theorem own_soft {s : S} (h : s.own = true) : s.soft = false := by cases s <;> first | rfl | cases h
theorem lkd_soft {s : S} (h : s.lkd = true) : s.soft = false := by cases s <;> first | rfl | cases h
theorem sft_cases {s : S} (h : s.soft = false) : s.own = true ∨ s.lkd = true := by cases s <;> first | (left; rfl) | (right; rfl) | cases h
/-- the list at a holds the things at bs, and nobody else does -/
structure Al (C : Ct) (H0 : Hp) (U : Addr → Prop) (H : Hp) (σ : St) (r : Rho) (ri : Nat) (a : Addr) (bs : List Addr) (Ls : List S) : Prop where
  is : σ[ri]? = some (some (V.ref a))
  lst : H a = some (.lst (bs.map V.ref))
  out : a ∉ bs
  nd : bs.Nodup
  ua : U a
  ub : ∀ b ∈ bs, U b
  n0 : ∀ b, b = a ∨ b ∈ bs → H0 b = none
  ns : ∀ b, b = a ∨ b ∈ bs → ∀ (i : Nat) (s : S), r[i]? = some (some s) → s.soft = false → σ[i]? ≠ some (some (V.ref b))
  len : bs.length = Ls.length
  each : ∀ (j : Nat) (b : Addr) (s : S), bs[j]? = some b → Ls[j]? = some s → SR C.K U (Wn U σ r) H (.ref b) s ∧ isOw s = true
section
variable {C : Ct} {U U' U0 : Addr → Prop} {H H' H0 : Hp} {σ σ' σ0 : St} {r r' r0 : Rho} {ri : Nat} {a : Addr} {bs : List Addr} {Ls : List S}
theorem Al.uu (x : Al C H0 U H σ r ri a bs Ls) {b : Addr} (h : b = a ∨ b ∈ bs) : U b := by
  rcases h with rfl | h
  · exact x.ua
  · exact x.ub b h
/-- what a loop's things are carried over by -/
abbrev MoB (a : Addr) (bs : List Addr) (U : Addr → Prop) (H : Hp) (σ : St) (r : Rho) (U' : Addr → Prop) (H' : Hp) (σ' : St) (r' : Rho) : Prop :=
  Mono (fun c => U c ∧ ¬ (c = a ∨ c ∈ bs)) (Wn U σ r) H (fun c => U' c ∧ ¬ (c = a ∨ c ∈ bs)) (Wn U' σ' r') H'
theorem MoB.of (m : Mono U (Wn U σ r) H U' (Wn U' σ' r') H') : MoB a bs U H σ r U' H' σ' r' :=
  ⟨m.lv, m.keep, m.free, fun c o h => m.keepU c o h.1, fun c h => ⟨m.sub c h.1, h.2⟩⟩
theorem Mono.trans {U'' W W' W'' : Addr → Prop} {H'' : Hp} (m : Mono U W H U' W' H') (n : Mono U' W' H' U'' W'' H'') : Mono U W H U'' W'' H'' :=
  ⟨m.lv, fun c o w h => n.keep c o (m.free c o w h) (m.keep c o w h), fun c o w h => n.free c o (m.free c o w h) (m.keep c o w h), fun c o u h => n.keepU c o (m.sub c u) (m.keepU c o u h), fun c u => n.sub c (m.sub c u)⟩
/-- the row's own name let go -/
theorem Al.frz (x : Al C H0 U H σ r ri a bs Ls) (s : Sit C U H σ r) (s0 : Sit C U0 H0 σ0 r0) (y0 : Aft U0 H0 σ0 r0 U H σ r) {ai j : Nat} {b : Addr} {t t2 : S} (hn : ai ≠ ri) (hai : r[ai]? = some none) (h1 : bs[j]? = some b) (h2 : Ls[j]? = some t)
    {U1 U2 : Addr → Prop} {H2 : Hp} {r2 : Rho} (s1 : Sit C U1 H (σ.set ai (some (V.ref b))) (r.set ai (some t))) (e1 : ∀ c, U1 c ↔ U c ∧ c ≠ b) (e2 : ∀ c, Wn U1 (σ.set ai (some (V.ref b))) (r.set ai (some t)) c ↔ Wn U σ r c) (e3 : ∀ c, Own (σ.set ai (some (V.ref b))) (r.set ai (some t)) c → Own σ r c ∨ c = b)
    (s2 : Sit C U2 H2 (σ.set ai (some (V.ref b))) r2) (y : Aft U1 H (σ.set ai (some (V.ref b))) (r.set ai (some t)) U2 H2 (σ.set ai (some (V.ref b))) r2) (g : r2[ai]? = some (some t2)) (g2 : isOw t2 = true) :
    ∃ U3, Sit C U3 H2 (σ.set ai (some (V.ref b))) (r2.set ai none) ∧ Aft U0 H0 σ0 r0 U3 H2 (σ.set ai (some (V.ref b))) (r2.set ai none) ∧ Al C H0 U3 H2 (σ.set ai (some (V.ref b))) (r2.set ai none) ri a bs (Ls.set j t2) ∧ MoB a bs U H σ r U3 H2 (σ.set ai (some (V.ref b))) (r2.set ai none) := by
  generalize hσ : σ.set ai (some (V.ref b)) = σ1 at *
  have mb := List.mem_of_getElem? h1
  have hlt : ai < r.length := lt_of_at hai
  have hb1 : σ1[ai]? = some (some (V.ref b)) := by rw [← hσ]; exact List.getElem?_set_self (by rw [s.len]; exact hlt)
  have hσ' : ∀ i, i ≠ ai → σ1[i]? = σ[i]? := fun i n => by rw [← hσ, List.getElem?_set_ne (fun z => n z.symm)]
  have nab : a ≠ b := fun z => x.out (z ▸ mb)
  obtain ⟨o1, o2, o3, o4⟩ := isOw.own g2
  have in3 : ∀ {i : Nat} {u : S}, (r2.set ai none)[i]? = some (some u) → i ≠ ai ∧ r2[i]? = some (some u) := fun h => by
    rcases at_set h with ⟨_, e⟩ | ⟨n, h⟩
    · cases e
    · exact ⟨n, h⟩
  have ob : Own σ1 r2 b := ⟨ai, t2, g, o1, hb1⟩
  have ow3 : ∀ c, Own σ1 (r2.set ai none) c → Own σ1 r2 c ∧ c ≠ b := fun c ⟨i, u, z1, z2, z3⟩ => by
    obtain ⟨n, z1⟩ := in3 z1
    refine ⟨⟨i, u, z1, z2, z3⟩, fun e => ?_⟩
    subst e
    exact n (s2.inj i ai u t2 _ z1 (own_soft z2) g o4 z3 hb1)
  have w3 : ∀ c, Wn (fun c => U2 c ∨ c = b) σ1 (r2.set ai none) c → Wn U2 σ1 r2 c := fun c z => by
    rcases z with z | z | z
    · exact .inl (ow3 c z).1
    · exact .inr z
    · subst z; exact .inl ob
  have lvb : Lv H2 b := by
    obtain ⟨v, e, z⟩ := s2.rep ai t2 g
    rw [hb1] at e; cases e
    obtain ⟨p, e, l⟩ := z.ownLv o1
    cases e; exact l
  have n0b := x.n0 b (.inr mb)
  have keepA : ∀ c o, c ≠ b → U c → H c = some o → H2 c = some o := fun c o n u h => y.keep c o h fun z => by
    rcases e3 c z with z | z
    · exact s.dis c z u
    · exact n z
  have toH : ∀ c o, H0 c = some o → ∃ o', H c = some o' := y0.there
  refine ⟨fun c => U2 c ∨ c = b, ⟨by rw [List.length_set]; exact s2.len, fun i u h => ?_, fun i k u v w h q h' q' z z' => ?_, fun c z => ?_, fun c z => ?_⟩, ⟨fun c h => ?_, fun c h => ?_, fun c h => ?_, fun c o h n => ?_, fun c o h => ?_, fun i u h k => ?_, fun i u h k => ?_⟩, ⟨?_, ?_, x.out, x.nd, ?_, fun c hc => ?_, x.n0, fun c hc i u z1 z2 z3 => ?_, by rw [List.length_set]; exact x.len, fun k c u z1 z2 => ?_⟩, ⟨s.wlv, fun c o w h => ?_, fun c o w h => ?_, fun c o u h => ?_, fun c u => ?_⟩⟩
  · obtain ⟨n, h⟩ := in3 h
    obtain ⟨v, e, z⟩ := s2.rep i u h
    exact ⟨v, e, z.less w3 fun p q1 q2 => .inl (z.lkLv q1 q2)⟩
  · exact s2.inj i k u v w (in3 h).2 q (in3 h').2 q' z z'
  · obtain ⟨z1, z2⟩ := ow3 c z
    exact fun q => q.elim (s2.dis c z1) z2
  · rcases z with z | z
    · exact s2.uok c z
    · subst z; exact lvb
  · -- sub
    by_cases e : c = b
    · exact .inr e
    · exact .inl (y.sub c ((e1 c).mpr ⟨y0.sub c h, e⟩))
  · -- new
    rcases h with h | h
    · rcases y.new c h with h | h | h
      · exact y0.new c ((e1 c).mp h).1
      · exact .inr (.inl (y0.back h))
      · rcases e3 c h with h | h
        · rcases y0.grow c h with h | h
          · exact .inr (.inr h)
          · exact .inr (.inl h)
        · subst h; exact .inr (.inl n0b)
    · subst h; exact .inr (.inl n0b)
  · -- grow
    obtain ⟨z1, z2⟩ := ow3 c h
    rcases y.grow c z1 with h | h
    · rcases e3 c h with h | h
      · exact y0.grow c h
      · exact (z2 h).elim
    · exact .inr (y0.back h)
  · -- keep
    have q := y0.keep c o h n
    refine y.keep c o q fun z => ?_
    rcases e3 c z with z | z
    · rcases y0.grow c z with z | z
      · exact n z
      · rw [h] at z; cases z
    · subst z; rw [h] at n0b; cases n0b
  · -- there
    obtain ⟨o', h⟩ := y0.there c o h
    exact y.there c o' h
  · -- pin
    obtain ⟨u', q1, q2, q3⟩ := y0.pin i u h k
    have ni : i ≠ ai := fun z => by subst z; rw [hai] at q1; cases q1
    obtain ⟨u'', q4, q5, q6⟩ := y.pin i u' (by rw [List.getElem?_set_ne (fun z => ni z.symm)]; exact q1) (q2.hard k)
    exact ⟨u'', by rw [List.getElem?_set_ne (fun z => ni z.symm)]; exact q4, q2.trans q5, by rw [hσ' i ni]; exact q3⟩
  · -- lok
    obtain ⟨ni, h⟩ := in3 h
    obtain ⟨q1, q2⟩ := y.lok i u h k
    rw [List.getElem?_set_ne (fun z => ni z.symm)] at q1
    obtain ⟨q3, q4⟩ := y0.lok i u q1 k
    exact ⟨q3, by rw [hσ' i ni]; exact q4⟩
  · rw [hσ' ri (fun z => hn z.symm)]; exact x.is
  · exact keepA a _ nab x.ua x.lst
  · exact .inl (y.sub a ((e1 a).mpr ⟨x.ua, nab⟩))
  · by_cases e : c = b
    · exact .inr e
    · exact .inl (y.sub c ((e1 c).mpr ⟨x.ub c hc, e⟩))
  · obtain ⟨ni, z1⟩ := in3 z1
    rcases sft_cases z2 with q | q
    · by_cases e : c = b
      · subst e
        exact ni (s2.inj i ai u t2 _ z1 z2 g o4 z3 hb1)
      · exact s2.dis c ⟨i, u, z1, q, z3⟩ (y.sub c ((e1 c).mpr ⟨x.uu hc, e⟩))
    · obtain ⟨g1, g2⟩ := y.lok i u z1 q
      rw [List.getElem?_set_ne (fun z => ni z.symm)] at g1
      exact x.ns c hc i u g1 z2 (by rw [← hσ' i ni]; exact z3)
  · by_cases e : k = j
    · subst e
      rw [h1] at z1; cases z1
      rw [List.getElem?_set_self (lt_of_at h2)] at z2; cases z2
      obtain ⟨v, e, z⟩ := s2.rep ai t2 g
      rw [hb1] at e; cases e
      exact ⟨z.less w3 fun p q1 q2 => .inl (z.lkLv q1 q2), g2⟩
    · rw [List.getElem?_set_ne (fun z => e z.symm)] at z2
      obtain ⟨q1, q2⟩ := x.each k c u z1 z2
      have nc : c ≠ b := fun z => by
        subst z
        exact e ((List.getElem?_inj (lt_of_at z1) x.nd).mp (z1.trans h1.symm))
      obtain ⟨p1, _, p3, _⟩ := isOw.own q2
      have q3 : SR C.K U1 (Wn U1 σ1 (r.set ai (some t))) H (.ref c) u := q1.less (fun d z => (e2 d).mp z) fun p z _ => by rw [p3] at z; cases z
      have q4 := q3.mono (y.mono s1) fun d o _ e ho => by cases e; exact keepA c o nc (x.ub c (List.mem_of_getElem? z1)) ho
      exact ⟨q4.less w3 fun p z _ => (by rw [p3] at z; cases z), q2⟩
  · exact (y.mono s1).keep c o (fun z => w ((e2 c).mp z)) h
  · exact fun z => (y.mono s1).free c o (fun z => w ((e2 c).mp z)) h (w3 c z)
  · exact keepA c o (fun z => u.2 (.inr (z ▸ mb))) u.1 h
  · exact ⟨.inl (y.sub c ((e1 c).mpr ⟨u.1, fun z => u.2 (.inr (z ▸ mb))⟩)), u.2⟩
end
end GB
namespace GB
open PySem PySem.Spec PyProof.Rows L2
def frzS : S → D
  | .ol ds => .lst ds
  | .od kvs => .dic (kvs.map Prod.fst) (kvs.map Prod.snd)
  | _ => .non
def noneAt (r : Rho) (i : Nat) : Bool := match r[i]? with
  | some none => true
  | _ => false
theorem noneAt.is {r : Rho} {i : Nat} (h : noneAt r i = true) : r[i]? = some none := by
  unfold noneAt at h
  split at h
  · assumption
  · cases h
section
variable {C : Ct} {U U' U0 : Addr → Prop} {H H' H0 : Hp} {σ σ' σ0 : St} {r r' r0 : Rho} {ri : Nat} {a : Addr} {bs : List Addr} {Ls : List S}
theorem rp_frz {K : PySem.W.Frag} {U W W' : Addr → Prop} {b : Addr} {t : S} (x : SR K U W H (.ref b) t) (ho : isOw t = true) (h : ∀ c, W' c → W c) (n : ¬ W' b) : Rp K W' H (.ref b) (frzS t) := by
  cases x with
  | ol e y => exact .lst e n (y.less h)
  | od e y =>
    refine .dic e n ?_ ?_
    · clear e ho
      induction y with
      | nil => rfl
      | cons q _ ih => rw [List.map_cons, List.map_cons, ih, q.1]
    · clear e ho
      induction y with
      | nil => exact .nil
      | cons q _ ih => exact .cons (q.2.less h) ih
  | _ => cases ho
theorem rps_frz {K : PySem.W.Frag} {W : Addr → Prop} : ∀ {bs : List Addr} {Ls : List S}, bs.length = Ls.length → (∀ (j : Nat) (b : Addr) (s : S), bs[j]? = some b → Ls[j]? = some s → Rp K W H (.ref b) (frzS s)) → Rps K W H (bs.map V.ref) (Ls.map frzS)
  | [], [], _, _ => .nil
  | b :: bs, s :: Ls, e, h => .cons (h 0 b s rfl rfl) (rps_frz (by simpa using e) fun j b s h1 h2 => h (j + 1) b s h1 h2)
  | [], _ :: _, e, _ => by simp at e
  | _ :: _, [], e, _ => by simp at e
/-- the rows' own list again -/
theorem Al.fin (x : Al C H0 U H σ r ri a bs Ls) (s : Sit C U H σ r) (s0 : Sit C U0 H0 σ0 r0) (y0 : Aft U0 H0 σ0 r0 U H σ r) (hri : r[ri]? = some none) :
    ∃ U4, Sit C U4 H σ (r.set ri (some (.ol (Ls.map frzS)))) ∧ Aft U0 H0 σ0 r0 U4 H σ (r.set ri (some (.ol (Ls.map frzS)))) := by
  have hlt : ri < r.length := lt_of_at hri
  have g := List.getElem?_set_self (a := some (S.ol (Ls.map frzS))) hlt
  have in4 : ∀ {i : Nat} {u : S}, (r.set ri (some (.ol (Ls.map frzS))))[i]? = some (some u) → (i = ri ∧ u = .ol (Ls.map frzS)) ∨ (i ≠ ri ∧ r[i]? = some (some u)) := fun h => by
    rcases at_set h with ⟨e, q⟩ | z
    · cases q; exact .inl ⟨e, rfl⟩
    · exact .inr z
  have ow4 : ∀ c, Own σ (r.set ri (some (.ol (Ls.map frzS)))) c → c = a ∨ Own σ r c := fun c ⟨i, u, z1, z2, z3⟩ => by
    rcases in4 z1 with ⟨rfl, rfl⟩ | ⟨n, z1⟩
    · rw [x.is] at z3; cases z3; exact .inl rfl
    · exact .inr ⟨i, u, z1, z2, z3⟩
  have w4 : ∀ c, Wn (fun c => U c ∧ ¬ (c = a ∨ c ∈ bs)) σ (r.set ri (some (.ol (Ls.map frzS)))) c → Wn U σ r c := fun c z => by
    rcases z with z | z
    · rcases ow4 c z with z | z
      · exact .inr (z ▸ x.ua)
      · exact .inl z
    · exact .inr z.1
  refine ⟨fun c => U c ∧ ¬ (c = a ∨ c ∈ bs), ⟨by rw [List.length_set]; exact s.len, fun i u h => ?_, fun i k u v w h q h' q' z z' => ?_, fun c z q => ?_, fun c z => s.uok c z.1⟩, ⟨fun c h => ⟨y0.sub c h, fun q => ?_⟩, fun c h => y0.new c h.1, fun c h => ?_, y0.keep, y0.there, fun i u h k => ?_, fun i u h k => ?_⟩⟩
  · rcases in4 h with ⟨rfl, rfl⟩ | ⟨n, h⟩
    · refine ⟨_, x.is, .ol x.lst (rps_frz x.len fun j b t h1 h2 => ?_)⟩
      obtain ⟨q1, q2⟩ := x.each j b t h1 h2
      have mb := List.mem_of_getElem? h1
      refine rp_frz q1 q2 w4 fun z => ?_
      rcases z with z | z
      · rcases ow4 b z with z | z
        · exact x.out (z ▸ mb)
        · exact s.dis b z (x.ub b mb)
      · exact z.2 (.inr mb)
    · obtain ⟨v, e, z⟩ := s.rep i u h
      exact ⟨v, e, z.less w4 fun p q1 q2 => ⟨z.lkLv q1 q2, fun q => by
        subst q2
        exact x.ns p q i u h (lkd_soft q1) e⟩⟩
  · rcases in4 h with ⟨rfl, rfl⟩ | ⟨n, hh⟩
    · rcases in4 h' with ⟨rfl, rfl⟩ | ⟨n', h''⟩
      · rfl
      · rw [x.is] at z; cases z
        exact (x.ns a (.inl rfl) k v h'' q' z').elim
    · rcases in4 h' with ⟨rfl, rfl⟩ | ⟨n', h''⟩
      · rw [x.is] at z'; cases z'
        exact (x.ns a (.inl rfl) i u hh q z).elim
      · exact s.inj i k u v w hh q h'' q' z z'
  · rcases ow4 c z with z | z
    · exact q.2 (.inl z)
    · exact s.dis c z q.1
  · rcases s0.uok c h with ⟨_, e⟩ | ⟨_, e⟩ | ⟨_, e⟩ <;> (rw [x.n0 c q] at e; cases e)
  · rcases ow4 c h with z | z
    · exact .inr (x.n0 c (.inl z))
    · exact y0.grow c z
  · obtain ⟨u', q1, q2, q3⟩ := y0.pin i u h k
    have ni : i ≠ ri := fun z => by subst z; rw [hri] at q1; cases q1
    exact ⟨u', by rw [List.getElem?_set_ne (fun z => ni z.symm)]; exact q1, q2, q3⟩
  · rcases in4 h with ⟨rfl, rfl⟩ | ⟨n, h⟩
    · cases k
    · exact y0.lok i u h k
end
end GB
namespace GB
open PySem PySem.Spec PyProof.Rows L2
end GB
namespace GB
open PySem PySem.Spec PyProof.Rows L2
end GB
namespace GB
open PySem PySem.Spec PyProof.Rows L2
end GB
namespace GB
open PySem PySem.Spec PyProof.Rows L2
end GB
namespace GB
open PySem PySem.Spec PyProof.Rows L2
end GB
namespace GB
open PySem PySem.Spec PyProof.Rows L2
open PySem.SeqAt PySem.MeetsSeq PySem.MeetsSeq2 PySem.MeetsSeq3
open PySem.AutoSeq1 (wpAny_loadPart')
end GB
namespace GB
open PySem PySem.Spec PyProof.Rows L2
end GB
namespace GB
open PySem PySem.Spec PyProof.Rows L2
end GB
namespace GB
open PySem PySem.Spec PyProof.Rows L2
end GB
namespace GB
open PySem PySem.Spec PyProof.Rows L2
end GB
namespace GB
open PySem PySem.Spec PyProof.Rows L2
end GB
namespace GB
open PySem PySem.Spec PyProof.Rows L2
end GB
namespace GB
open PySem PySem.Spec PyProof.Rows L2
section
variable {X : Cx} {C : Ct} {a b : Expr} {fs : Rho → Rs (List Opd)} {pos px py pt : Pos} {kt k2 : Nat} {pt2 : Pos} {i j : Nat} {x y : Str}
def put2 (i j : Nat) (ds : List D) (r : Rho) : Fl := match ds with
  | [d, e] => if free r i then (if free (r.set i (some (.fz d))) j then .nx ((r.set i (some (.fz d))).set j (some (.fz e))) else .st) else .st
  | _ => .st
def fPar (i j : Nat) (fs : Rho → Rs (List Opd)) : Rho → Fl := fun r => match fs r with
  | .ok os r1 => (match frzAll os r1 with | some (ds, r2) => put2 i j ds r2 | none => .st)
  | .ex c fs r1 => .ex c fs r1
  | .st => .st
@[simp] theorem s_fPar {r : Rho} : fPar i j fs r = match fs r with
  | .ok os r1 => (match frzAll os r1 with | some (ds, r2) => put2 i j ds r2 | none => .st)
  | .ex c fs r1 => .ex c fs r1
  | .st => .st := rfl
@[simp] theorem s_put2 {r : Rho} {d e : D} : put2 i j [d, e] r = if free r i then (if free (r.set i (some (.fz d))) j then .nx ((r.set i (some (.fz d))).set j (some (.fz e))) else .st) else .st := rfl
end
end GB
namespace GB
open PySem PySem.Spec PyProof.Rows L2
def joinL : List D → List Nat
  | [] => []
  | [x] => shownL x
  | x :: y :: ds => shownL x ++ 44 :: 32 :: joinL (y :: ds)
theorem cps_app (a b : Str) : (a ++ b).cps.toList = a.cps.toList ++ b.cps.toList := by rw [Str.cps_append, Array.toList_append]
theorem join_shown : ∀ ds : List D, (Str.join ", " (PyData.shownAll (pyAll ds))).cps.toList = joinL ds
  | [] => by rw [pyAll, PyData.shownAll]; rfl
  | [x] => by rw [pyAll, pyAll, PyData.shownAll, PyData.shownAll]; rfl
  | x :: y :: ds => by
    have ih := join_shown (y :: ds)
    rw [pyAll, PyData.shownAll]
    rw [pyAll, PyData.shownAll] at ih ⊢
    have e : ((", " : String) : Str).cps.toList = [44, 32] := by decide +kernel
    have j : Str.join ", " (x.py.shown :: y.py.shown :: PyData.shownAll (pyAll ds)) = x.py.shown ++ ", " ++ Str.join ", " (y.py.shown :: PyData.shownAll (pyAll ds)) := rfl
    rw [j, cps_app, cps_app, ih, e, joinL]
    show (shownL x ++ [44, 32]) ++ _ = _
    rw [List.append_assoc]; rfl
theorem pyAll_len : ∀ ds : List D, (PyData.shownAll (pyAll ds)).length = ds.length
  | [] => by rw [pyAll, PyData.shownAll]; rfl
  | d :: ds => by rw [pyAll, PyData.shownAll, List.length_cons, pyAll_len ds, List.length_cons]
theorem shown_tup (ds : List D) : shownL (.tup ds) = 40 :: (joinL ds ++ if ds.length = 1 then [44, 41] else [41]) := by
  unfold shownL
  rw [D.py, PyData.shown]
  unfold tupleText
  rw [cps_app, cps_app, join_shown, pyAll_len]
  have e : (("(" : String) : Str).cps.toList = [40] := by decide +kernel
  rw [e]
  by_cases h : ds.length = 1
  · rw [if_pos (by simp [h]), if_pos h]
    have e : ((",)" : String) : Str).cps.toList = [44, 41] := by decide +kernel
    rw [e, List.append_assoc]; rfl
  · rw [if_neg (by simpa using h), if_neg h]
    have e : ((")" : String) : Str).cps.toList = [41] := by decide +kernel
    rw [e, List.append_assoc]; rfl
def digB (c : Nat) : Bool := c == 45 || (decide (48 ≤ c) && decide (c ≤ 57))
def digV (l : List Nat) : Int := ((l.foldl (fun a c => a * 10 + (c - 48)) 0 : Nat) : Int)
def numV : List Nat → Int
  | 45 :: l => - digV l
  | l => digV l
theorem small_ints : ∀ k < 401, (shownL (.int (((k : Nat) : Int) - 200))).all digB = true ∧ (shownL (.int (((k : Nat) : Int) - 200))).isEmpty = false ∧ numV (shownL (.int (((k : Nat) : Int) - 200))) = ((k : Nat) : Int) - 200 := by decide +kernel
theorem shown_int {i : Int} (h1 : -200 ≤ i) (h2 : i ≤ 200) : (∀ c ∈ shownL (.int i), digB c = true) ∧ shownL (.int i) ≠ [] ∧ numV (shownL (.int i)) = i := by
  have h := small_ints (i + 200).toNat (by omega)
  rw [show (((i + 200).toNat : Nat) : Int) - 200 = i by omega] at h
  refine ⟨fun c hc => List.all_eq_true.mp h.1 c hc, fun z => ?_, h.2.2⟩
  rw [z] at h
  exact absurd h.2.1 (by decide)
theorem int_head {i : Int} (h1 : -200 ≤ i) (h2 : i ≤ 200) : ∃ c l, shownL (.int i) = c :: l ∧ digB c = true := by
  obtain ⟨h, n, _⟩ := shown_int h1 h2
  cases e : shownL (.int i) with
  | nil => exact absurd e n
  | cons c l => exact ⟨c, l, rfl, h c (by rw [e]; exact List.mem_cons_self ..)⟩
/-- pairs of pairs .. of ints -/
def IT : Nat → D → Prop
  | 0, d => ∃ i : Int, -200 ≤ i ∧ i ≤ 200 ∧ d = .int i
  | n + 1, d => ∃ a b, d = .tup [a, b] ∧ IT n a ∧ IT n b
/-- small nested things -/
def nice : Nat → D → Prop
  | 0, d => d = .non ∨ (∃ b, d = .bl b) ∨ (∃ i : Int, -200 ≤ i ∧ i ≤ 200 ∧ d = .int i) ∨ (∃ l : List Nat, d = .str l ∧ l.length ≤ 10 ∧ ∀ c ∈ l, c < 128)
  | n + 1, d => nice n d ∨ ∃ ds : List D, (d = .tup ds ∨ d = .lst ds) ∧ ds.length ≤ 4 ∧ ∀ x ∈ ds, nice n x
theorem nice.up {n : Nat} {d : D} (h : nice n d) : nice (n + 1) d := .inl h
theorem nice.mono {n m : Nat} {d : D} (h : nice n d) (hm : n ≤ m) : nice m d := by
  induction hm with
  | refl => exact h
  | step _ ih => exact ih.up
theorem IT.head : ∀ {n : Nat} {d : D}, IT n d → ∃ c l, shownL d = c :: l ∧ (c = 40 ∨ digB c = true)
  | 0, _, ⟨i, h1, h2, e⟩ => by
    subst e
    obtain ⟨c, l, g1, g2⟩ := int_head h1 h2
    exact ⟨c, l, g1, .inr g2⟩
  | n + 1, _, ⟨a, b, e, ha, hb⟩ => by
    subst e
    exact ⟨40, _, shown_tup _, .inl rfl⟩
end GB
namespace GB
open PySem PySem.Spec PyProof.Rows L2
end GB
namespace GB
open PySem PySem.Spec PyProof.Rows L2
end GB
namespace GB
open PySem PySem.Spec PyProof.Rows L2
end GB
namespace GB
open PySem PySem.Spec PyProof.Rows L2
end GB
namespace GB
open PySem PySem.Spec PyProof.Rows L2
end GB
namespace GB
open PySem
end GB
namespace GB
open PySem PySem.Spec PyProof.Rows L2
/-- a pair of texts, the first one's token out since n -/
def TkO (n : Nat) (u : Value) (s' : Shared) : Prop := ∃ (a : Addr) (x1 x2 : Str) (t1 t2 : Tok), u = .ref a ∧ IsTup s'.heap a #[.str x1 t1, .str x2 t2] ∧ n ≤ t1 ∧ t1 < s'.toks
section
variable {P : Program} {w : World} {K : PySem.W.Frag} {mg : Str → Option Value} {base : Heap}
/-- its texts are new -/
def FnT (P : Program) (w : World) (K : PySem.W.Frag) (mg : Str → Option Value) (base : Heap) (k : Nat) (f : Addr) (fd : FuncData) (ps : List Str) (sp : Sp) : Prop :=
  ∀ (A : Around) (l : List Env) (t : Shared) (H : Hp) (args : Args) (us : List Value) (vs : List V) (Q : VK) (E : XK), Room k A → A.guards = some [] → Env0 P w K mg base A l t H →
    BindsTo t fd args (ps.zip us) → Vals vs us → sp vs H Q E → codeAny (model P w) A (.call (.ref f) args) (fun res s' => ∀ u, res = .ok (.ret u) → TkO t.toks u s') t
end
structure DefTk (P : Program) (w : World) (K : PySem.W.Frag) (mg : Str → Option Value) (base : Heap) (j : Nat) (x : Str) (ps : List Str) (F : Fs) : Prop where
  ex : ∃ f fd, FnG P w K mg base j f fd ps (spF (ct0 K mg) ps.length F) ∧ FnT P w K mg base j f fd ps (spF (ct0 K mg) ps.length F) ∧ mg x = some (.ref f) ∧ PySem.W.keepIn K (.ref f) = true ∧ Binds K fd ps []
end GB
namespace GB
open PySem PySem.Spec PyProof.Rows L2
theorem DefTk.ok {P : Program} {w : World} {K : PySem.W.Frag} {mg : Str → Option Value} {base : Heap} {j : Nat} {x : Str} {ps : List Str} {F : Fs} (c : DefTk P w K mg base j x ps F) : DefOk P w K mg base j x ps F := by
  obtain ⟨f, fd, G, _, a, b, d⟩ := c.ex
  exact ⟨f, fd, G, a, b, d⟩
end GB
namespace GB
open PySem PySem.Spec PyProof.Rows L2
end GB
namespace GB
open PySem PySem.Spec PyProof.Rows L2
end GB
namespace DN
/-- letters with backs; all turns of rings and of their backs -/
structure Grp (α : Type) where
  iv : α → α
  iv2 : ∀ x, iv (iv x) = x
  R : List α → Prop
  ne : ∀ {r}, R r → r ≠ []
  rot : ∀ {x s}, R (x :: s) → R (s ++ [x])
  inv : ∀ {r}, R r → R (r.map iv).reverse
variable {α : Type} (G : Grp α)
def Grp.I (w : List α) : List α := (w.map G.iv).reverse
@[simp] theorem I_nil : G.I [] = [] := rfl
@[simp] theorem I_app (u v : List α) : G.I (u ++ v) = G.I v ++ G.I u := by simp [Grp.I]
@[simp] theorem I_cons (x : α) (v : List α) : G.I (x :: v) = G.I v ++ [G.iv x] := by simp [Grp.I]
@[simp] theorem I_I (w : List α) : G.I (G.I w) = w := by
  induction w with
  | nil => rfl
  | cons x w ih => simp [ih, G.iv2]
@[simp] theorem I_len (w : List α) : (G.I w).length = w.length := by simp [Grp.I]
theorem R_rot : ∀ {u v : List α}, G.R (u ++ v) → G.R (v ++ u)
  | [], v, h => by simpa using h
  | x :: u, v, h => by
    have h : G.R (x :: (u ++ v)) := h
    have h1 := G.rot h
    have h2 : G.R (u ++ (v ++ [x])) := by simpa using h1
    have h3 := R_rot h2
    simpa using h3
theorem R_I {r : List α} (h : G.R r) : G.R (G.I r) := G.inv h
/-- k moves, n of them by rings -/
inductive Ar : Nat → Nat → List α → Prop
  | nil : Ar 0 0 []
  | rel {k n : Nat} {u v r : List α} : Ar k n (u ++ v) → G.R r → Ar (k + 1) (n + 1) (u ++ r ++ v)
  | put {k n : Nat} {u v : List α} (x : α) : Ar k n (u ++ v) → Ar (k + 1) n (u ++ x :: G.iv x :: v)
  | out {k n : Nat} {u v : List α} (x : α) : Ar k n (u ++ x :: G.iv x :: v) → Ar (k + 1) n (u ++ v)
variable {G}
theorem Ar.ctx {k n : Nat} {v : List α} (h : Ar G k n v) {a b : List α} {k' n' : Nat} (h' : Ar G k' n' (a ++ b)) : Ar G (k + k') (n + n') (a ++ v ++ b) := by
  induction h with
  | nil => simpa using h'
  | rel h hr ih =>
    rename_i k n u v r
    have := Ar.rel (u := a ++ u) (v := v ++ b) (by simpa using ih) hr
    rw [show k + 1 + k' = k + k' + 1 by omega, show n + 1 + n' = n + n' + 1 by omega]
    simpa using this
  | put x h ih =>
    rename_i k n u v
    have := Ar.put (u := a ++ u) (v := v ++ b) x (by simpa using ih)
    rw [show k + 1 + k' = k + k' + 1 by omega]
    simpa using this
  | out x h ih =>
    rename_i k n u v
    have := Ar.out (u := a ++ u) (v := v ++ b) x (by simpa using ih)
    rw [show k + 1 + k' = k + k' + 1 by omega]
    simpa using this
theorem Ar.mirror {k n : Nat} {w : List α} (h : Ar G k n w) : Ar G k n (G.I w) := by
  induction h with
  | nil => exact .nil
  | rel h hr ih =>
    rename_i k n u v r
    have := Ar.rel (u := G.I v) (v := G.I u) (by simpa using ih) (R_I G hr)
    simpa using this
  | put x h ih =>
    rename_i k n u v
    have := Ar.put (u := G.I v) (v := G.I u) x (by simpa using ih)
    simpa [G.iv2] using this
  | out x h ih =>
    rename_i k n u v
    have := Ar.out (u := G.I v) (v := G.I u) x (by simpa [G.iv2] using ih)
    simpa using this
/-- at most n rings -/
def A (G : Grp α) (n : Nat) (w : List α) : Prop := ∃ k m, m ≤ n ∧ Ar G k m w
theorem Ar.A {k n : Nat} {w : List α} (h : Ar G k n w) : A G n w := ⟨k, n, Nat.le_refl _, h⟩
theorem A.mono {n m : Nat} {w : List α} (h : A G n w) (l : n ≤ m) : A G m w := by
  obtain ⟨k, j, hj, h⟩ := h
  exact ⟨k, j, by omega, h⟩
theorem A.nil : A G 0 [] := Ar.nil.A
theorem A.ctx {n : Nat} {v : List α} (h : A G n v) {a b : List α} {n' : Nat} (h' : A G n' (a ++ b)) : A G (n + n') (a ++ v ++ b) := by
  obtain ⟨k, j, hj, h⟩ := h
  obtain ⟨k', j', hj', h'⟩ := h'
  exact ⟨_, _, by omega, h.ctx h'⟩
theorem A.rel {n : Nat} {u v r : List α} (h : A G n (u ++ v)) (hr : G.R r) : A G (n + 1) (u ++ r ++ v) := by
  obtain ⟨k, j, hj, h⟩ := h
  exact ⟨_, _, by omega, h.rel hr⟩
theorem A.put {n : Nat} {u v : List α} (x : α) (h : A G n (u ++ v)) : A G n (u ++ x :: G.iv x :: v) := by
  obtain ⟨k, j, hj, h⟩ := h
  exact ⟨_, _, hj, h.put x⟩
theorem A.out {n : Nat} {u v : List α} (x : α) (h : A G n (u ++ x :: G.iv x :: v)) : A G n (u ++ v) := by
  obtain ⟨k, j, hj, h⟩ := h
  exact ⟨_, _, hj, h.out x⟩
theorem A.put' {n : Nat} {u v : List α} (x : α) (h : A G n (u ++ v)) : A G n (u ++ G.iv x :: x :: v) := by
  have := h.put (G.iv x)
  rwa [G.iv2] at this
/-- a word and its back put in, taken out -/
theorem A.putW {n : Nat} : ∀ (p : List α) {u v : List α}, A G n (u ++ v) → A G n (u ++ p ++ G.I p ++ v)
  | [], u, v, h => by simpa using h
  | x :: p, u, v, h => by
    have h1 := h.put x
    have h2 := A.putW p (u := u ++ [x]) (v := G.iv x :: v) (by simpa using h1)
    simpa using h2
theorem A.outW {n : Nat} : ∀ (p : List α) {u v : List α}, A G n (u ++ p ++ G.I p ++ v) → A G n (u ++ v)
  | [], u, v, h => by simpa using h
  | x :: p, u, v, h => by
    have h2 := A.outW p (u := u ++ [x]) (v := G.iv x :: v) (by simpa using h)
    exact A.out x (by simpa using h2)
theorem A.putW' {n : Nat} (p : List α) {u v : List α} (h : A G n (u ++ v)) : A G n (u ++ G.I p ++ p ++ v) := by
  have := h.putW (G.I p)
  rwa [I_I] at this
theorem A.outW' {n : Nat} (p : List α) {u v : List α} (h : A G n (u ++ G.I p ++ p ++ v)) : A G n (u ++ v) := by
  refine A.outW (G.I p) ?_
  rwa [I_I]
theorem A.conj {n : Nat} {w : List α} (h : A G n w) (p : List α) : A G n (p ++ w ++ G.I p) := by
  have := h.ctx (a := p) (b := G.I p) (n' := 0) (by simpa using A.putW p (u := []) (v := []) A.nil)
  simpa using this
theorem A.cyc {n : Nat} {u v : List α} (h : A G n (u ++ v)) : A G n (v ++ u) := by
  have h1 := h.conj (G.I u)
  rw [I_I] at h1
  have h2 := A.outW' u (u := []) (v := v ++ u) (by simpa using h1)
  simpa using h2
theorem A.mirror {n : Nat} {w : List α} (h : A G n w) : A G n (G.I w) := by
  obtain ⟨k, j, hj, h⟩ := h
  exact ⟨_, _, hj, h.mirror⟩
/-- the letter x between a and b: its ring; its partner behind; its partner ahead -/
def Pl (G : Grp α) (k n : Nat) (a : List α) (x : α) (b : List α) : Prop :=
  (∃ s n', G.R (x :: s) ∧ n' + 1 ≤ n ∧ A G n' (a ++ G.I s ++ b)) ∨
  (∃ c d k1 n1 k2 n2, b = c ++ G.iv x :: d ∧ Ar G k1 n1 c ∧ Ar G k2 n2 (a ++ d) ∧ k1 + k2 + 1 ≤ k ∧ n1 + n2 ≤ n) ∨
  (∃ c d k1 n1 k2 n2, a = c ++ G.iv x :: d ∧ Ar G k1 n1 d ∧ Ar G k2 n2 (c ++ b) ∧ k1 + k2 + 1 ≤ k ∧ n1 + n2 ≤ n)
theorem Pl.mirror {k n : Nat} {a b : List α} {x : α} (h : Pl G k n (G.I b) (G.iv x) (G.I a)) : Pl G k n a x b := by
  rcases h with ⟨s, n', hr, hn, h⟩ | ⟨c, d, k1, n1, k2, n2, e, h1, h2, hk, hn⟩ | ⟨c, d, k1, n1, k2, n2, e, h1, h2, hk, hn⟩
  · refine .inl ⟨G.I s, n', ?_, hn, ?_⟩
    · have := R_I G hr
      simp [G.iv2] at this
      exact R_rot G this
    · have := h.mirror
      simpa using this
  · refine .inr (.inr ⟨G.I d, G.I c, k1, n1, k2, n2, ?_, h1.mirror, ?_, hk, hn⟩)
    · have := congrArg G.I e
      simpa [G.iv2] using this
    · have := h2.mirror
      simpa using this
  · refine .inr (.inl ⟨G.I d, G.I c, k1, n1, k2, n2, ?_, h1.mirror, ?_, hk, hn⟩)
    · have := congrArg G.I e
      simpa [G.iv2] using this
    · have := h2.mirror
      simpa using this
theorem Pl.mirror' {k n : Nat} {a b : List α} {x : α} (h : Pl G k n a x b) : Pl G k n (G.I b) (G.iv x) (G.I a) := by
  refine Pl.mirror ?_
  simpa [G.iv2] using h
end DN
namespace DN
variable {α : Type} {G : Grp α}
theorem split_at {u v a b : List α} {x : α} (h : u ++ v = a ++ x :: b) : (∃ u', u = a ++ x :: u' ∧ b = u' ++ v) ∨ (∃ v', v = v' ++ x :: b ∧ a = u ++ v') := by
  rcases List.append_eq_append_iff.mp h with ⟨c, h1, h2⟩ | ⟨c, h1, h2⟩
  · exact .inr ⟨c, h2, h1⟩
  · cases c with
    | nil => exact .inr ⟨[], by simpa using h2.symm, by simpa using h1.symm⟩
    | cons y c =>
      injection h2 with h3 h4
      subst h3
      exact .inl ⟨c, h1, h4⟩
theorem Pl.up {k k' n : Nat} {a b : List α} {x : α} (h : Pl G k n a x b) (l : k ≤ k') : Pl G k' n a x b := by
  rcases h with h | ⟨c, d, k1, n1, k2, n2, e, h1, h2, hk, hn⟩ | ⟨c, d, k1, n1, k2, n2, e, h1, h2, hk, hn⟩
  · exact .inl h
  · exact .inr (.inl ⟨c, d, k1, n1, k2, n2, e, h1, h2, by omega, hn⟩)
  · exact .inr (.inr ⟨c, d, k1, n1, k2, n2, e, h1, h2, by omega, hn⟩)
/-- a ring put in behind the letter -/
theorem Pl.relR {k n : Nat} {a b v r : List α} {x : α} (h : Pl G k n a x (b ++ v)) (hr : G.R r) : Pl G (k + 1) (n + 1) a x (b ++ r ++ v) := by
  rcases h with ⟨s, n', hs, hn, h⟩ | ⟨c, d, k1, n1, k2, n2, e, h1, h2, hk, hn⟩ | ⟨c, d, k1, n1, k2, n2, e, h1, h2, hk, hn⟩
  · refine .inl ⟨s, n' + 1, hs, by omega, ?_⟩
    have := A.rel (u := a ++ G.I s ++ b) (v := v) (by simpa using h) hr
    simpa using this
  · rcases split_at e with ⟨u', e1, e2⟩ | ⟨v', e1, e2⟩
    · subst e1 e2
      refine .inr (.inl ⟨c, u' ++ r ++ v, k1, n1, k2 + 1, n2 + 1, by simp, h1, ?_, by omega, by omega⟩)
      have := Ar.rel (u := a ++ u') (v := v) (by simpa using h2) hr
      simpa using this
    · subst e1 e2
      refine .inr (.inl ⟨b ++ r ++ v', d, k1 + 1, n1 + 1, k2, n2, by simp, ?_, h2, by omega, by omega⟩)
      exact Ar.rel h1 hr
  · subst e
    refine .inr (.inr ⟨c, d, k1, n1, k2 + 1, n2 + 1, rfl, h1, ?_, by omega, by omega⟩)
    have := Ar.rel (u := c ++ b) (v := v) (by simpa using h2) hr
    simpa using this
theorem Pl.putR {k n : Nat} {a b v : List α} {x : α} (y : α) (h : Pl G k n a x (b ++ v)) : Pl G (k + 1) n a x (b ++ y :: G.iv y :: v) := by
  rcases h with ⟨s, n', hs, hn, h⟩ | ⟨c, d, k1, n1, k2, n2, e, h1, h2, hk, hn⟩ | ⟨c, d, k1, n1, k2, n2, e, h1, h2, hk, hn⟩
  · refine .inl ⟨s, n', hs, by omega, ?_⟩
    have := A.put (u := a ++ G.I s ++ b) (v := v) y (by simpa using h)
    simpa using this
  · rcases split_at e with ⟨u', e1, e2⟩ | ⟨v', e1, e2⟩
    · subst e1 e2
      refine .inr (.inl ⟨c, u' ++ y :: G.iv y :: v, k1, n1, k2 + 1, n2, by simp, h1, ?_, by omega, by omega⟩)
      have := Ar.put (u := a ++ u') (v := v) y (by simpa using h2)
      simpa using this
    · subst e1 e2
      refine .inr (.inl ⟨b ++ y :: G.iv y :: v', d, k1 + 1, n1, k2, n2, by simp, ?_, h2, by omega, by omega⟩)
      exact Ar.put y h1
  · subst e
    refine .inr (.inr ⟨c, d, k1, n1, k2 + 1, n2, rfl, h1, ?_, by omega, by omega⟩)
    have := Ar.put (u := c ++ b) (v := v) y (by simpa using h2)
    simpa using this
/-- a pair taken out behind the letter -/
theorem Pl.outR {k n : Nat} (IH : ∀ j, j ≤ k → ∀ n w, Ar G j n w → ∀ a x b, w = a ++ x :: b → Pl G j n a x b) {a b v : List α} {x : α} (y : α) (h : Pl G k n a x (b ++ y :: G.iv y :: v)) : Pl G (k + 1) n a x (b ++ v) := by
  rcases h with ⟨s, n', hs, hn, h⟩ | ⟨c, d, k1, n1, k2, n2, e, h1, h2, hk, hn⟩ | ⟨c, d, k1, n1, k2, n2, e, h1, h2, hk, hn⟩
  · refine .inl ⟨s, n', hs, by omega, ?_⟩
    have := A.out (u := a ++ G.I s ++ b) (v := v) y (by simpa using h)
    simpa using this
  · rcases split_at e with ⟨u', e1, e2⟩ | ⟨v', e1, e2⟩
    · -- the partner ahead of the pair
      subst e1 e2
      refine .inr (.inl ⟨c, u' ++ v, k1, n1, k2 + 1, n2, by simp, h1, ?_, by omega, by omega⟩)
      have := Ar.out (u := a ++ u') (v := v) y (by simpa using h2)
      simpa using this
    · cases v' with
      | nil =>
        -- the partner is the pair's first
        simp at e1 e2
        obtain ⟨e3, e4⟩ := e1
        subst e2 e4
        have ex : G.iv y = x := by rw [e3, G.iv2]
        rw [ex] at h2
        have z := IH k2 (by omega) _ _ h2 a x v rfl
        rcases z with ⟨s, n', hs, hn', z⟩ | ⟨c', d', m1, l1, m2, l2, e5, z1, z2, zk, zn⟩ | ⟨c', d', m1, l1, m2, l2, e5, z1, z2, zk, zn⟩
        · refine .inl ⟨s, n1 + n', hs, by omega, ?_⟩
          have := A.ctx h1.A (a := a ++ G.I s) (b := v) z
          simpa using this
        · subst e5
          refine .inr (.inl ⟨c ++ c', d', k1 + m1, n1 + l1, m2, l2, by simp, ?_, z2, by omega, by omega⟩)
          have := h1.ctx (a := []) (b := c') z1
          simpa using this
        · subst e5
          refine .inr (.inr ⟨c', d', m1, l1, k1 + m2, n1 + l2, rfl, z1, ?_, by omega, by omega⟩)
          have := h1.ctx (a := c') (b := v) z2
          simpa using this
      | cons y' v' =>
        injection e1 with e3 e4
        subst e3
        cases v' with
        | nil =>
          -- the partner is the pair's second: y = x
          simp at e4
          obtain ⟨e5, e6⟩ := e4
          have ex : y = x := by have := congrArg G.iv e5; simpa [G.iv2] using this
          subst ex e6 e2
          have z := IH k1 (by omega) _ _ h1 b y [] (by simp)
          rcases z with ⟨s, n', hs, hn', z⟩ | ⟨c', d', m1, l1, m2, l2, e5, z1, z2, zk, zn⟩ | ⟨c', d', m1, l1, m2, l2, e5, z1, z2, zk, zn⟩
          · refine .inl ⟨s, n' + n2, hs, by omega, ?_⟩
            have z' : A G n' (G.I s ++ b) := A.cyc (by simpa using z)
            have := A.ctx z' (a := a) (b := v) h2.A
            simpa using this
          · simp at e5
          · subst e5
            refine .inr (.inl ⟨c', d' ++ v, m2, l2, m1 + k2, l1 + n2, by simp, by simpa using z2, ?_, by omega, by omega⟩)
            have := z1.ctx (a := a) (b := v) h2
            simpa using this
        | cons y'' v' =>
          injection e4 with e5 e6
          subst e5 e6 e2
          refine .inr (.inl ⟨b ++ v', d, k1 + 1, n1, k2, n2, by simp, ?_, h2, by omega, by omega⟩)
          exact Ar.out y (by simpa using h1)
  · subst e
    refine .inr (.inr ⟨c, d, k1, n1, k2 + 1, n2, rfl, h1, ?_, by omega, by omega⟩)
    have := Ar.out (u := c ++ b) (v := v) y (by simpa using h2)
    simpa using this
theorem peel : ∀ k n (w : List α), Ar G k n w → ∀ a x b, w = a ++ x :: b → Pl G k n a x b := by
  intro k
  induction k using Nat.strongRecOn with
  | ind k IH =>
  intro n w h a x b e
  cases h with
  | nil => simp at e
  | rel h hr =>
    rename_i k n u v r
    have IHk := IH k (by omega) n (u ++ v) h
    rw [List.append_assoc] at e
    rcases split_at e with ⟨u', e1, e2⟩ | ⟨v', e1, e2⟩
    · subst e1 e2
      have := (IHk a x (u' ++ v) (by simp)).relR hr
      simpa using this
    · rcases split_at e1 with ⟨r2, e3, e4⟩ | ⟨v2, e3, e4⟩
      · -- the letter is of the ring
        subst e3 e4 e2
        refine .inl ⟨r2 ++ v', n, ?_, by omega, ?_⟩
        · have := R_rot G hr
          simpa using this
        · have h1 := A.putW v' (u := u) (v := v) h.A
          have h2 := A.putW' r2 (u := u ++ v' ++ G.I v') (v := v) (by simpa using h1)
          simpa using h2
      · subst e3 e4 e2
        have z := (IHk (u ++ v2) x b (by simp)).mirror'
        have z := Pl.relR (b := G.I v2) (v := G.I u) (by simpa using z) (R_I G hr)
        exact Pl.mirror (by simpa using z)
  | put y h =>
    rename_i k u v
    have IHk := IH k (by omega) n (u ++ v) h
    rcases split_at e with ⟨u', e1, e2⟩ | ⟨v', e1, e2⟩
    · subst e1 e2
      exact (IHk a x (u' ++ v) (by simp)).putR y
    · cases v' with
      | nil =>
        simp at e1 e2
        obtain ⟨e3, e4⟩ := e1
        subst e3 e4 e2
        exact .inr (.inl ⟨[], v, 0, 0, k, n, rfl, .nil, h, by omega, by omega⟩)
      | cons y' v' =>
        injection e1 with e3 e4
        subst e3
        cases v' with
        | nil =>
          simp at e4
          obtain ⟨e5, e6⟩ := e4
          subst e5 e6 e2
          exact .inr (.inr ⟨u, [], 0, 0, k, n, by simp [G.iv2], .nil, h, by omega, by omega⟩)
        | cons y'' v' =>
          injection e4 with e5 e6
          subst e5 e6 e2
          have z := (IHk (u ++ v') x b (by simp)).mirror'
          have z := Pl.putR (b := G.I v') (v := G.I u) y (by simpa using z)
          exact Pl.mirror (by simpa [G.iv2] using z)
  | out y h =>
    rename_i k u v
    have IHk := IH k (by omega) n _ h
    have IH' : ∀ j, j ≤ k → ∀ n w, Ar G j n w → ∀ a x b, w = a ++ x :: b → Pl G j n a x b := fun j hj n w h a x b e => IH j (by omega) n w h a x b e
    rcases split_at e with ⟨u', e1, e2⟩ | ⟨v', e1, e2⟩
    · subst e1 e2
      exact Pl.outR IH' y (IHk a x (u' ++ y :: G.iv y :: v) (by simp))
    · subst e1 e2
      have z := (IHk (u ++ y :: G.iv y :: v') x b (by simp)).mirror'
      have z := Pl.outR IH' (b := G.I v') (v := G.I u) y (by simpa [G.iv2] using z)
      exact Pl.mirror (by simpa using z)
end DN
namespace DN
variable {α : Type} {G : Grp α}
theorem A.peel {n : Nat} {w : List α} (h : A G n w) {a b : List α} {x : α} (e : w = a ++ x :: b) :
    (∃ s n', G.R (x :: s) ∧ n' + 1 ≤ n ∧ A G n' (a ++ G.I s ++ b)) ∨
    (∃ c d n1 n2, b = c ++ G.iv x :: d ∧ A G n1 c ∧ A G n2 (a ++ d) ∧ n1 + n2 ≤ n) ∨
    (∃ c d n1 n2, a = c ++ G.iv x :: d ∧ A G n1 d ∧ A G n2 (c ++ b) ∧ n1 + n2 ≤ n) := by
  obtain ⟨k, m, hm, h⟩ := h
  rcases DN.peel k m w h a x b e with ⟨s, n', hr, hn, h⟩ | ⟨c, d, k1, n1, k2, n2, e, h1, h2, hk, hn⟩ | ⟨c, d, k1, n1, k2, n2, e, h1, h2, hk, hn⟩
  · exact .inl ⟨s, n', hr, by omega, h⟩
  · exact .inr (.inl ⟨c, d, n1, n2, e, h1.A, h2.A, by omega⟩)
  · exact .inr (.inr ⟨c, d, n1, n2, e, h1.A, h2.A, by omega⟩)
def Red (G : Grp α) (w : List α) : Prop := ∀ a x b, w ≠ a ++ x :: G.iv x :: b
theorem Red.sub {a v b : List α} (h : Red G (a ++ v ++ b)) : Red G v := fun c x d e => h (a ++ c) x (d ++ b) (by subst e; simp)
/-- without rings a word that is nothing is not reduced -/
theorem red_zero : ∀ {n : Nat} {w : List α}, w.length ≤ n → Red G w → A G 0 w → w = []
  | _, [], _, _, _ => rfl
  | n + 1, x :: w, hl, hr, h => by
    exfalso
    rcases h.peel (a := []) (x := x) (b := w) rfl with ⟨s, n', _, hn, _⟩ | ⟨c, d, n1, n2, e, h1, h2, hn⟩ | ⟨c, d, n1, n2, e, h1, h2, hn⟩
    · omega
    · subst e
      simp only [List.length_cons, List.length_append] at hl
      have rc : Red G c := Red.sub (a := [x]) (b := G.iv x :: d) (by simpa using hr)
      have ec := red_zero (n := n) (by omega) rc (h1.mono (by omega))
      subst ec
      exact hr [] x d rfl
    · simp at e
theorem least {P : Nat → Prop} {n : Nat} (h : P n) : ∃ m, m ≤ n ∧ P m ∧ ∀ k, k < m → ¬ P k := by
  induction n using Nat.strongRecOn with
  | ind n ih =>
    by_cases c : ∃ k, k < n ∧ P k
    · obtain ⟨k, hk, pk⟩ := c
      obtain ⟨m, h1, h2, h3⟩ := ih k hk pk
      exact ⟨m, by omega, h2, h3⟩
    · exact ⟨n, Nat.le_refl _, h, fun k hk pk => c ⟨k, hk, pk⟩⟩
/-- n rings, no fewer; and it does not come apart -/
structure Solid (G : Grp α) (n : Nat) (w : List α) : Prop where
  pos : 1 ≤ n
  ar : A G n w
  min : ∀ m, m < n → ¬ A G m w
  whole : ∀ a v b n1 n2, w = a ++ v ++ b → v ≠ [] → a ++ b ≠ [] → A G n1 v → A G n2 (a ++ b) → n < n1 + n2
theorem A.pair (x : α) : A G 0 [x, G.iv x] := by
  have := A.put (G := G) (u := []) (v := []) x A.nil
  simpa using this
theorem Solid.ne {n : Nat} {w : List α} (h : Solid G n w) : w ≠ [] := fun e => h.min 0 h.pos (by subst e; exact A.nil)
theorem Solid.red {n : Nat} {w : List α} (h : Solid G n w) : Red G w := fun a x b e => by
  subst e
  have o := h.ar.out x
  by_cases c : a ++ b = []
  · rw [c] at o
    obtain ⟨rfl, rfl⟩ := List.append_eq_nil_iff.mp c
    exact h.min 0 h.pos (A.pair x)
  · have := h.whole a [x, G.iv x] b 0 n (by simp) (by simp) c (A.pair x) o
    omega
theorem Solid.face {n : Nat} {w : List α} (h : Solid G n w) {a b : List α} {x : α} (e : w = a ++ x :: b) : ∃ s n', G.R (x :: s) ∧ n' + 1 ≤ n ∧ A G n' (a ++ G.I s ++ b) := by
  rcases h.ar.peel e with z | ⟨c, d, n1, n2, e2, h1, h2, hn⟩ | ⟨c, d, n1, n2, e2, h1, h2, hn⟩
  · exact z
  · exfalso
    subst e e2
    cases c with
    | nil => exact h.red a x d rfl
    | cons y c =>
      have := h.whole (a ++ [x]) (y :: c) (G.iv x :: d) n1 n2 (by simp) (by simp) (by simp) h1 (by simpa using h2.put x)
      omega
  · exfalso
    subst e e2
    cases d with
    | nil => exact h.red c (G.iv x) b (by simp [G.iv2])
    | cons y d =>
      have := h.whole (c ++ [G.iv x]) (y :: d) (x :: b) n1 n2 (by simp) (by simp) (by simp) h1 (by simpa using h2.put' x)
      omega
/-- two words side by side, of edges and of words that do not come apart -/
inductive Strip (G : Grp α) : Nat → List α → List α → Prop
  | nil : Strip G 0 [] []
  | edge {n : Nat} {T V : List α} (x : α) : Strip G n T V → Strip G n (T ++ [x]) (G.iv x :: V)
  | block {n m : Nat} {T V t v : List α} : Strip G n T V → t ≠ [] → v ≠ [] → Solid G m (t ++ v) → Strip G (n + m) (T ++ t) (v ++ V)
theorem Strip.ar {n : Nat} {T V : List α} (h : Strip G n T V) : A G n (T ++ V) := by
  induction h with
  | nil => exact A.nil
  | edge x h ih => simpa using ih.put x
  | block h ht hv hs ih =>
    have := hs.ar.ctx ih
    rw [Nat.add_comm]
    simpa using this
theorem Strip.join {n m : Nat} {T V T2 V2 : List α} (h : Strip G n T V) (k : Strip G m T2 V2) : Strip G (n + m) (T ++ T2) (V2 ++ V) := by
  induction k with
  | nil => simpa using h
  | edge x k ih => simpa using ih.edge x
  | block k ht hv hs ih =>
    have := ih.block ht hv hs
    simpa [Nat.add_assoc] using this
/-- nothing comes out of T, or of V, alone -/
def HV (G : Grp α) (N : Nat) (T V : List α) : Prop := ∀ a v b n1 n2, V = a ++ v ++ b → v ≠ [] → A G n1 v → A G n2 (T ++ a ++ b) → N < n1 + n2
def HT (G : Grp α) (N : Nat) (T V : List α) : Prop := ∀ a v b n1 n2, T = a ++ v ++ b → v ≠ [] → A G n1 v → A G n2 (a ++ b ++ V) → N < n1 + n2
theorem cut2 {u v a b c : List α} (h : u ++ v = a ++ b ++ c) : (∃ d, u = a ++ b ++ d ∧ c = d ++ v) ∨ (∃ d, v = d ++ b ++ c ∧ a = u ++ d) ∨ (∃ b1 b2, b = b1 ++ b2 ∧ b1 ≠ [] ∧ b2 ≠ [] ∧ u = a ++ b1 ∧ v = b2 ++ c) := by
  rcases List.append_eq_append_iff.mp h with ⟨d, h1, h2⟩ | ⟨d, h1, h2⟩
  · -- a ++ b = u ++ d
    rcases List.append_eq_append_iff.mp h1 with ⟨e, h3, h4⟩ | ⟨e, h3, h4⟩
    · -- u = a ++ e, b = e ++ d
      by_cases he : e = []
      · subst he
        simp at h3 h4
        subst h3 h4
        exact .inr (.inl ⟨[], by simpa using h2, by simp⟩)
      · by_cases hd : d = []
        · subst hd
          simp at h4 h2
          subst h4
          exact .inl ⟨[], by simpa using h3, by simpa using h2.symm⟩
        · exact .inr (.inr ⟨e, d, h4, he, hd, h3, h2⟩)
    · -- a = u ++ e, d = e ++ b
      subst h4
      exact .inr (.inl ⟨e, by simpa using h2, h3⟩)
  · exact .inl ⟨d, h1, h2⟩
theorem strip_of : ∀ (L N : Nat) (T V : List α), T.length + V.length ≤ L → A G N (T ++ V) → HV G N T V → HT G N T V → ∃ N', N' ≤ N ∧ Strip G N' T V := by
  intro L
  induction L with
  | zero =>
    intro N T V hl h hv ht
    have : T = [] := List.length_eq_zero_iff.mp (by omega)
    have : V = [] := List.length_eq_zero_iff.mp (by omega)
    subst T V
    exact ⟨0, Nat.zero_le _, .nil⟩
  | succ L ih =>
    intro N T V hl h hv ht
    by_cases t0 : T = []
    · subst t0
      by_cases v0 : V = []
      · subst v0; exact ⟨0, Nat.zero_le _, .nil⟩
      · exact absurd (hv [] V [] N 0 (by simp) v0 (by simpa using h) (by simpa using A.nil)) (by omega)
    by_cases v0 : V = []
    · subst v0
      exact absurd (ht [] T [] N 0 (by simp) t0 (by simpa using h) (by simpa using A.nil)) (by omega)
    by_cases j : ∃ T' x V', T = T' ++ [x] ∧ V = G.iv x :: V'
    · obtain ⟨T', x, V', rfl, rfl⟩ := j
      simp only [List.length_append, List.length_cons, List.length_nil] at hl
      obtain ⟨N', h1, h2⟩ := ih N T' V' (by omega) (by
        have : A G N (T' ++ x :: G.iv x :: V') := by simpa using h
        exact this.out x) (by
        intro a v b n1 n2 e hne h1 h2
        subst e
        refine hv (G.iv x :: a) v b n1 n2 (by simp) hne h1 ?_
        have := A.put (u := T') (v := a ++ b) x (by simpa using h2)
        simpa using this) (by
        intro a v b n1 n2 e hne h1 h2
        subst e
        refine ht a v (b ++ [x]) n1 n2 (by simp) hne h1 ?_
        have := A.put (u := a ++ b) (v := V') x h2
        simpa using this)
      exact ⟨N', h1, h2.edge x⟩
    by_cases c : ∃ a v b n1 n2, T ++ V = a ++ v ++ b ∧ v ≠ [] ∧ a ++ b ≠ [] ∧ A G n1 v ∧ A G n2 (a ++ b) ∧ n1 + n2 ≤ N
    · obtain ⟨a, v, b, n1, n2, e, hne, hab, h1, h2, hn⟩ := c
      rcases cut2 e with ⟨d, e1, e2⟩ | ⟨d, e1, e2⟩ | ⟨T2, V1, e1, g1, g2, e2, e3⟩
      · subst e1 e2
        exact absurd (ht a v d n1 n2 rfl hne h1 (by simpa using h2)) (by omega)
      · subst e1 e2
        exact absurd (hv d v b n1 n2 rfl hne h1 (by simpa using h2)) (by omega)
      · subst e1 e2 e3
        simp only [List.length_append] at hl
        have l1 : 1 ≤ T2.length := by cases T2 <;> simp_all
        have l2 : 1 ≤ V1.length := by cases V1 <;> simp_all
        have l3 : 1 ≤ a.length + b.length := by
          cases a with
          | cons y a => simp; omega
          | nil => cases b with
            | cons y b => simp
            | nil => simp at hab
        obtain ⟨N1, k1, s1⟩ := ih n1 T2 V1 (by omega) h1 (by
          intro a' v' b' m1 m2 e' hne' z1 z2
          subst e'
          have := hv a' v' (b' ++ b) m1 (m2 + n2) (by simp) hne' z1 (by
            have := z2.ctx (a := a) (b := b) h2
            simpa using this)
          omega) (by
          intro a' v' b' m1 m2 e' hne' z1 z2
          subst e'
          have := ht (a ++ a') v' b' m1 (m2 + n2) (by simp) hne' z1 (by
            have := z2.ctx (a := a) (b := b) h2
            simpa using this)
          omega)
        obtain ⟨N2, k2, s2⟩ := ih n2 a b (by omega) h2 (by
          intro a' v' b' m1 m2 e' hne' z1 z2
          subst e'
          have := hv (V1 ++ a') v' b' m1 (n1 + m2) (by simp) hne' z1 (by
            have := h1.ctx (a := a) (b := a' ++ b') (by simpa using z2)
            simpa using this)
          omega) (by
          intro a' v' b' m1 m2 e' hne' z1 z2
          subst e'
          have := ht a' v' (b' ++ T2) m1 (n1 + m2) (by simp) hne' z1 (by
            have := h1.ctx (a := a' ++ b') (b := b) (by simpa using z2)
            simpa using this)
          omega)
        exact ⟨N2 + N1, by omega, s2.join s1⟩
    · obtain ⟨m, hm, h1, h2⟩ := least (P := fun n => A G n (T ++ V)) h
      have so : Solid G m (T ++ V) := by
        refine ⟨?_, h1, h2, fun a v b n1 n2 e hne hab z1 z2 => ?_⟩
        · -- m = 0 : the last letter of T has a partner
          apply Classical.byContradiction
          intro m0
          have m0 : m = 0 := by omega
          subst m0
          obtain ⟨T', x, rfl⟩ : ∃ T' x, T = T' ++ [x] := ⟨T.dropLast, T.getLast t0, (List.dropLast_concat_getLast t0).symm⟩
          rcases h1.peel (a := T') (x := x) (b := V) (by simp) with ⟨s, n', _, hn, _⟩ | ⟨c', d, n1, n2, e, z1, z2, hn⟩ | ⟨c', d, n1, n2, e, z1, z2, hn⟩
          · omega
          · by_cases hc : c' = []
            · subst hc
              exact j ⟨T', x, d, rfl, by simpa using e⟩
            · have := hv [] c' (G.iv x :: d) n1 n2 (by simpa using e) hc z1 (by
                have := A.put (u := T') (v := d) x z2
                simpa using this)
              omega
          · by_cases hd : d = []
            · subst hd
              subst e
              have := ht c' [G.iv x, x] [] 0 n2 (by simp) (by simp) (by
                have := A.pair (G := G) (G.iv x)
                rwa [G.iv2] at this) (by simpa using z2)
              omega
            · subst e
              have := ht (c' ++ [G.iv x]) d [x] n1 n2 (by simp) hd z1 (by
                have := A.put' (u := c') (v := V) x z2
                simpa using this)
              omega
        · apply Classical.byContradiction
          intro q
          exact c ⟨a, v, b, n1, n2, e, hne, hab, z1, z2, by omega⟩
      have s := Strip.block (T := []) (V := []) .nil t0 v0 so
      exact ⟨m, hm, by simpa using s⟩
end DN
namespace DN
variable {α : Type} {G : Grp α}
/-- the number of a ring, its letter here, the rest of its turn from here -/
abbrev Lb (α : Type) := Nat × α × List α
def tn (a : Lb α) : List α := a.2.1 :: a.2.2
def key (a : Lb α) : Nat × List α := (a.1, tn a)
/-- what goes on behind -/
def sc (a : Lb α) : Nat × List α := (a.1, a.2.2 ++ [a.2.1])
def wd (l : List (Lb α)) : List α := l.map fun a => a.2.1
@[simp] theorem wd_nil : wd ([] : List (Lb α)) = [] := rfl
@[simp] theorem wd_cons (a : Lb α) (l : List (Lb α)) : wd (a :: l) = a.2.1 :: wd l := rfl
@[simp] theorem wd_app (k l : List (Lb α)) : wd (k ++ l) = wd k ++ wd l := by simp [wd]
@[simp] theorem wd_len (l : List (Lb α)) : (wd l).length = l.length := by simp [wd]
open Classical in
noncomputable def starts : Nat × List α → List (Lb α) → List (Lb α)
  | _, [] => []
  | e, a :: l => (if e = key a then [] else [a]) ++ starts (sc a) l
theorem starts_nil (e : Nat × List α) : starts e ([] : List (Lb α)) = [] := rfl
theorem starts_yes {e : Nat × List α} {a : Lb α} {l : List (Lb α)} (h : e = key a) : starts e (a :: l) = starts (sc a) l := by
  simp only [starts]
  rw [if_pos h]; rfl
theorem starts_no {e : Nat × List α} {a : Lb α} {l : List (Lb α)} (h : e ≠ key a) : starts e (a :: l) = a :: starts (sc a) l := by
  simp only [starts]
  rw [if_neg h]; rfl
theorem starts_sub : ∀ {l : List (Lb α)} {e : Nat × List α} {a : Lb α}, a ∈ starts e l → a ∈ l
  | b :: l, e, a, h => by
    by_cases c : e = key b
    · rw [starts_yes c] at h
      exact List.mem_cons_of_mem _ (starts_sub h)
    · rw [starts_no c] at h
      rcases List.mem_cons.mp h with rfl | h
      · exact List.mem_cons_self ..
      · exact List.mem_cons_of_mem _ (starts_sub h)
/-- where it goes on behind the last one -/
def lst (e : Nat × List α) : List (Lb α) → Nat × List α
  | [] => e
  | a :: l => lst (sc a) l
theorem starts_app : ∀ {k l : List (Lb α)} {e : Nat × List α}, starts e (k ++ l) = starts e k ++ starts (lst e k) l
  | [], l, e => rfl
  | a :: k, l, e => by
    show starts e (a :: (k ++ l)) = starts e (a :: k) ++ starts (lst (sc a) k) l
    by_cases c : e = key a
    · rw [starts_yes c, starts_yes c, starts_app]
    · rw [starts_no c, starts_no c, starts_app]; rfl
theorem lst_app : ∀ {k l : List (Lb α)} {e : Nat × List α}, lst e (k ++ l) = lst (lst e k) l
  | [], _, _ => rfl
  | a :: k, l, e => lst_app (k := k)
noncomputable def lin (l : List (Lb α)) : List (Lb α) := starts (0, []) l
noncomputable def cyc (l : List (Lb α)) : List (Lb α) := starts (lst (0, []) l) l
theorem key_ne {a : Lb α} {i : Nat} : (i, []) ≠ key a := fun h => by
  have := congrArg Prod.snd h
  cases this
theorem lin_cons (a : Lb α) (l : List (Lb α)) : lin (a :: l) = a :: starts (sc a) l := starts_no key_ne
abbrev nm (i : Nat) (l : List (Lb α)) : Nat := l.countP fun a => a.1 == i
/-- at most one start more or fewer by what is ahead -/
theorem starts_le (e e' : Nat × List α) (l : List (Lb α)) : (starts e l).length ≤ (starts e' l).length + 1 := by
  cases l with
  | nil => simp [starts_nil]
  | cons a l =>
    by_cases c : e = key a <;> by_cases c' : e' = key a
    · rw [starts_yes c, starts_yes c']; omega
    · rw [starts_yes c, starts_no c']; simp; omega
    · rw [starts_no c, starts_yes c']; simp
    · rw [starts_no c, starts_no c']; simp
theorem starts_lin (e : Nat × List α) (l : List (Lb α)) : (starts e l).length ≤ (lin l).length := by
  cases l with
  | nil => simp [starts_nil]
  | cons a l =>
    rw [lin_cons]
    by_cases c : e = key a
    · rw [starts_yes c]; simp
    · rw [starts_no c]; simp
theorem starts_nm (e : Nat × List α) (l : List (Lb α)) (i : Nat) : nm i (starts e l) ≤ nm i (lin l) := by
  cases l with
  | nil => simp [starts_nil]
  | cons a l =>
    rw [lin_cons]
    by_cases c : e = key a
    · rw [starts_yes c]; simp [nm, List.countP_cons]
    · rw [starts_no c]; simp [nm, List.countP_cons]
/-- the begins of two parts of a round row -/
theorem two_parts {a b : Lb α} {k l : List (Lb α)} : ((lin (a :: k)).length + (lin (b :: l)).length ≤ (cyc ((a :: k) ++ (b :: l))).length + 2) ∧ ∀ i, nm i (lin (b :: l)) ≤ nm i (cyc ((a :: k) ++ (b :: l))) + nm i (lin (a :: k)) := by
  have e1 : cyc ((a :: k) ++ (b :: l)) = starts (lst (0, []) ((a :: k) ++ (b :: l))) (a :: k) ++ starts (lst (0, []) (a :: k)) (b :: l) := by
    unfold cyc
    rw [starts_app]
    rfl
  generalize hE : lst (0, []) ((a :: k) ++ (b :: l)) = E at e1
  generalize hE2 : lst (0, []) (a :: k) = E2 at e1
  rw [e1, lin_cons, lin_cons]
  constructor
  · have h1 : (starts (sc a) k).length ≤ (starts E (a :: k)).length := by
      by_cases c : E = key a
      · rw [starts_yes c]; exact Nat.le_refl _
      · rw [starts_no c]; simp
    have h2 : (starts (sc b) l).length ≤ (starts E2 (b :: l)).length := by
      by_cases c : E2 = key b
      · rw [starts_yes c]; exact Nat.le_refl _
      · rw [starts_no c]; simp
    simp only [List.length_append, List.length_cons]
    omega
  · intro i
    have h1 : nm i (starts (sc b) l) ≤ nm i (starts E2 (b :: l)) := by
      by_cases c : E2 = key b
      · rw [starts_yes c]; exact Nat.le_refl _
      · rw [starts_no c]; simp [nm, List.countP_cons]
    have ap : nm i (starts E (a :: k) ++ starts E2 (b :: l)) = nm i (starts E (a :: k)) + nm i (starts E2 (b :: l)) := by simp [nm]
    rw [ap]
    have cs : ∀ (z : Lb α) m, nm i (z :: m) = nm i m + (if z.1 = i then 1 else 0) := fun z m => by simp [nm, List.countP_cons]
    by_cases c : E2 = key b
    · -- b goes on from the last of a :: k
      rw [cs b]
      by_cases hb : b.1 = i
      · rw [if_pos hb]
        -- some letter of a :: k has the number i, so some begin has
        have same : ∀ (m : List (Lb α)) (z : Lb α), (lst (sc z) m).1 = i → 1 ≤ nm i (z :: starts (sc z) m) := by
          intro m
          induction m with
          | nil =>
            intro z hz
            have hz : z.1 = i := hz
            rw [cs, if_pos hz]; omega
          | cons y m ih =>
            intro z hz
            have := ih y hz
            by_cases q : sc z = key y
            · rw [starts_yes q]
              have yz : y.1 = z.1 := (congrArg Prod.fst q).symm
              rw [cs] at this ⊢
              rw [yz] at this
              exact this
            · rw [starts_no q, cs z]
              omega
        have e2 : (lst (sc a) k).1 = i := by
          have : lst (sc a) k = E2 := hE2
          rw [this, c]
          exact hb
        have := same k a e2
        omega
      · rw [if_neg hb]; omega
    · rw [starts_no c] at h1 ⊢
      omega
def Ch : List (Lb α) → Prop
  | [] => True
  | [_] => True
  | a :: b :: l => sc a = key b ∧ Ch (b :: l)
theorem Ch.snoc : ∀ {r : List (Lb α)} {z a : Lb α}, Ch (r ++ [z]) → sc z = key a → Ch (r ++ [z] ++ [a])
  | [], z, a, _, h => ⟨h, trivial⟩
  | [y], z, a, h1, h => ⟨h1.1, h, trivial⟩
  | y :: y' :: r, z, a, h1, h => ⟨h1.1, Ch.snoc (r := y' :: r) h1.2 h⟩
/-- bounded runs bound all -/
theorem run_sum {L : List (Lb α)} {P : Nat → Bool} {c d B : Nat} (H : ∀ X r Y, L = X ++ r ++ Y → r ≠ [] → Ch r → (∀ a ∈ r, P a.1 = true) → c * r.length + d ≤ B) :
    c * L.countP (fun a => P a.1) + d * (lin L).countP (fun a => P a.1) ≤ B * (lin L).countP (fun a => P a.1) := by
  have cs : ∀ (z : Lb α) m, (z :: m).countP (fun a => P a.1) = m.countP (fun a => P a.1) + (if P z.1 = true then 1 else 0) := fun z m => by simp [List.countP_cons]
  have main : ∀ (M X r : List (Lb α)) (z : Lb α), L = X ++ (r ++ [z]) ++ M → Ch (r ++ [z]) → (∀ a ∈ r, a.1 = z.1) →
      (P z.1 = true → c * (M.countP (fun a => P a.1) + (r.length + 1)) + d * ((starts (sc z) M).countP (fun a => P a.1) + 1) ≤ B * ((starts (sc z) M).countP (fun a => P a.1) + 1)) ∧
      (P z.1 = false → c * M.countP (fun a => P a.1) + d * (starts (sc z) M).countP (fun a => P a.1) ≤ B * (starts (sc z) M).countP (fun a => P a.1)) := by
    intro M
    induction M with
    | nil =>
      intro X r z e hc hr
      constructor
      · intro hp
        have := H X (r ++ [z]) [] e (by simp) hc (fun a ha => by
          rcases List.mem_append.mp ha with ha | ha
          · rw [hr a ha]; exact hp
          · rw [List.mem_singleton.mp ha]; exact hp)
        simp [starts_nil] at this ⊢
        exact this
      · intro _
        simp [starts_nil]
    | cons y M ih =>
      intro X r z e hc hr
      by_cases q : sc z = key y
      · have yz : y.1 = z.1 := (congrArg Prod.fst q).symm
        obtain ⟨i1, i2⟩ := ih X (r ++ [z]) y (by rw [e]; simp) (hc.snoc q) (fun a ha => by
          rcases List.mem_append.mp ha with ha | ha
          · rw [hr a ha, yz]
          · rw [List.mem_singleton.mp ha, yz])
        rw [starts_yes q, cs y]
        rw [yz] at i1 i2 ⊢
        constructor
        · intro hp
          have := i1 hp
          rw [if_pos hp]
          simp only [List.length_append, List.length_cons, List.length_nil] at this
          rw [show List.countP (fun a => P a.1) M + 1 + (r.length + 1) = List.countP (fun a => P a.1) M + (r.length + (0 + 1) + 1) by omega]
          exact this
        · intro hp
          rw [hp]
          simpa using i2 hp
      · obtain ⟨i1, i2⟩ := ih (X ++ (r ++ [z])) [] y (by rw [e]; simp) trivial (fun a ha => nomatch ha)
        have hz : P z.1 = true → c * (r.length + 1) + d ≤ B := fun hp => by
          have := H X (r ++ [z]) (y :: M) e (by simp) hc (fun a ha => by
            rcases List.mem_append.mp ha with ha | ha
            · rw [hr a ha]; exact hp
            · rw [List.mem_singleton.mp ha]; exact hp)
          simpa using this
        rw [starts_no q, cs y, cs y]
        have key2 : c * (M.countP (fun a => P a.1) + (if P y.1 = true then 1 else 0)) + d * ((starts (sc y) M).countP (fun a => P a.1) + (if P y.1 = true then 1 else 0)) ≤ B * ((starts (sc y) M).countP (fun a => P a.1) + (if P y.1 = true then 1 else 0)) := by
          cases hy : P y.1 with
          | true => simpa using i1 hy
          | false => simpa using i2 hy
        generalize M.countP (fun a => P a.1) + (if P y.1 = true then 1 else 0) = u at *
        generalize (starts (sc y) M).countP (fun a => P a.1) + (if P y.1 = true then 1 else 0) = v at *
        constructor
        · intro hp
          have h1 := hz hp
          rw [Nat.mul_add, Nat.mul_add d, Nat.mul_add B]
          omega
        · intro _
          exact key2
  cases L with
  | nil => simp [lin, starts_nil]
  | cons z M =>
    obtain ⟨i1, i2⟩ := main M [] [] z rfl trivial (fun a ha => nomatch ha)
    rw [lin_cons, cs z, cs z]
    cases hp : P z.1 with
    | true => simpa using i1 hp
    | false => simpa using i2 hp
/-- a run spells its first turn -/
theorem Ch.spell : ∀ {l : List (Lb α)} {a : Lb α}, Ch (a :: l) → ∀ q, q ≤ (tn a).length → q ≤ l.length + 1 → (wd (a :: l)).take q = (tn a).take q
  | _, _, _, 0, _, _ => rfl
  | [], a, _, 1, _, _ => rfl
  | [], a, _, q + 2, _, h => by simp at h
  | b :: l, a, h, q + 1, h1, h2 => by
    obtain ⟨i, x, s⟩ := a
    have e : tn b = s ++ [x] := (congrArg Prod.snd h.1).symm
    have hl : (tn b).length = s.length + 1 := by rw [e]; simp
    have h1 : q + 1 ≤ s.length + 1 := h1
    have := Ch.spell (l := l) (a := b) h.2 q (by omega) (by simp at h2; omega)
    show (x :: wd (b :: l)).take (q + 1) = (x :: s).take (q + 1)
    rw [List.take_succ_cons, List.take_succ_cons, this, e, List.take_append_of_le_length (by omega)]
theorem Ch.ids : ∀ {l : List (Lb α)} {a : Lb α}, Ch (a :: l) → ∀ b ∈ a :: l, b.1 = a.1
  | [], a, _, b, hb => by rw [List.mem_singleton.mp hb]
  | c :: l, a, h, b, hb => by
    rcases List.mem_cons.mp hb with rfl | hb
    · rfl
    · rw [Ch.ids h.2 b hb]
      exact (congrArg Prod.fst h.1).symm
def sumN : Nat → (Nat → Nat) → Nat
  | 0, _ => 0
  | n + 1, f => sumN n f + f n
theorem sumN_le {F : Nat} {f g : Nat → Nat} (h : ∀ i, i < F → f i ≤ g i) : sumN F f ≤ sumN F g := by
  induction F with
  | zero => exact Nat.le_refl _
  | succ n ih =>
    have := ih fun i hi => h i (by omega)
    have := h n (by omega)
    simp only [sumN]; omega
theorem sumN_eq {F : Nat} {f g : Nat → Nat} (h : ∀ i, i < F → f i = g i) : sumN F f = sumN F g :=
  Nat.le_antisymm (sumN_le fun i hi => Nat.le_of_eq (h i hi)) (sumN_le fun i hi => Nat.le_of_eq (h i hi).symm)
theorem sumN_add {F : Nat} {f g : Nat → Nat} : sumN F (fun i => f i + g i) = sumN F f + sumN F g := by
  induction F with
  | zero => rfl
  | succ n ih => simp only [sumN, ih]; omega
theorem sumN_const {F c : Nat} : sumN F (fun _ => c) = c * F := by
  induction F with
  | zero => rfl
  | succ n ih => simp only [sumN, ih, Nat.mul_succ]
theorem sumN_mul {F c : Nat} {f : Nat → Nat} : sumN F (fun i => c * f i) = c * sumN F f := by
  induction F with
  | zero => rfl
  | succ n ih => simp only [sumN, ih, Nat.mul_add]
theorem sumN_one {F a : Nat} : sumN F (fun i => if a = i then 1 else 0) = if a < F then 1 else 0 := by
  induction F with
  | zero => rfl
  | succ n ih =>
    simp only [sumN, ih]
    by_cases h1 : a < n
    · rw [if_pos h1, if_neg (by omega), if_pos (by omega)]
    · by_cases h2 : a = n
      · rw [if_neg h1, if_pos h2, if_pos (by omega)]
      · rw [if_neg h1, if_neg h2, if_neg (by omega)]
theorem sumN_nm {F : Nat} : ∀ {l : List (Lb α)}, (∀ a ∈ l, a.1 < F) → sumN F (fun i => nm i l) = l.length
  | [], _ => by
    have : sumN F (fun i => nm i ([] : List (Lb α))) = sumN F (fun _ => 0) := sumN_eq fun i _ => rfl
    rw [this, sumN_const]; simp
  | a :: l, h => by
    have e : ∀ i, nm i (a :: l) = nm i l + (if a.1 = i then 1 else 0) := fun i => by simp [nm, List.countP_cons]
    rw [sumN_eq fun i _ => e i, sumN_add, sumN_nm fun b hb => h b (List.mem_cons_of_mem _ hb), sumN_one, if_pos (h a (List.mem_cons_self ..))]; rfl
structure JD (G : Grp α) (n : Nat) (w : List α) (L : List (Lb α)) (F : Nat) (l p : Nat → Nat) : Prop where
  wd : wd L = w
  lab : ∀ X a Y, L = X ++ a :: Y → a.1 < F ∧ G.R (tn a) ∧ (tn a).length = l a.1 ∧ ∃ n', n' + 1 ≤ n ∧ A G n' (DN.wd X ++ G.I a.2.2 ++ DN.wd Y)
  pos : ∀ i, i < F → 1 ≤ l i
  cnt : ∀ i, i < F → 6 * l i + min 1 (p i) ≤ l i * p i + 6 * nm i L
  st : ∀ i, i < F → nm i (cyc L) ≤ p i
  sum : 6 + sumN F p + 2 * (cyc L).length ≤ 6 * F
theorem one_face {l p c e d m : Nat} (hl : 1 ≤ l) (h1 : 2 * m ≤ l * c) (h2 : 6 * l + min 1 p ≤ l * p + 6 * m) (h3 : e ≤ p) (h4 : c ≤ e + d) : 6 ≤ p + 2 * c + d := by
  rcases c with _ | _ | _ | c
  · have m0 : m = 0 := by simp at h1; omega
    subst m0
    apply Classical.byContradiction
    intro q
    have : l * p ≤ l * 5 := Nat.mul_le_mul_left _ (by omega)
    omega
  · apply Classical.byContradiction
    intro q
    have : l * p ≤ l * 3 := Nat.mul_le_mul_left _ (by omega)
    rcases p with _ | p
    · omega
    · have : min 1 (p + 1) = 1 := by omega
      omega
  · omega
  · omega
/-- no run may be so short everywhere -/
theorem JD.no {n : Nat} {w : List α} {L : List (Lb α)} {F : Nat} {l p : Nat → Nat} (J : JD G n w L F l p) (hw : w ≠ []) (H : ∀ X a r Y, L = X ++ (a :: r) ++ Y → Ch (a :: r) → 2 * (r.length + 1) ≤ l a.1) : False := by
  cases L with
  | nil => exact hw J.wd.symm
  | cons a0 L0 =>
    have ids : ∀ b ∈ a0 :: L0, b.1 < F := fun b hb => by
      obtain ⟨X, Y, e⟩ := List.append_of_mem hb
      exact (J.lab X b Y e).1
    have cs : ∀ (z : Lb α) m i, nm i (z :: m) = nm i m + (if z.1 = i then 1 else 0) := fun z m i => by simp [nm, List.countP_cons]
    have hf : ∀ i, i < F → 6 ≤ (p i + 2 * nm i (lin (a0 :: L0))) + (if a0.1 = i then 1 else 0) := by
      intro i hi
      have r1 := run_sum (L := a0 :: L0) (P := fun j => j == i) (c := 2) (d := 0) (B := l i) (by
        intro X r Y e hr hc hp
        cases r with
        | nil => exact absurd rfl hr
        | cons a r =>
          have := H X a r Y e hc
          have hi' : a.1 = i := by simpa using hp a (List.mem_cons_self ..)
          rw [hi'] at this
          simpa using this)
      have r1 : 2 * nm i (a0 :: L0) ≤ l i * nm i (lin (a0 :: L0)) := by simpa using r1
      have h4 : nm i (lin (a0 :: L0)) ≤ nm i (cyc (a0 :: L0)) + (if a0.1 = i then 1 else 0) := by
        rw [lin_cons, cs]
        unfold cyc
        generalize lst (0, []) (a0 :: L0) = E
        by_cases c : E = key a0
        · rw [starts_yes c]; exact Nat.le_refl _
        · rw [starts_no c, cs]; omega
      exact one_face (J.pos i hi) r1 (J.cnt i hi) (J.st i hi) h4
    have s1 := sumN_le hf
    rw [sumN_const, sumN_add, sumN_add, sumN_mul, sumN_one, sumN_nm (l := lin (a0 :: L0)) fun b hb => ids b (starts_sub hb)] at s1
    have s2 : (lin (a0 :: L0)).length ≤ (cyc (a0 :: L0)).length + 1 := starts_le _ _ _
    have s3 := J.sum
    split at s1 <;> omega
end DN
namespace DN
variable {α : Type} {G : Grp α}
def Thin (G : Grp α) : Prop := ∀ g h u g' h', G.R g → G.R h → g ≠ h → g = u ++ g' → h = u ++ h' → 6 * u.length < g.length
theorem piece (th : Thin G) {a : Lb α} {r : List (Lb α)} {h h' : List α} (hc : Ch (a :: r)) (ha : G.R (tn a)) (hh : G.R h) (e : h = wd (a :: r) ++ h') (ne : tn a ≠ h) : 6 * (r.length + 1) + 1 ≤ (tn a).length ∧ 6 * (r.length + 1) + 1 ≤ h.length := by
  have lw : (wd (a :: r)).length = r.length + 1 := by rw [wd_len]; rfl
  by_cases q : r.length + 1 ≤ (tn a).length
  · have sp := hc.spell (r.length + 1) q (Nat.le_refl _)
    rw [List.take_of_length_le (by omega)] at sp
    have e2 : tn a = wd (a :: r) ++ (tn a).drop (r.length + 1) := by rw [sp]; exact (List.take_append_drop _ _).symm
    have t1 := th _ _ _ _ _ ha hh ne e2 e
    have t2 := th _ _ _ _ _ hh ha (fun z => ne z.symm) e e2
    omega
  · have sp := hc.spell (tn a).length (Nat.le_refl _) (by omega)
    rw [List.take_length] at sp
    have e2 : h = tn a ++ ((wd (a :: r)).drop (tn a).length ++ h') := by
      rw [e, ← List.append_assoc]
      congr 1
      rw [← sp]
      have := List.take_append_drop (tn a).length (wd (a :: r))
      have l2 : ((wd (a :: r)).take (tn a).length).length = (tn a).length := by rw [List.length_take]; omega
      rw [l2]
      exact this.symm
    have t1 := th _ _ _ _ _ ha hh ne (List.append_nil _).symm e2
    omega
theorem nm_cons (z : Lb α) (m : List (Lb α)) (i : Nat) : nm i (z :: m) = nm i m + (if z.1 = i then 1 else 0) := by simp [nm, List.countP_cons]
theorem nm_app (k m : List (Lb α)) (i : Nat) : nm i (k ++ m) = nm i k + nm i m := by simp [nm]
theorem nm_none {l : List (Lb α)} {i : Nat} (h : ∀ a ∈ l, a.1 ≠ i) : nm i l = 0 := by
  unfold nm
  rw [List.countP_eq_zero]
  intro a ha
  simpa using h a ha
theorem nm_starts_le (e e' : Nat × List α) (l : List (Lb α)) (i : Nat) : nm i (starts e l) ≤ nm i (starts e' l) + 1 := by
  cases l with
  | nil => simp [starts_nil]
  | cons a l =>
    by_cases c : e = key a <;> by_cases c' : e' = key a
    · rw [starts_yes c, starts_yes c']; omega
    · rw [starts_yes c, starts_no c', nm_cons]; omega
    · rw [starts_no c, starts_yes c', nm_cons]; split <;> omega
    · rw [starts_no c, starts_no c']; omega
theorem nm_starts_of {e e' : Nat × List α} {l : List (Lb α)} {i : Nat} (h : e'.1 ≠ i) : nm i (starts e l) ≤ nm i (starts e' l) := by
  cases l with
  | nil => simp [starts_nil]
  | cons a l =>
    by_cases c' : e' = key a
    · have ai : a.1 ≠ i := fun z => h (by rw [c']; exact z)
      rw [starts_yes c']
      by_cases c : e = key a
      · rw [starts_yes c]; omega
      · rw [starts_no c, nm_cons, if_neg ai]; omega
    · rw [starts_no c', nm_cons]
      by_cases c : e = key a
      · rw [starts_yes c]; omega
      · rw [starts_no c, nm_cons]; omega
/-- other numbers -/
def sh (c : Nat) (a : Lb α) : Lb α := (a.1 + c, a.2.1, a.2.2)
theorem wd_sh (c : Nat) (l : List (Lb α)) : wd (l.map (sh c)) = wd l := by simp [wd, sh]
theorem starts_sh (c : Nat) : ∀ (l : List (Lb α)) (i : Nat) (e : List α), starts (i + c, e) (l.map (sh c)) = (starts (i, e) l).map (sh c)
  | [], _, _ => rfl
  | a :: l, i, e => by
    have s : sc (sh c a) = ((sc a).1 + c, (sc a).2) := rfl
    have ih := starts_sh c l (sc a).1 (sc a).2
    rw [List.map_cons]
    by_cases q : (i, e) = key a
    · have q' : (i + c, e) = key (sh c a) := by
        have h1 : i = a.1 := congrArg Prod.fst q
        have h2 : e = tn a := congrArg Prod.snd q
        subst h1 h2
        rfl
      rw [starts_yes q, starts_yes q', s, ih]
    · have q' : (i + c, e) ≠ key (sh c a) := fun z => q (by
        have h1 : i + c = a.1 + c := congrArg Prod.fst z
        have h2 : e = tn a := congrArg Prod.snd z
        have h1 : i = a.1 := by omega
        subst h1 h2
        rfl)
      rw [starts_no q, starts_no q', s, ih]; rfl
theorem lin_sh (c : Nat) (l : List (Lb α)) : lin (l.map (sh c)) = (lin l).map (sh c) := by
  cases l with
  | nil => rfl
  | cons a l =>
    rw [List.map_cons, lin_cons, lin_cons, List.map_cons]
    have s : sc (sh c a) = ((sc a).1 + c, (sc a).2) := rfl
    rw [s, starts_sh]
theorem nm_sh (c i : Nat) (l : List (Lb α)) : nm (i + c) (l.map (sh c)) = nm i l := by
  induction l with
  | nil => rfl
  | cons a l ih =>
    rw [List.map_cons, nm_cons, nm_cons, ih]
    congr 1
    have : (sh c a).1 = a.1 + c := rfl
    rw [this]
    by_cases h : a.1 = i
    · rw [if_pos h, if_pos (by omega)]
    · rw [if_neg h, if_neg (by omega)]
theorem sumN_split {a b : Nat} {f : Nat → Nat} : sumN (a + b) f = sumN a f + sumN b (fun j => f (a + j)) := by
  induction b with
  | zero => rfl
  | succ b ih => rw [← Nat.add_assoc]; simp only [sumN, ih]; omega
theorem sumN_first {F : Nat} {f : Nat → Nat} : sumN (F + 1) f = f 0 + sumN F (fun i => f (i + 1)) := by
  rw [Nat.add_comm, sumN_split]
  simp only [sumN]
  rw [Nat.zero_add]
  congr 1
  exact sumN_eq fun i _ => by rw [Nat.add_comm]
theorem split_map {β γ : Type} {f : β → γ} {l : List β} {X Y : List γ} {a : γ} (h : l.map f = X ++ a :: Y) : ∃ X0 a0 Y0, l = X0 ++ a0 :: Y0 ∧ X = X0.map f ∧ a = f a0 ∧ Y = Y0.map f := by
  obtain ⟨X0, Z, h1, h2, h3⟩ := List.map_eq_append_iff.mp h
  obtain ⟨a0, Y0, h4, h5, h6⟩ := List.map_eq_cons_iff.mp h3
  exact ⟨X0, a0, Y0, by rw [h1, h4], h2.symm, h5.symm, h6.symm⟩
/-- the strip (T, V) of a ring x0 s, U what is left of the ring -/
structure PS (G : Grp α) (x0 : α) (l0 N : Nat) (T V U : List α) (L : List (Lb α)) (F : Nat) (l p : Nat → Nat) (pf z : Nat) : Prop where
  wd : wd L = V
  ids : ∀ a ∈ L, a.1 ≤ F
  lab : ∀ X a Y, L = X ++ a :: Y → G.R (tn a) ∧ (a.1 ≠ 0 → (tn a).length = l a.1 ∧ ∃ n', n' + 1 ≤ N ∧ A G n' (T ++ DN.wd X ++ G.I a.2.2 ++ DN.wd Y)) ∧
    (a.1 = 0 → ∃ T' U1 n1 n2, T = T' ++ G.iv a.2.1 :: U1 ∧ a.2.2 = G.I T' ++ x0 :: G.I (U1 ++ U) ∧ n1 + n2 ≤ N ∧ A G n1 (U1 ++ DN.wd X) ∧ A G n2 (T' ++ DN.wd Y))
  pos : ∀ i, 1 ≤ i → i ≤ F → 1 ≤ l i
  cnt : ∀ i, 1 ≤ i → i ≤ F → 6 * l i + min 1 (p i) ≤ l i * p i + 6 * nm i L
  cnt0 : 6 * T.length + pf ≤ l0 * pf + 6 * nm 0 L
  st : ∀ i, 1 ≤ i → i ≤ F → nm i (starts (0, G.I T ++ x0 :: G.I U) L) ≤ p i
  st0 : nm 0 (starts (0, G.I T ++ x0 :: G.I U) L) + z ≤ pf
  zz : z = 0 → lst (0, G.I T ++ x0 :: G.I U) L = (0, x0 :: G.I (T ++ U))
  sum : sumN F (fun i => p (i + 1)) + pf + 2 * ((starts (0, G.I T ++ x0 :: G.I U) L).length + z) ≤ 6 * F
theorem ps_nil {x0 : α} {l0 : Nat} {U : List α} : PS G x0 l0 0 [] [] U [] 0 (fun _ => 0) (fun _ => 0) 0 0 where
  wd := rfl
  ids := fun a ha => nomatch ha
  lab := fun X a Y h => by simp at h
  pos := fun i h1 h2 => by omega
  cnt := fun i h1 h2 => by omega
  cnt0 := by simp
  st := fun i h1 h2 => by omega
  st0 := by simp [starts_nil]
  zz := fun _ => rfl
  sum := by simp [starts_nil, sumN]
theorem ps_edge {x0 x : α} {s : List α} {l0 N : Nat} {T V U : List α} {L : List (Lb α)} {F : Nat} {l p : Nat → Nat} {pf z : Nat} (hr : G.R (x0 :: s)) (hs : G.I s = T ++ [x] ++ U) (k : PS G x0 l0 N T V (x :: U) L F l p pf z) (ar : A G N (T ++ V)) :
    PS G x0 l0 N (T ++ [x]) (G.iv x :: V) U ((0, G.iv x, G.I T ++ x0 :: G.I U) :: L) F l p pf z := by
  have e1 : ((0, G.I (T ++ [x]) ++ x0 :: G.I U) : Nat × List α) = key (0, G.iv x, G.I T ++ x0 :: G.I U) := by
    simp [key, tn]
  have e2 : sc ((0, G.iv x, G.I T ++ x0 :: G.I U) : Lb α) = (0, G.I T ++ x0 :: G.I (x :: U)) := by simp [sc]
  have hturn : G.R (G.iv x :: (G.I T ++ x0 :: G.I U)) := by
    have es : s = G.I U ++ (G.iv x :: G.I T) := by
      have := congrArg G.I hs
      simpa using this
    rw [es] at hr
    have : G.R ((x0 :: G.I U) ++ (G.iv x :: G.I T)) := hr
    have := R_rot G this
    simpa using this
  refine ⟨by simp [k.wd], fun a ha => ?_, fun X a Y e => ?_, k.pos, fun i h1 h2 => ?_, ?_, fun i h1 h2 => ?_, ?_, fun h => ?_, ?_⟩
  · rcases List.mem_cons.mp ha with rfl | ha
    · exact Nat.zero_le _
    · exact k.ids a ha
  · cases X with
    | nil =>
      simp at e
      obtain ⟨e3, e4⟩ := e
      subst e3 e4
      refine ⟨hturn, fun h => absurd rfl h, fun _ => ⟨T, [], 0, N, by simp [G.iv2], by simp, by omega, by simpa using A.nil, ?_⟩⟩
      rw [k.wd]; exact ar
    | cons y X =>
      simp at e
      obtain ⟨e3, e4⟩ := e
      subst e3
      obtain ⟨r1, r2, r3⟩ := k.lab X a Y e4
      refine ⟨r1, fun h => ?_, fun h => ?_⟩
      · obtain ⟨g1, n', g2, g3⟩ := r2 h
        refine ⟨g1, n', g2, ?_⟩
        have := A.put (u := T) (v := DN.wd X ++ G.I a.2.2 ++ DN.wd Y) x (by simpa using g3)
        simpa using this
      · obtain ⟨T', U1, n1, n2, g1, g2, g3, g4, g5⟩ := r3 h
        refine ⟨T', U1 ++ [x], n1, n2, by rw [g1]; simp, by rw [g2]; simp, g3, ?_, g5⟩
        have := A.put (u := U1) (v := DN.wd X) x g4
        simpa using this
  · rw [nm_cons, if_neg (by show ¬ (0 : Nat) = i; omega)]
    exact k.cnt i h1 h2
  · have := k.cnt0
    rw [nm_cons, if_pos rfl]
    simp only [List.length_append, List.length_cons, List.length_nil]
    omega
  · rw [starts_yes e1, e2]
    exact k.st i h1 h2
  · rw [starts_yes e1, e2]
    exact k.st0
  · show lst (sc _) L = _
    rw [e2, k.zz h]
    simp
  · rw [starts_yes e1, e2]
    exact k.sum
theorem ps_block (th : Thin G) {x0 : α} {s : List α} {l0 N m : Nat} {T V U t v : List α} {L : List (Lb α)} {F : Nat} {l p : Nat → Nat} {pf z : Nat} (hr : G.R (x0 :: s)) (hl0 : l0 = s.length + 1) (hs : G.I s = T ++ t ++ U) (k : PS G x0 l0 N T V (t ++ U) L F l p pf z) (ar : A G N (T ++ V)) (ht : t ≠ []) (hv : v ≠ []) (so : Solid G m (t ++ v))
    {Lb' : List (Lb α)} {Fb : Nat} {lb pb : Nat → Nat} (J : JD G m (t ++ v) Lb' Fb lb pb) (H : ∀ q, A G q (x0 :: G.I U ++ (v ++ V)) → N + m ≤ q) :
    ∃ L' F' l' p' pf' z', PS G x0 l0 (N + m) (T ++ t) (v ++ V) U L' F' l' p' pf' z' := by
  -- both parts of the round word
  obtain ⟨Lt, Lv, eL, wt, wv⟩ : ∃ Lt Lv, Lb' = Lt ++ Lv ∧ wd Lt = t ∧ wd Lv = v := by
    have hw := J.wd
    unfold DN.wd at hw
    obtain ⟨X, Y, h1, h2, h3⟩ := List.map_eq_append_iff.mp hw
    exact ⟨X, Y, h1, h2, h3⟩
  subst eL
  obtain ⟨a, kt, rfl⟩ : ∃ a kt, Lt = a :: kt := by
    cases Lt with
    | nil => exact absurd wt.symm ht
    | cons a kt => exact ⟨a, kt, rfl⟩
  obtain ⟨b, kv, rfl⟩ : ∃ b kv, Lv = b :: kv := by
    cases Lv with
    | nil => exact absurd wv.symm hv
    | cons b kv => exact ⟨b, kv, rfl⟩
  obtain ⟨tp1, tp2⟩ := two_parts (a := a) (b := b) (k := kt) (l := kv)
  generalize hLt : a :: kt = Lt at *
  generalize hLv : b :: kv = Lv at *
  have lt1 : 1 ≤ (lin Lt).length := by rw [← hLt, lin_cons]; simp
  have idb : ∀ c ∈ Lt ++ Lv, c.1 < Fb := fun c hc => by
    obtain ⟨X, Y, e⟩ := List.append_of_mem hc
    exact (J.lab X c Y e).1
  -- each run of t is a piece
  have runs : ∀ X c r Y, Lt = X ++ (c :: r) ++ Y → Ch (c :: r) → 6 * (r.length + 1) + 1 ≤ lb c.1 ∧ 6 * (r.length + 1) + 1 ≤ l0 := by
    intro X c r Y e hc
    obtain ⟨g1, g2, g3, n', g4, g5⟩ := J.lab X c (r ++ Y ++ Lv) (by rw [e]; simp)
    have et : t = wd X ++ wd (c :: r) ++ wd Y := by rw [← wt, e]; simp
    have hI : G.R (wd (c :: r) ++ (wd Y ++ U ++ G.iv x0 :: T ++ wd X)) := by
      have h1 := R_I G hr
      rw [I_cons, hs, et] at h1
      have h2 : G.R ((T ++ wd X) ++ (wd (c :: r) ++ wd Y ++ U ++ [G.iv x0])) := by simpa using h1
      have h3 := R_rot G h2
      simpa using h3
    have ne : tn c ≠ wd (c :: r) ++ (wd Y ++ U ++ G.iv x0 :: T ++ wd X) := by
      intro q
      have q2 : c.2.2 = wd r ++ (wd Y ++ U ++ G.iv x0 :: T ++ wd X) := by
        have : c.2.1 :: c.2.2 = c.2.1 :: (wd r ++ (wd Y ++ U ++ G.iv x0 :: T ++ wd X)) := q
        injection this
      rw [q2] at g5
      have g6 : A G n' ([] ++ wd X ++ G.I (wd X) ++ (G.I T ++ x0 :: G.I U ++ G.I (wd Y) ++ G.I (wd r) ++ wd r ++ wd Y ++ v)) := by
        rw [← wv]
        simpa [G.iv2] using g5
      have g7 := A.outW _ g6
      have g8 : A G n' ((G.I T ++ x0 :: G.I U ++ G.I (wd Y)) ++ G.I (wd r) ++ wd r ++ (wd Y ++ v)) := by simpa using g7
      have g9 := A.outW' _ g8
      have g10 : A G n' ((G.I T ++ x0 :: G.I U) ++ G.I (wd Y) ++ wd Y ++ v) := by simpa using g9
      have g11 := A.outW' _ g10
      have g12 : A G n' (G.I T ++ (x0 :: G.I U ++ v)) := by simpa using g11
      have g13 := A.cyc g12
      have g14 := A.ctx ar (a := (x0 :: G.I U ++ v) ++ G.I T) (b := []) (by simpa using g13)
      have g15 : A G (N + n') ((x0 :: G.I U ++ v) ++ G.I T ++ T ++ V) := by simpa using g14
      have g16 := A.outW' _ g15
      have := H (N + n') (by simpa using g16)
      omega
    have pc := piece th hc g2 hI rfl ne
    have hlen : (wd (c :: r) ++ (wd Y ++ U ++ G.iv x0 :: T ++ wd X)).length = l0 := by
      have h1 := congrArg List.length hs
      have h2 := congrArg List.length et
      rw [I_len] at h1
      simp only [List.length_append, List.length_cons] at h1 h2 ⊢
      omega
    rw [hlen] at pc
    rw [g3] at pc
    exact pc
  have rs : ∀ i, 6 * nm i Lt + nm i (lin Lt) ≤ lb i * nm i (lin Lt) := fun i => by
    have := run_sum (L := Lt) (P := fun j => j == i) (c := 6) (d := 1) (B := lb i) (by
      intro X r Y e hr' hc hp
      cases r with
      | nil => exact absurd rfl hr'
      | cons c r =>
        have := (runs X c r Y e hc).1
        have hi : c.1 = i := by simpa using hp c (List.mem_cons_self ..)
        rw [hi] at this
        simpa using this)
    simpa using this
  have r0 : 6 * Lt.length + (lin Lt).length ≤ l0 * (lin Lt).length := by
    have := run_sum (L := Lt) (P := fun j => true) (c := 6) (d := 1) (B := l0) (by
      intro X r Y e hr' hc hp
      cases r with
      | nil => exact absurd rfl hr'
      | cons c r =>
        have := (runs X c r Y e hc).2
        simpa using this)
    simpa using this
  have tl : t.length = Lt.length := by rw [← wt, wd_len]
  -- the new letters
  let Ls := Lv.map (sh (F + 1))
  have wLs : wd Ls = v := by rw [wd_sh]; exact wv
  have idLs : ∀ c ∈ Ls, F + 1 ≤ c.1 ∧ c.1 < F + 1 + Fb := fun c hc => by
    obtain ⟨c0, hc0, rfl⟩ := List.mem_map.mp hc
    have := idb c0 (List.mem_append_right _ hc0)
    show F + 1 ≤ c0.1 + (F + 1) ∧ c0.1 + (F + 1) < F + 1 + Fb
    omega
  have nmLs : ∀ j, nm (j + (F + 1)) Ls = nm j Lv := fun j => nm_sh (F + 1) j Lv
  have linLs : ∀ j, nm (j + (F + 1)) (lin Ls) = nm j (lin Lv) := fun j => by
    show nm (j + (F + 1)) (lin (Lv.map (sh (F + 1)))) = _
    rw [lin_sh, nm_sh]
  have linLen : (lin Ls).length = (lin Lv).length := by
    show (lin (Lv.map (sh (F + 1)))).length = _
    rw [lin_sh, List.length_map]
  let l' : Nat → Nat := fun i => if i ≤ F then l i else lb (i - (F + 1))
  let p' : Nat → Nat := fun i => if i ≤ F then p i else pb (i - (F + 1)) + nm (i - (F + 1)) (lin Lt)
  have l1 : ∀ i, i ≤ F → l' i = l i := fun i hi => if_pos hi
  have l2 : ∀ j, l' (j + (F + 1)) = lb j := fun j => by
    show (if j + (F + 1) ≤ F then _ else lb (j + (F + 1) - (F + 1))) = _
    rw [if_neg (by omega), Nat.add_sub_cancel]
  have p1 : ∀ i, i ≤ F → p' i = p i := fun i hi => if_pos hi
  have p2 : ∀ j, p' (j + (F + 1)) = pb j + nm j (lin Lt) := fun j => by
    show (if j + (F + 1) ≤ F then _ else pb (j + (F + 1) - (F + 1)) + nm (j + (F + 1) - (F + 1)) (lin Lt)) = _
    rw [if_neg (by omega), Nat.add_sub_cancel]
  have up : ∀ i, ¬ i ≤ F → i ≤ F + Fb → ∃ j, j < Fb ∧ i = j + (F + 1) := fun i h1 h2 => ⟨i - (F + 1), by omega, by omega⟩
  let E : Nat × List α := (0, G.I (T ++ t) ++ x0 :: G.I U)
  have stE : starts E (Ls ++ L) = starts E Ls ++ starts (lst E Ls) L := starts_app
  have oldst : ∀ e, ∀ c ∈ starts e L, c.1 ≤ F := fun e c hc => k.ids c (starts_sub hc)
  have newst : ∀ e, ∀ c ∈ starts e Ls, F + 1 ≤ c.1 := fun e c hc => (idLs c (starts_sub hc)).1
  let z' : Nat := if L = [] then 1 else z
  refine ⟨Ls ++ L, F + Fb, l', p', pf + (lin Lt).length, z', ⟨by rw [wd_app, wLs, k.wd], fun c hc => ?_, fun X c Y e => ?_, fun i h1 h2 => ?_, fun i h1 h2 => ?_, ?_, fun i h1 h2 => ?_, ?_, fun h => ?_, ?_⟩⟩
  · rcases List.mem_append.mp hc with hc | hc
    · have := idLs c hc; omega
    · have := k.ids c hc; omega
  · -- the labels
    rcases split_at e with ⟨u', e1, e2⟩ | ⟨v', e1, e2⟩
    · obtain ⟨X0, c0, Y0, h1, h2, h3, h4⟩ := split_map e1
      obtain ⟨g1, g2, g3, n', g4, g5⟩ := J.lab (Lt ++ X0) c0 Y0 (by rw [h1]; simp)
      have t0 : tn c = tn c0 := by rw [h3]; rfl
      have t1 : c.2.2 = c0.2.2 := by rw [h3]; rfl
      have t2 : c.1 = c0.1 + (F + 1) := by rw [h3]; rfl
      refine ⟨by rw [t0]; exact g2, fun _ => ⟨by rw [t0, t2, l2]; exact g3, N + n', by omega, ?_⟩, fun h => by omega⟩
      rw [t1, e2, h4, h2, wd_app, wd_sh, wd_sh, k.wd]
      rw [wd_app, wt] at g5
      have := A.ctx g5 (a := T) (b := V) ar
      rw [Nat.add_comm N]
      simpa using this
    · obtain ⟨r1, r2, r3⟩ := k.lab v' c Y e1
      have cF := k.ids c (by rw [e1]; simp)
      refine ⟨r1, fun h => ?_, fun h => ?_⟩
      · obtain ⟨g1, n', g2, g3⟩ := r2 h
        refine ⟨by rw [l1 _ cF]; exact g1, m + n', by omega, ?_⟩
        rw [e2, wd_app, wLs]
        have := A.ctx so.ar (a := T) (b := DN.wd v' ++ G.I c.2.2 ++ DN.wd Y) (by simpa using g3)
        simpa using this
      · obtain ⟨T', U1, n1, n2, g1, g2, g3, g4, g5⟩ := r3 h
        refine ⟨T', U1 ++ t, m + n1, n2, by rw [g1]; simp, by rw [g2]; simp, by omega, ?_, g5⟩
        rw [e2, wd_app, wLs]
        have := A.ctx so.ar (a := U1) (b := DN.wd v') g4
        simpa using this
  · by_cases hi : i ≤ F
    · rw [l1 i hi]; exact k.pos i h1 hi
    · obtain ⟨j, hj, rfl⟩ := up i hi h2
      rw [l2]; exact J.pos j hj
  · by_cases hi : i ≤ F
    · rw [l1 i hi, p1 i hi, nm_app, nm_none (l := Ls) (fun c hc => by have := idLs c hc; omega), Nat.zero_add]
      exact k.cnt i h1 hi
    · obtain ⟨j, hj, rfl⟩ := up i hi h2
      rw [l2, p2, nm_app, nmLs, nm_none (l := L) (fun c hc => by have := k.ids c hc; omega), Nat.add_zero, Nat.mul_add]
      have h3 := J.cnt j hj
      have h4 := rs j
      rw [nm_app] at h3
      omega
  · have h3 := k.cnt0
    rw [nm_app, nm_none (l := Ls) (fun c hc => by have := idLs c hc; omega), Nat.zero_add, Nat.mul_add, List.length_append, tl]
    omega
  · show nm i (starts E (Ls ++ L)) ≤ _
    rw [stE, nm_app]
    by_cases hi : i ≤ F
    · rw [p1 i hi, nm_none (l := starts E Ls) (fun c hc => by have := newst E c hc; omega), Nat.zero_add]
      refine Nat.le_trans (nm_starts_of (e' := (0, G.I T ++ x0 :: G.I (t ++ U))) (by show (0 : Nat) ≠ i; omega)) (k.st i h1 hi)
    · obtain ⟨j, hj, rfl⟩ := up i hi h2
      rw [p2, nm_none (l := starts (lst E Ls) L) (fun c hc => by have := oldst _ c hc; omega), Nat.add_zero]
      have h3 := starts_nm E Ls (j + (F + 1))
      rw [linLs] at h3
      have h4 := tp2 j
      have h5 := J.st j hj
      omega
  · show nm 0 (starts E (Ls ++ L)) + z' ≤ _
    rw [stE, nm_app, nm_none (l := starts E Ls) (fun c hc => by have := newst E c hc; omega), Nat.zero_add]
    by_cases hL : L = []
    · have ez : z' = 1 := if_pos hL
      rw [ez, hL]
      simp [starts_nil]
      omega
    · have ez : z' = z := if_neg hL
      rw [ez]
      have h3 := nm_starts_le (lst E Ls) (0, G.I T ++ x0 :: G.I (t ++ U)) L 0
      have h4 := k.st0
      omega
  · show lst E (Ls ++ L) = _
    by_cases hL : L = []
    · have ez : z' = 1 := if_pos hL
      omega
    · have ez : z' = z := if_neg hL
      rw [ez] at h
      rw [lst_app]
      have h3 := k.zz h
      cases L with
      | nil => exact absurd rfl hL
      | cons y L =>
        have : lst (lst E Ls) (y :: L) = lst (0, G.I T ++ x0 :: G.I (t ++ U)) (y :: L) := rfl
        rw [this, h3]
        simp
  · show sumN (F + Fb) (fun i => p' (i + 1)) + (pf + (lin Lt).length) + 2 * ((starts E (Ls ++ L)).length + z') ≤ 6 * (F + Fb)
    rw [stE, List.length_append, sumN_split]
    have s1 : sumN F (fun i => p' (i + 1)) = sumN F (fun i => p (i + 1)) := sumN_eq fun i hi => p1 _ (by omega)
    have s2 : sumN Fb (fun j => p' (F + j + 1)) = sumN Fb pb + (lin Lt).length := by
      have : sumN Fb (fun j => p' (F + j + 1)) = sumN Fb (fun j => pb j + nm j (lin Lt)) := sumN_eq fun j _ => by
        have := p2 j
        rw [show F + j + 1 = j + (F + 1) by omega]
        exact this
      rw [this, sumN_add, sumN_nm (l := lin Lt) fun c hc => idb c (List.mem_append_left _ (starts_sub hc))]
    rw [s1, s2]
    have h3 := starts_lin E Ls
    rw [linLen] at h3
    have h4 := k.sum
    have h5 := J.sum
    by_cases hL : L = []
    · have ez : z' = 1 := if_pos hL
      have : (starts (lst E Ls) L).length = 0 := by rw [hL]; rfl
      omega
    · have ez : z' = z := if_neg hL
      have h6 := starts_le (lst E Ls) (0, G.I T ++ x0 :: G.I (t ++ U)) L
      omega
end DN
namespace DN
variable {α : Type} {G : Grp α}
theorem strip_ps (th : Thin G) {x0 : α} {s : List α} (hr : G.R (x0 :: s)) {n : Nat} (IH : ∀ m, m < n → ∀ w, Solid G m w → ∃ L F l p, JD G m w L F l p) {N : Nat} {T V : List α} (h : Strip G N T V) : N < n → ∀ U, G.I s = T ++ U → (∀ q, A G q (x0 :: G.I U ++ V) → N ≤ q) →
    ∃ L F l p pf z, PS G x0 (s.length + 1) N T V U L F l p pf z := by
  induction h with
  | nil => intro _ U _ _; exact ⟨_, _, _, _, _, _, ps_nil⟩
  | edge x h ih =>
    rename_i N T V
    intro hn U hs H
    obtain ⟨L, F, l, p, pf, z, k⟩ := ih hn (x :: U) (by simpa using hs) (fun q hq => H q (by simpa using hq))
    exact ⟨_, _, _, _, _, _, ps_edge hr hs k h.ar⟩
  | block h ht hv so ih =>
    rename_i N m T V t v
    intro hn U hs H
    obtain ⟨L, F, l, p, pf, z, k⟩ := ih (by omega) (t ++ U) (by simpa using hs) (fun q hq => by
      have h1 := A.ctx so.ar (a := x0 :: G.I U ++ G.I t) (b := V) (by simpa using hq)
      have h2 : A G (m + q) ((x0 :: G.I U) ++ G.I t ++ t ++ (v ++ V)) := by simpa using h1
      have h3 := A.outW' _ h2
      have := H (m + q) (by simpa using h3)
      omega)
    obtain ⟨Lb, Fb, lb, pb, J⟩ := IH m (by omega) _ so
    exact ps_block th hr rfl hs k h.ar ht hv so J H
theorem ps_jd {x0 : α} {s : List α} (hr : G.R (x0 :: s)) {n N : Nat} (hn : N + 1 ≤ n) {V : List α} (ar : A G N (G.I s ++ V)) {L : List (Lb α)} {F : Nat} {l p : Nat → Nat} {pf z : Nat} (k : PS G x0 (s.length + 1) N (G.I s) V [] L F l p pf z) :
    ∃ L F l p, JD G n (x0 :: V) L F l p := by
  let l' : Nat → Nat := fun i => if i = 0 then s.length + 1 else l i
  let p' : Nat → Nat := fun i => if i = 0 then pf else p i
  have l0 : l' 0 = s.length + 1 := rfl
  have p0 : p' 0 = pf := rfl
  have l1 : ∀ i, i ≠ 0 → l' i = l i := fun i hi => if_neg hi
  have p1 : ∀ i, i ≠ 0 → p' i = p i := fun i hi => if_neg hi
  have hsc : sc ((0, x0, s) : Lb α) = (0, G.I (G.I s) ++ x0 :: G.I ([] : List α)) := by simp [sc]
  have cy : cyc ((0, x0, s) :: L) = starts (lst (0, G.I (G.I s) ++ x0 :: G.I ([] : List α)) L) ((0, x0, s) :: L) := by
    unfold cyc
    rw [← hsc]; rfl
  generalize hE : (0, G.I (G.I s) ++ x0 :: G.I ([] : List α)) = E at *
  have kst : ∀ i, 1 ≤ i → i ≤ F → nm i (starts E L) ≤ p i := hE ▸ k.st
  have kst0 : nm 0 (starts E L) + z ≤ pf := hE ▸ k.st0
  have ksum : sumN F (fun i => p (i + 1)) + pf + 2 * ((starts E L).length + z) ≤ 6 * F := hE ▸ k.sum
  have kzz : z = 0 → lst E L = (0, x0 :: G.I (G.I s ++ [])) := hE ▸ k.zz
  have cyl : (cyc ((0, x0, s) :: L)).length ≤ (starts E L).length + z ∧ ∀ i, nm i (cyc ((0, x0, s) :: L)) ≤ nm i (starts E L) + (if i = 0 then z else 0) := by
    rw [cy]
    by_cases c : lst E L = key ((0, x0, s) : Lb α)
    · rw [starts_yes c, hsc]
      exact ⟨by omega, fun i => by omega⟩
    · have z1 : 1 ≤ z := by
        apply Classical.byContradiction
        intro q
        refine c ?_
        rw [kzz (by omega)]
        simp [key, tn]
      rw [starts_no c, hsc]
      refine ⟨by simp; omega, fun i => ?_⟩
      rw [nm_cons]
      show nm i (starts E L) + (if (0 : Nat) = i then 1 else 0) ≤ _
      by_cases hi : i = 0
      · rw [if_pos hi.symm, if_pos hi]; omega
      · rw [if_neg (fun h => hi h.symm), if_neg hi]; omega
  refine ⟨(0, x0, s) :: L, F + 1, l', p', by simp [k.wd], fun X a Y e => ?_, fun i hi => ?_, fun i hi => ?_, fun i hi => ?_, ?_⟩
  · cases X with
    | nil =>
      simp at e
      obtain ⟨e3, e4⟩ := e
      subst e3 e4
      refine ⟨Nat.succ_pos _, hr, rfl, N, hn, ?_⟩
      rw [k.wd]
      simpa using ar
    | cons y X =>
      simp at e
      obtain ⟨e3, e4⟩ := e
      subst e3
      obtain ⟨r1, r2, r3⟩ := k.lab X a Y e4
      have aF := k.ids a (by rw [e4]; simp)
      by_cases a0 : a.1 = 0
      · obtain ⟨T', U1, n1, n2, g1, g2, g3, g4, g5⟩ := r3 a0
        have hlen := congrArg List.length g1
        have hlen2 := congrArg List.length g2
        simp only [List.length_append, List.length_cons, I_len, List.append_nil] at hlen hlen2
        refine ⟨by omega, r1, by rw [a0]; show a.2.2.length + 1 = s.length + 1; omega, n1 + n2, by omega, ?_⟩
        rw [g2]
        have h1 := (A.cyc g4).conj [x0]
        have h2 := A.ctx h1 (a := []) (b := T' ++ DN.wd Y) g5
        simpa using h2
      · obtain ⟨g1, n', g2, g3⟩ := r2 a0
        refine ⟨by omega, r1, by rw [l1 _ a0]; exact g1, n' + 1, by omega, ?_⟩
        have h1 := A.rel (u := []) (v := G.I s ++ DN.wd X ++ G.I a.2.2 ++ DN.wd Y) (by simpa using g3) hr
        have h2 : A G (n' + 1) ([x0] ++ s ++ G.I s ++ (DN.wd X ++ G.I a.2.2 ++ DN.wd Y)) := by simpa using h1
        have h3 := A.outW _ h2
        simpa using h3
  · by_cases h0 : i = 0
    · rw [h0, l0]; omega
    · rw [l1 i h0]; exact k.pos i (by omega) (by omega)
  · rw [nm_cons]
    by_cases h0 : i = 0
    · rw [h0, l0, p0, if_pos rfl]
      have := k.cnt0
      rw [I_len] at this
      have : min 1 pf ≤ pf := Nat.min_le_right _ _
      omega
    · rw [l1 i h0, p1 i h0, if_neg (fun h => h0 h.symm)]
      exact k.cnt i (by omega) (by omega)
  · have h1 := cyl.2 i
    by_cases h0 : i = 0
    · rw [h0, p0]
      rw [h0, if_pos rfl] at h1
      omega
    · rw [p1 i h0]
      rw [if_neg h0] at h1
      have := kst i (by omega) (by omega)
      omega
  · rw [sumN_first, p0]
    have : sumN F (fun i => p' (i + 1)) = sumN F (fun i => p (i + 1)) := sumN_eq fun i _ => p1 _ (by omega)
    rw [this]
    have := cyl.1
    omega
/-- no part of a ring comes apart behind it -/
theorem ring_whole (th : Thin G) (red : ∀ r, G.R r → Red G r) {n : Nat} (IH : ∀ m, m < n → ∀ w, Solid G m w → ∃ L F l p, JD G m w L F l p) {x0 : α} {s : List α} (hr : G.R (x0 :: s)) {β : List α} (mn : ∀ m, m < n → ¬ A G m (x0 :: β)) :
    ∀ (k : Nat) (a v b : List α) (n1 n2 : Nat), v.length ≤ k → G.I s = a ++ v ++ b → v ≠ [] → A G n1 v → A G n2 (a ++ b ++ β) → n1 + n2 < n → False := by
  intro k
  induction k with
  | zero =>
    intro a v b n1 n2 hk _ hv
    exact absurd (List.length_eq_zero_iff.mp (by omega)) hv
  | succ k ih =>
    intro a v b n1 n2 hk e hv h1 h2 hn
    by_cases c : ∃ a' v' b' m1 m2, v = a' ++ v' ++ b' ∧ v' ≠ [] ∧ a' ++ b' ≠ [] ∧ A G m1 v' ∧ A G m2 (a' ++ b') ∧ m1 + m2 ≤ n1
    · obtain ⟨a', v', b', m1, m2, e2, hv', hab, g1, g2, hm⟩ := c
      subst e2
      simp only [List.length_append] at hk
      have l3 : 1 ≤ a'.length + b'.length := by
        cases a' with
        | cons y a' => simp; omega
        | nil => cases b' with
          | cons y b' => simp
          | nil => simp at hab
      refine ih (a ++ a') v' (b' ++ b) m1 (m2 + n2) (by omega) (by rw [e]; simp) hv' g1 ?_ (by omega)
      have := A.ctx g2 (a := a) (b := b ++ β) (by simpa using h2)
      simpa using this
    · obtain ⟨m, hm, g1, g2⟩ := least (P := fun n => A G n v) h1
      have rv : Red G v := by
        have h3 := red _ (R_I G hr)
        rw [I_cons, e] at h3
        exact Red.sub (a := a) (b := b ++ [G.iv x0]) (by simpa using h3)
      have so : Solid G m v := by
        refine ⟨?_, g1, g2, fun a' v' b' m1 m2 e2 hv' hab z1 z2 => ?_⟩
        · apply Classical.byContradiction
          intro q
          have m0 : m = 0 := by omega
          subst m0
          exact hv (red_zero (Nat.le_refl _) rv g1)
        · apply Classical.byContradiction
          intro q
          exact c ⟨a', v', b', m1, m2, e2, hv', hab, z1, z2, by omega⟩
      obtain ⟨L, F, l, p, J⟩ := IH m (by omega) v so
      refine J.no hv fun X c r Y eL hc => ?_
      obtain ⟨j1, j2, j3, n', j4, j5⟩ := J.lab X c (r ++ Y) (by rw [eL]; simp)
      have ev : v = wd X ++ wd (c :: r) ++ wd Y := by rw [← J.wd, eL]; simp
      have hI : G.R (wd (c :: r) ++ (wd Y ++ b ++ G.iv x0 :: a ++ wd X)) := by
        have h3 := R_I G hr
        rw [I_cons, e, ev] at h3
        have h4 : G.R ((a ++ wd X) ++ (wd (c :: r) ++ wd Y ++ b ++ [G.iv x0])) := by simpa using h3
        have h5 := R_rot G h4
        simpa using h5
      have ne : tn c ≠ wd (c :: r) ++ (wd Y ++ b ++ G.iv x0 :: a ++ wd X) := by
        intro q
        have q2 : c.2.2 = wd r ++ (wd Y ++ b ++ G.iv x0 :: a ++ wd X) := by
          have : c.2.1 :: c.2.2 = c.2.1 :: (wd r ++ (wd Y ++ b ++ G.iv x0 :: a ++ wd X)) := q
          injection this
        rw [q2] at j5
        have g6 : A G n' ([] ++ wd X ++ G.I (wd X) ++ (G.I a ++ x0 :: G.I b ++ G.I (wd Y) ++ G.I (wd r) ++ wd r ++ wd Y)) := by simpa [G.iv2] using j5
        have g7 := A.outW _ g6
        have g8 : A G n' ((G.I a ++ x0 :: G.I b ++ G.I (wd Y)) ++ G.I (wd r) ++ wd r ++ (wd Y)) := by simpa using g7
        have g9 := A.outW' _ g8
        have g10 : A G n' ((G.I a ++ x0 :: G.I b) ++ G.I (wd Y) ++ wd Y ++ []) := by simpa using g9
        have g11 := A.outW' _ g10
        have g12 : A G n' (G.I a ++ (x0 :: G.I b)) := by simpa using g11
        have g13 := A.cyc g12
        have g14 := A.ctx h2 (a := x0 :: G.I b ++ G.I a) (b := []) (by simpa using g13)
        have g15 : A G (n2 + n') ((x0 :: G.I b) ++ G.I a ++ a ++ (b ++ β)) := by simpa using g14
        have g16 := A.outW' _ g15
        have g17 : A G (n2 + n') ([x0] ++ G.I b ++ b ++ β) := by simpa using g16
        have g18 := A.outW' _ g17
        exact mn (n2 + n') (by omega) (by simpa using g18)
      have pc := piece th hc j2 hI rfl ne
      rw [j3] at pc
      omega
theorem solid_jd (th : Thin G) (red : ∀ r, G.R r → Red G r) : ∀ n w, Solid G n w → ∃ L F l p, JD G n w L F l p := by
  intro n
  induction n using Nat.strongRecOn with
  | ind n IH =>
  intro w so
  cases w with
  | nil => exact absurd rfl so.ne
  | cons x0 β =>
    obtain ⟨s, n', hr, hn, h⟩ := so.face (a := []) (x := x0) (b := β) rfl
    have h : A G n' (G.I s ++ β) := by simpa using h
    obtain ⟨N, hN, st⟩ := strip_of _ n' (G.I s) β (Nat.le_refl _) h (by
      intro a v b n1 n2 e hv h1 h2
      subst e
      have h3 := A.rel (u := []) (v := G.I s ++ a ++ b) (by simpa using h2) hr
      have h4 : A G (n2 + 1) ([x0] ++ s ++ G.I s ++ (a ++ b)) := by simpa using h3
      have h5 := A.outW _ h4
      have := so.whole (x0 :: a) v b n1 (n2 + 1) (by simp) hv (by simp) h1 (by simpa using h5)
      omega) (by
      intro a v b n1 n2 e hv h1 h2
      apply Classical.byContradiction
      intro q
      exact ring_whole th red IH hr so.min v.length a v b n1 n2 (Nat.le_refl _) e hv h1 h2 (by omega))
    obtain ⟨L, F, l, p, pf, z, k⟩ := strip_ps th hr IH st (by omega) [] (by simp) (fun q hq => by
      apply Classical.byContradiction
      intro c
      exact so.min q (by omega) (by simpa using hq))
    exact ps_jd hr (by omega) st.ar k
/-- Dehn, Greendlinger -/
theorem dehn (th : Thin G) (red : ∀ r, G.R r → Red G r) : ∀ (k n : Nat) (w : List α), w.length ≤ k → w ≠ [] → Red G w → A G n w → ∃ a u b s, w = a ++ u ++ b ∧ G.R (u ++ s) ∧ s.length < u.length := by
  intro k
  induction k with
  | zero =>
    intro n w hk hw
    exact absurd (List.length_eq_zero_iff.mp (by omega)) hw
  | succ k ih =>
    intro n w hk hw rw' h
    by_cases c : ∃ a' v' b' m1 m2, w = a' ++ v' ++ b' ∧ v' ≠ [] ∧ a' ++ b' ≠ [] ∧ A G m1 v' ∧ A G m2 (a' ++ b') ∧ m1 + m2 ≤ n
    · obtain ⟨a', v', b', m1, m2, e2, hv', hab, g1, g2, hm⟩ := c
      subst e2
      simp only [List.length_append] at hk
      have l3 : 1 ≤ a'.length + b'.length := by
        cases a' with
        | cons y a' => simp; omega
        | nil => cases b' with
          | cons y b' => simp
          | nil => simp at hab
      obtain ⟨a, u, b, s, e, h1, h2⟩ := ih m1 v' (by omega) hv' rw'.sub g1
      exact ⟨a' ++ a, u, b ++ b', s, by rw [e]; simp, h1, h2⟩
    · obtain ⟨m, hm, g1, g2⟩ := least (P := fun n => A G n w) h
      have so : Solid G m w := by
        refine ⟨?_, g1, g2, fun a' v' b' m1 m2 e2 hv' hab z1 z2 => ?_⟩
        · apply Classical.byContradiction
          intro q
          have m0 : m = 0 := by omega
          subst m0
          exact hw (red_zero (Nat.le_refl _) rw' g1)
        · apply Classical.byContradiction
          intro q
          exact c ⟨a', v', b', m1, m2, e2, hv', hab, z1, z2, by omega⟩
      obtain ⟨L, F, l, p, J⟩ := solid_jd th red m w so
      apply Classical.byContradiction
      intro q
      refine J.no hw fun X a r Y eL hc => ?_
      obtain ⟨j1, j2, j3, _⟩ := J.lab X a (r ++ Y) (by rw [eL]; simp)
      have ew : w = wd X ++ wd (a :: r) ++ wd Y := by rw [← J.wd, eL]; simp
      have half : ∀ i, i ≤ (tn a).length → i ≤ r.length + 1 → 2 * i ≤ (tn a).length := fun i h1 h2 => by
        apply Classical.byContradiction
        intro c
        have sp := hc.spell i h1 h2
        refine q ⟨wd X, (tn a).take i, (wd (a :: r)).drop i ++ wd Y, (tn a).drop i, ?_, by rw [List.take_append_drop]; exact j2, by rw [List.length_take, List.length_drop]; omega⟩
        rw [← sp, ew]
        generalize wd (a :: r) = W
        have := List.take_append_drop i W
        conv => lhs; rw [← this]
        simp only [List.append_assoc]
      have lp : 1 ≤ (tn a).length := by simp [tn]
      rw [← j3]
      by_cases c : r.length + 1 ≤ (tn a).length
      · exact half _ c (Nat.le_refl _)
      · have := half (tn a).length (Nat.le_refl _) (by omega)
        omega
end DN
namespace GB
open PySem PySem.Spec PyProof.Rows L2
def ivN (c : Nat) : Nat := if isL c = true then bk c else c
theorem ivN_L {c : Nat} (h : isL c = true) : ivN c = bk c := if_pos h
theorem ivN2 (c : Nat) : ivN (ivN c) = c := by
  by_cases h : isL c = true
  · rw [ivN_L h, ivN_L (bk_isL h), bk_bk h]
  · have e : ivN c = c := if_neg h
    rw [e, e]
theorem iv_bkw : ∀ {w : List Nat}, W w → (w.map ivN).reverse = bkw w := fun {w} hw => by
  unfold bkw
  rw [List.map_congr_left fun c hc => ivN_L (hw c hc)]
/-- round -/
def CR (w : List Nat) : Prop := tidy w = true ∧ Jn w w
theorem cr_nil : CR [] := ⟨rfl, fun x y hx _ => nomatch hx⟩
theorem cr_one {c : Nat} (h : isL c = true) : CR [c] := ⟨rfl, fun x y hx hy => by
  cases hx; cases hy; exact fun e => bk_ne h e.symm⟩
theorem cr_rep {r : List Nat} (hr : W r) (h : CR r) (k : Nat) : CR (rep r k) := by
  by_cases h0 : r = []
  · subst h0
    have e : rep ([] : List Nat) k = [] := by
      unfold rep
      induction k with
      | zero => rfl
      | succ k ih => simpa [List.replicate_succ] using ih
    rw [e]; exact cr_nil
  · refine ⟨tidy_rep hr h0 h.1 h.2 k, ?_⟩
    cases k with
    | zero => rw [rep_0]; exact cr_nil.2
    | succ k => exact (jn_rep h0 (by omega) (by omega)).mpr h.2
theorem cr_rt {r u : List Nat} (hw : W r) (h : CR r) (t : Rt r u) : CR u := by
  obtain ⟨a, b, rfl, rfl⟩ := t
  have wa : W a := fun c hc => hw c (List.mem_append_left _ hc)
  have wb : W b := fun c hc => hw c (List.mem_append_right _ hc)
  have hd : tidy ((a ++ b) ++ (a ++ b)) = true := (tidy_app hw hw).mpr ⟨h.1, h.1, h.2⟩
  have h1 : tidy (b ++ a) = true := by
    have e : (a ++ b) ++ (a ++ b) = a ++ ((b ++ a) ++ b) := by simp
    rw [e] at hd
    have h1 := ((tidy_app wa ((wb.app wa).app wb)).mp hd).2.1
    exact ((tidy_app (wb.app wa) wb).mp h1).1
  refine ⟨h1, ?_⟩
  by_cases c : b ++ a = []
  · rw [c]; exact cr_nil.2
  · -- b a b a stands in a b a b a b
    have h3 : tidy ((a ++ b) ++ ((a ++ b) ++ (a ++ b))) = true := by
      refine (tidy_app hw (hw.app hw)).mpr ⟨h.1, hd, ?_⟩
      have ne : a ++ b ≠ [] := by
        intro z
        obtain ⟨z1, z2⟩ := List.append_eq_nil_iff.mp z
        subst z1 z2
        exact c rfl
      intro x y hx hy
      refine h.2 x y hx ?_
      cases q : a ++ b with
      | nil => exact absurd q ne
      | cons z l => rw [q] at hy; exact hy
    have e : (a ++ b) ++ ((a ++ b) ++ (a ++ b)) = a ++ (((b ++ a) ++ (b ++ a)) ++ b) := by simp
    rw [e] at h3
    have w2 := wb.app wa
    have h4 := ((tidy_app wa ((w2.app w2).app wb)).mp h3).2.1
    have h5 := ((tidy_app (w2.app w2) wb).mp h4).1
    exact ((tidy_app w2 w2).mp h5).2.2
theorem cr_rot {r : List Nat} (hw : W r) (h : CR r) (k : Nat) : CR (rot r k) := cr_rt hw h ⟨r.take k, r.drop k, (List.take_append_drop k r).symm, rfl⟩
theorem cr_bkw {r : List Nat} (hw : W r) (h : CR r) : CR (bkw r) := ⟨tidy_bkw hw h.1, jn_bkw hw h.2⟩
theorem cr_mid {s : List Nat} (hw : W s) (ht : tidy s = true) : CR (midK s (coreN s)) := by
  by_cases h : s = []
  · subst h
    have e : midK [] (coreN []) = [] := by unfold midK; simp
    rw [e]; exact cr_nil
  · refine ⟨?_, (core_jn hw ht h).2⟩
    have e := (core_split hw).1
    rw [← e] at ht
    have wm : W (midK s (coreN s)) := midK_w hw _
    have w1 : W (s.take (coreN s)) := hw.take _
    rw [List.append_assoc, tidy_app w1 (wm.app w1.bkw)] at ht
    exact ((tidy_app wm w1.bkw).mp ht.2.1).1
/-- rings without fault -/
def okN (rs : List (List Nat)) : Prop := ∀ r ∈ rs, W r ∧ r ≠ [] ∧ CR r
def grpN (rs : List (List Nat)) (h : okN rs) : DN.Grp Nat where
  iv := ivN
  iv2 := ivN2
  R := fun t => t ∈ knownL rs
  ne := fun {t} ht e => by
    obtain ⟨r, hr, q⟩ := known_iff.mp ht
    have l : t.length = r.length := by
      rcases q with q | q
      · exact turns_len q
      · rw [turns_len q, bkw_len]
    rw [e] at l
    exact (h r hr).2.1 (List.length_eq_zero_iff.mp l.symm)
  rot := fun {x s} ht => by
    obtain ⟨r, hr, q⟩ := known_iff.mp ht
    refine known_iff.mpr ⟨r, hr, ?_⟩
    have rt : Rt (x :: s) (s ++ [x]) := ⟨[x], s, rfl, rfl⟩
    rcases q with q | q
    · exact .inl (rt_mem.mpr ((rt_mem.mp q).trans rt))
    · exact .inr (rt_mem.mpr ((rt_mem.mp q).trans rt))
  inv := fun {t} ht => by
    obtain ⟨r, hr, q⟩ := known_iff.mp ht
    have hw := (h r hr).1
    have wt : W t := by
      rcases q with q | q
      · obtain ⟨k, rfl⟩ := turnsL_mem q; exact rot_w hw k
      · obtain ⟨k, rfl⟩ := turnsL_mem q; exact rot_w hw.bkw k
    rw [iv_bkw wt]
    refine known_iff.mpr ⟨r, hr, ?_⟩
    rcases q with q | q
    · exact .inr (rt_mem.mpr (rt_bkw (rt_mem.mp q)))
    · have := rt_bkw (rt_mem.mp q)
      rw [bkw_bkw hw] at this
      exact .inl (rt_mem.mpr this)
theorem known_W {rs : List (List Nat)} (h : okN rs) {t : List Nat} (ht : t ∈ knownL rs) : W t := by
  obtain ⟨r, hr, q⟩ := known_iff.mp ht
  rcases q with q | q
  · obtain ⟨k, rfl⟩ := turnsL_mem q; exact rot_w (h r hr).1 k
  · obtain ⟨k, rfl⟩ := turnsL_mem q; exact rot_w (h r hr).1.bkw k
theorem known_tidy {rs : List (List Nat)} (h : okN rs) {t : List Nat} (ht : t ∈ knownL rs) : tidy t = true := by
  have key : ∀ r u, W r → tidy r = true → Jn r r → Rt r u → tidy u = true := by
    rintro r u hw ht hj ⟨a, b, rfl, rfl⟩
    have hd : tidy ((a ++ b) ++ (a ++ b)) = true := (tidy_app hw hw).mpr ⟨ht, ht, hj⟩
    have wa : W a := fun c hc => hw c (List.mem_append_left _ hc)
    have wb : W b := fun c hc => hw c (List.mem_append_right _ hc)
    have e : (a ++ b) ++ (a ++ b) = a ++ ((b ++ a) ++ b) := by simp
    rw [e] at hd
    have h1 := ((tidy_app wa ((wb.app wa).app wb)).mp hd).2.1
    exact ((tidy_app (wb.app wa) wb).mp h1).1
  obtain ⟨r, hr, q⟩ := known_iff.mp ht
  obtain ⟨g1, g2, g3, g4⟩ := h r hr
  rcases q with q | q
  · exact key r t g1 g3 g4 (rt_mem.mp q)
  · exact key _ t g1.bkw (tidy_bkw g1 g3) (jn_bkw g1 g4) (rt_mem.mp q)
theorem red_tidy {rs : List (List Nat)} {h : okN rs} {w : List Nat} (hw : W w) (ht : tidy w = true) : DN.Red (grpN rs h) w := fun a x b e => by
  subst e
  have hx : isL x = true := hw x (by simp)
  have e2 : (grpN rs h).iv x = bk x := ivN_L hx
  rw [e2] at ht hw
  have wa : W a := fun c hc => hw c (List.mem_append_left _ hc)
  have wb : W (x :: bk x :: b) := fun c hc => hw c (List.mem_append_right _ hc)
  have := ((tidy_app wa wb).mp ht).2.1
  have t2 : (decide (x ≠ bk (bk x)) && tidy (bk x :: b)) = true := this
  rw [bk_bk hx] at t2
  simp at t2
/-- made of rings -/
def Nn (rs : List (List Nat)) (h : okN rs) (w : List Nat) : Prop := ∃ n, DN.A (grpN rs h) n w
section
variable {rs : List (List Nat)} {h : okN rs}
theorem I_bkw {w : List Nat} (hw : W w) : (grpN rs h).I w = bkw w := iv_bkw hw
theorem Nn.nil : Nn rs h [] := ⟨0, DN.A.nil⟩
theorem Nn.ins {u v w : List Nat} (a : Nn rs h v) (b : Nn rs h (u ++ w)) : Nn rs h (u ++ v ++ w) := by
  obtain ⟨n, a⟩ := a
  obtain ⟨m, b⟩ := b
  exact ⟨_, a.ctx b⟩
theorem Nn.pair {u w : List Nat} {c : Nat} (hc : isL c = true) : Nn rs h (u ++ c :: bk c :: w) ↔ Nn rs h (u ++ w) := by
  have e : (grpN rs h).iv c = bk c := ivN_L hc
  constructor
  · rintro ⟨n, a⟩
    exact ⟨n, DN.A.out c (by rw [e]; exact a)⟩
  · rintro ⟨n, a⟩
    have := DN.A.put c a
    rw [e] at this
    exact ⟨n, this⟩
theorem Nn.ring {t : List Nat} (ht : t ∈ knownL rs) : Nn rs h t := by
  have := DN.A.rel (G := grpN rs h) (u := []) (v := []) DN.A.nil (r := t) ht
  exact ⟨1, by simpa using this⟩
theorem Nn.conj {w p : List Nat} (hp : W p) (a : Nn rs h w) : Nn rs h (p ++ w ++ bkw p) := by
  obtain ⟨n, a⟩ := a
  have := a.conj p
  rw [I_bkw hp] at this
  exact ⟨n, this⟩
theorem Nn.cyc {u v : List Nat} (a : Nn rs h (u ++ v)) : Nn rs h (v ++ u) := by
  obtain ⟨n, a⟩ := a
  exact ⟨n, a.cyc⟩
theorem Nn.putW {u p v : List Nat} (hp : W p) : Nn rs h (u ++ p ++ bkw p ++ v) ↔ Nn rs h (u ++ v) := by
  constructor
  · rintro ⟨n, a⟩
    exact ⟨n, DN.A.outW p (by rw [I_bkw hp]; exact a)⟩
  · rintro ⟨n, a⟩
    have := DN.A.putW p a
    rw [I_bkw hp] at this
    exact ⟨n, this⟩
theorem Nn.putW' {u p v : List Nat} (hp : W p) : Nn rs h (u ++ bkw p ++ p ++ v) ↔ Nn rs h (u ++ v) := by
  have := Nn.putW (h := h) (u := u) (v := v) hp.bkw
  rwa [bkw_bkw hp] at this
theorem Nn.inv {w : List Nat} (hw : W w) (a : Nn rs h w) : Nn rs h (bkw w) := by
  obtain ⟨n, a⟩ := a
  have := a.mirror
  rw [I_bkw hw] at this
  exact ⟨n, this⟩
/-- a nothing put in, taken out -/
theorem Nn.mid {u v w : List Nat} (hu : W u) (hv : W v) (hw : W w) (a : Nn rs h v) : Nn rs h (u ++ v ++ w) ↔ Nn rs h (u ++ w) := by
  constructor
  · intro b
    have c := a.inv hv
    have d : Nn rs h ((u ++ v) ++ GB.bkw v ++ w) := c.ins b
    rwa [Nn.putW hv] at d
  · exact a.ins
/-- a word turned about by another one -/
theorem Nn.by {p w : List Nat} (hp : W p) : Nn rs h (p ++ w ++ bkw p) ↔ Nn rs h w := by
  constructor
  · intro a
    have b : Nn rs h ((w ++ GB.bkw p) ++ p) := by
      have : Nn rs h (p ++ (w ++ GB.bkw p)) := by simpa using a
      exact this.cyc
    have b : Nn rs h (w ++ GB.bkw p ++ p ++ []) := by simpa using b
    rw [Nn.putW' hp] at b
    simpa using b
  · exact Nn.conj hp
/-- a part of a ring for the back of the rest -/
theorem Nn.swap {u t v : List Nat} {m : Nat} (ht : t ∈ knownL rs) : Nn rs h (u ++ t.take m ++ v) ↔ Nn rs h (u ++ GB.bkw (t.drop m) ++ v) := by
  have wt := known_W h ht
  have wm := wt.take m
  have wd := wt.drop m
  have ring := Nn.ring (h := h) ht
  have rot : Nn rs h (t.drop m ++ t.take m) := Nn.cyc (by rw [List.take_append_drop]; exact ring)
  constructor
  · intro a
    -- back of the whole ahead
    have b : Nn rs h (u ++ (GB.bkw (t.drop m) ++ GB.bkw (t.take m)) ++ (t.take m ++ v)) := by
      refine Nn.ins ?_ (by simpa using a)
      have := ring.inv wt
      rw [← List.take_append_drop m t, bkw_app] at this
      exact this
    have b : Nn rs h ((u ++ GB.bkw (t.drop m)) ++ GB.bkw (t.take m) ++ t.take m ++ v) := by simpa using b
    rwa [Nn.putW' wm] at b
  · intro a
    have b : Nn rs h ((u) ++ (t.take m ++ t.drop m) ++ (GB.bkw (t.drop m) ++ v)) := by
      refine Nn.ins (by rw [List.take_append_drop]; exact ring) (by simpa using a)
    have b : Nn rs h ((u ++ t.take m) ++ t.drop m ++ GB.bkw (t.drop m) ++ v) := by simpa using b
    rwa [Nn.putW wd] at b
theorem Nn.step {w u : List Nat} {s : Stp} (hw : W w) (hs : stepOk s) (e : stepO rs w s = some u) : Nn rs h w ↔ Nn rs h u := by
  obtain ⟨e, _⟩ := cutO_some e
  cases s with
  | out p =>
    have e : outO w p = some u := e
    unfold outO at e
    split at e
    · rename_i x y e1 e2
      split at e
      · rename_i e3
        cases e
        subst e3
        have hp : p + 1 < w.length := by
          apply Classical.byContradiction; intro q
          rw [List.getElem?_eq_none (by omega)] at e2; cases e2
        have hx : isL x = true := hw x (List.mem_of_getElem? e1)
        have d1 : w.drop p = x :: w.drop (p + 1) := by
          rw [List.drop_eq_getElem_cons (by omega)]
          congr 1
          rw [List.getElem?_eq_getElem (by omega)] at e1
          exact Option.some.inj e1
        have d2 : w.drop (p + 1) = bk x :: w.drop (p + 2) := by
          rw [List.drop_eq_getElem_cons (by omega)]
          congr 1
          rw [List.getElem?_eq_getElem (by omega)] at e2
          exact Option.some.inj e2
        have e4 : w = w.take p ++ x :: bk x :: w.drop (p + 2) := by
          rw [← d2, ← d1, List.take_append_drop]
        conv => lhs; rw [e4]
        exact Nn.pair hx
      · cases e
    · cases e
  | ins p c =>
    have e : insO w p c = some u := e
    unfold insO at e
    split at e
    · cases e
      have := Nn.pair (h := h) (u := w.take p) (w := w.drop p) hs.2
      rw [List.take_append_drop] at this
      rw [← this]
      simp
    · cases e
  | ring p t m =>
    have e : ringO rs w p t m = some u := e
    unfold ringO at e
    split at e
    · rename_i q
      cases e
      obtain ⟨q1, q2, q3, q4⟩ := q
      have e4 : w = w.take p ++ t.take m ++ w.drop (p + m) := by
        rw [← q4]
        have a1 : w.take p = (w.take (p + m)).take p := by rw [List.take_take]; congr 1; omega
        rw [a1, List.take_append_drop, List.take_append_drop]
      conv => lhs; rw [e4]
      exact Nn.swap q3
    · cases e
theorem Nn.chain : ∀ {ss : List Stp} {w u : List Nat}, W w → chainS rs w ss u → (Nn rs h w ↔ Nn rs h u)
  | [], w, u, _, c => by
    have c : u = w := c
    rw [c]
  | s :: ss, w, u, hw, ⟨h1, h2, v, h3, h4⟩ => (Nn.step hw h1 h3).trans (Nn.chain (stepO_W hw h1 h3).1 h4)
end
theorem thin_of {rs : List (List Nat)} (h : okN rs) (t : thickD (knownL rs) = none) : DN.Thin (grpN rs h) := by
  intro g f u g' f' hg hf ne eg ef
  have all : ∀ {n k : Nat}, firstN (rowS (knownL rs)) k n = none → ∀ i, k ≤ i → i < k + n → rowS (knownL rs) i = none := by
    intro n
    induction n with
    | zero => intro k _ i h1 h2; omega
    | succ n ih =>
      intro k e i h1 h2
      rw [firstN] at e
      cases c : rowS (knownL rs) k with
      | some v => rw [c] at e; cases e
      | none =>
        rw [c] at e
        by_cases hi : i = k
        · rw [hi]; exact c
        · exact ih e i (by omega) (by omega)
  obtain ⟨i, hi, e1⟩ := List.getElem_of_mem (show g ∈ knownL rs from hg)
  have h1 := all t i (Nat.zero_le _) (by omega)
  have e2 : (knownL rs)[i]? = some g := by rw [List.getElem?_eq_getElem hi, e1]
  rw [rowS_at e2] at h1
  unfold thickAt at h1
  have h2 : (knownL rs).find? (thickB g) = none := by
    cases c : (knownL rs).find? (thickB g) with
    | none => rfl
    | some v => rw [c] at h1; cases h1
  rw [List.find?_eq_none] at h2
  have h3 := h2 f (show f ∈ knownL rs from hf)
  rw [thickB_iff] at h3
  have lc : ∀ (u a b : List Nat), u.length ≤ lcp (u ++ a) (u ++ b) := by
    intro u
    induction u with
    | nil => intro a b; exact Nat.zero_le _
    | cons x u ih =>
      intro a b
      show u.length + 1 ≤ (if x = x then lcp (u ++ a) (u ++ b) + 1 else 0)
      rw [if_pos rfl]
      have := ih a b
      omega
  have := lc u g' f'
  rw [← eg, ← ef] at this
  apply Classical.byContradiction
  intro q
  exact h3 ⟨ne, by omega⟩
/-- a short word that thin rings make is empty -/
theorem short_nil {rs : List (List Nat)} {h : okN rs} (t : thickD (knownL rs) = none) {w : List Nat} (hw : W w) (tw : tidy w = true) (nh : noHalf rs w) (nn : Nn rs h w) : w = [] := by
  apply Classical.byContradiction
  intro ne
  obtain ⟨n, nn⟩ := nn
  obtain ⟨a, u, b, s, e, h1, h2⟩ := DN.dehn (thin_of h t) (fun r hr => red_tidy (known_W h hr) (known_tidy h hr)) w.length n w (Nat.le_refl _) ne (red_tidy hw tw) nn
  have h1 : u ++ s ∈ knownL rs := h1
  have h3 := subIx_none (nh (u ++ s) h1) a.length
  refine h3 ⟨?_, ?_⟩
  · unfold halfL
    rw [e, List.length_take]
    simp only [List.length_append]
    omega
  · unfold halfL
    rw [e, List.append_assoc, List.drop_left, List.length_take, List.length_append]
    rw [List.take_append_of_le_length (by omega), List.take_append_of_le_length (by omega)]
    congr 1
    omega
end GB
namespace GB
open PySem PySem.Spec PyProof.Rows L2
theorem rep_last (w : List Nat) (k : Nat) : rep w (k + 1) = rep w k ++ w := by rw [rep_add, rep_1]
theorem rep_bkw (w : List Nat) : ∀ k, rep (bkw w) k = bkw (rep w k)
  | 0 => rfl
  | k + 1 => by rw [rep_succ, rep_last, bkw_app, rep_bkw]
section
variable {rs : List (List Nat)} {h : okN rs}
theorem nn_red {w : List Nat} (hw : W w) : Nn rs h (red w) ↔ Nn rs h w := by
  have go : ∀ (v s : List Nat), W s → W v → (Nn rs h (s.reverse ++ v) ↔ Nn rs h (run s v).reverse) := by
    intro v
    induction v with
    | nil => intro s _ _; rw [List.append_nil]; rfl
    | cons c v ih =>
      intro s ws wv
      have hc := wv.head
      show _ ↔ Nn rs h (run (step s c) v).reverse
      cases s with
      | nil =>
        have := ih [c] (W1 hc) wv.tail
        exact this
      | cons x s =>
        have hx := ws.head
        by_cases e : x = bk c
        · have e1 : step (x :: s) c = s := if_pos e
          rw [e1, ← ih s ws.tail wv.tail]
          have ec : c = bk x := by rw [e, bk_bk hc]
          subst ec
          have := Nn.pair (h := h) (u := s.reverse) (w := v) hx
          rw [← this]
          simp
        · have e1 : step (x :: s) c = c :: x :: s := if_neg e
          rw [e1]
          have w2 : W (c :: x :: s) := fun d hd => by
            rcases List.mem_cons.mp hd with rfl | hd
            · exact hc
            · exact ws d hd
          rw [← ih (c :: x :: s) w2 wv.tail]
          simp
  exact (go w [] W.nil hw).symm
theorem nn_inv {w : List Nat} (hw : W w) : Nn rs h (bkw w) ↔ Nn rs h w :=
  ⟨fun a => by have := a.inv hw.bkw; rwa [bkw_bkw hw] at this, fun a => a.inv hw⟩
theorem nn_rep_low {r : List Nat} {m : Nat} (t : thickD (knownL rs) = none) (hr : W r) (h0 : r ≠ []) (mem : rep r m ∈ rs) {k : Nat} (k0 : 0 < k) (km : 2 * k ≤ m) : ¬ Nn rs h (rep r k) := by
  rintro ⟨n, nn⟩
  have lr : 1 ≤ r.length := List.length_pos_iff.mpr h0
  have wk := rep_w hr k
  have ne : rep r k ≠ [] := fun e => by
    have := rep_len2 r k
    rw [e] at this
    have : 1 ≤ k * r.length := Nat.mul_pos k0 lr
    simp at *
    omega
  obtain ⟨_, _, cr⟩ := h _ mem
  have split : rep r m = rep r k ++ rep r (m - k) := by rw [← rep_add]; congr 1; omega
  have tk : tidy (rep r k) = true := by
    have := cr.1
    rw [split] at this
    exact ((tidy_app wk (rep_w hr _)).mp this).1
  obtain ⟨a, u, b, s, e, h1, h2⟩ := DN.dehn (thin_of h t) (fun r hr => red_tidy (known_W h hr) (known_tidy h hr)) _ n _ (Nat.le_refl _) ne (red_tidy wk tk) nn
  have kn : u ++ (b ++ rep r (m - k) ++ a) ∈ knownL rs := by
    refine known_iff.mpr ⟨rep r m, mem, .inl (rt_mem.mpr ⟨a, u ++ b ++ rep r (m - k), ?_, ?_⟩)⟩
    · rw [split, e]; simp
    · simp
  have ll := congrArg List.length e
  rw [rep_len2] at ll
  simp only [List.length_append] at ll
  have lm : (u ++ (b ++ rep r (m - k) ++ a)).length = m * r.length := by
    have : (m - k) * r.length + k * r.length = m * r.length := by rw [← Nat.add_mul]; congr 1; omega
    simp only [List.length_append, rep_len2]
    omega
  by_cases q : u ++ s = u ++ (b ++ rep r (m - k) ++ a)
  · have l2 := congrArg List.length q
    rw [lm, List.length_append] at l2
    have : 2 * k * r.length ≤ m * r.length := Nat.mul_le_mul_right _ km
    rw [Nat.mul_assoc] at this
    omega
  · have := thin_of h t (u ++ s) (u ++ (b ++ rep r (m - k) ++ a)) u s _ h1 kn q rfl rfl
    rw [List.length_append] at this
    omega
theorem nn_rep {r : List Nat} {m : Nat} (t : thickD (knownL rs) = none) (hr : W r) (h0 : r ≠ []) (m1 : 1 ≤ m) (mem : rep r m ∈ rs) (k : Nat) : Nn rs h (rep r k) ↔ k % m = 0 := by
  have ring : Nn rs h (rep r m) := Nn.ring (known_iff.mpr ⟨_, mem, .inl (rt_mem.mpr (Rt.refl _))⟩)
  have mul : ∀ j, Nn rs h (rep r (m * j)) := fun j => by
    induction j with
    | zero => exact Nn.nil
    | succ j ih =>
      rw [Nat.mul_succ, rep_add]
      have := ring.ins (u := rep r (m * j)) (w := []) (by simpa using ih)
      simpa using this
  have e : rep r k = rep r (m * (k / m)) ++ rep r (k % m) := by rw [← rep_add, Nat.div_add_mod]
  have lo : Nn rs h (rep r k) ↔ Nn rs h (rep r (k % m)) := by
    rw [e]
    have := Nn.mid (h := h) W.nil (rep_w hr (m * (k / m))) (rep_w hr (k % m)) (mul _)
    simpa using this
  rw [lo]
  have hk : k % m < m := Nat.mod_lt _ (by omega)
  generalize k % m = j at *
  constructor
  · intro a
    apply Classical.byContradiction
    intro j0
    by_cases c : 2 * j ≤ m
    · exact nn_rep_low t hr h0 mem (by omega) c a
    · have e2 : rep r m = rep r j ++ rep r (m - j) := by rw [← rep_add]; congr 1; omega
      rw [e2] at ring
      have := (Nn.mid (h := h) W.nil (rep_w hr j) (rep_w hr (m - j)) a).mp (by simpa using ring)
      exact nn_rep_low t hr h0 mem (k := m - j) (by omega) (by omega) (by simpa using this)
  · intro e
    rw [e]
    exact Nn.nil
theorem nn_pow {r : List Nat} {m : Nat} (t : thickD (knownL rs) = none) (hr : W r) (h0 : r ≠ []) (m1 : 1 ≤ m) (mem : rep r m ∈ rs) (n : Int) : Nn rs h (red (rep (if 0 ≤ n then r else bkw r) n.natAbs)) ↔ n % (m : Int) = 0 := by
  have key : n % (m : Int) = 0 ↔ n.natAbs % m = 0 := by
    rw [← Int.dvd_iff_emod_eq_zero, ← Int.natAbs_dvd_natAbs, Int.natAbs_natCast, Nat.dvd_iff_mod_eq_zero]
  rw [key]
  by_cases z : 0 ≤ n
  · rw [if_pos z, nn_red (rep_w hr _), nn_rep t hr h0 m1 mem]
  · rw [if_neg z, nn_red (rep_w hr.bkw _), rep_bkw, nn_inv (rep_w hr _), nn_rep t hr h0 m1 mem]
/-- alike by rings -/
def Eqv (rs : List (List Nat)) (h : okN rs) (u v : List Nat) : Prop := Nn rs h (u ++ bkw v)
theorem Eqv.refl {u : List Nat} (hu : W u) : Eqv rs h u u := by
  have := (Nn.putW (h := h) (u := []) (v := []) hu).mpr Nn.nil
  simpa [Eqv] using this
theorem Eqv.symm {u v : List Nat} (hu : W u) (hv : W v) (a : Eqv rs h u v) : Eqv rs h v u := by
  have := a.inv (hu.app hv.bkw)
  rw [bkw_app, bkw_bkw hv] at this
  exact this
theorem Eqv.trans {u v w : List Nat} (hu : W u) (hv : W v) (hw : W w) (a : Eqv rs h u v) (b : Eqv rs h v w) : Eqv rs h u w := by
  have c : Nn rs h ((u ++ bkw v) ++ (v ++ bkw w)) := by
    unfold Eqv at a b
    have := b.ins (u := u ++ bkw v) (w := []) (by simpa using a)
    simpa using this
  have c : Nn rs h (u ++ bkw v ++ v ++ bkw w) := by simpa using c
  rwa [Nn.putW' hv] at c
/-- what is alike may stand for one another -/
theorem Eqv.in {u v : List Nat} (hu : W u) (hv : W v) (a : Eqv rs h u v) {x y : List Nat} (hx : W x) (hy : W y) : Nn rs h (x ++ u ++ y) ↔ Nn rs h (x ++ v ++ y) := by
  have one : ∀ {u v : List Nat}, W u → W v → Eqv rs h u v → Nn rs h (x ++ v ++ y) → Nn rs h (x ++ u ++ y) := fun {u v} hu hv a b => by
    have c := Nn.ins (h := h) (u := x) (v := u ++ bkw v) (w := v ++ y) a (by simpa using b)
    have c : Nn rs h ((x ++ u) ++ bkw v ++ v ++ y) := by simpa using c
    rwa [Nn.putW' hv] at c
  exact ⟨one hv hu (a.symm hu hv), one hu hv a⟩
theorem Eqv.ahead {u v p : List Nat} (hp : W p) : Eqv rs h (p ++ u) (p ++ v) ↔ Eqv rs h u v := by
  unfold Eqv
  rw [bkw_app]
  have := Nn.by (h := h) (w := u ++ bkw v) hp
  rw [← this]
  simp
theorem Eqv.later {u v p : List Nat} (hp : W p) : Eqv rs h (u ++ p) (v ++ p) ↔ Eqv rs h u v := by
  unfold Eqv
  rw [bkw_app]
  have := Nn.putW (h := h) (u := u) (v := bkw v) hp
  rw [← this]
  simp
theorem Eqv.back {u v : List Nat} (hu : W u) (hv : W v) : Eqv rs h (bkw u) (bkw v) ↔ Eqv rs h u v := by
  unfold Eqv
  rw [bkw_bkw hv]
  have a : Nn rs h (bkw u ++ v) ↔ Nn rs h (bkw v ++ u) := by
    have := nn_inv (h := h) (hu.bkw.app hv)
    rw [bkw_app, bkw_bkw hu] at this
    exact this.symm
  rw [a]
  exact ⟨fun b => b.cyc, fun b => b.cyc⟩
end
end GB
namespace W_k91
open PySem PySem.Spec PyProof.Rows L2 GB
def topS (i : Nat) : Stmt := PySem.Challenge.pw_ringwords_k91_whole_one_and_the_same_wor.main.body.getD i (.Pass ⟨0, 0, 0, 0⟩)
abbrev st_NoThin : Stmt := clsS 0 (topS 2)
abbrev n_NoThin : List Str := ["self", "turn", "other", "piece"]
theorem sc_NoThin : FnScope n_NoThin n_NoThin (defScope st_NoThin) := ⟨rfl, rfl, rfl, by decide +kernel, rfl, by decide +kernel, by decide +kernel⟩
noncomputable def m_NoThin : Rho → Rs Opd :=
  (e2 (p2 fAdd) (e2 (p2 fAdd) (e2 (p2 fAdd) (e2 (p2 fAdd) (e2 (p2 fAdd) (eC (.str [110, 111, 116, 32, 116, 104, 105, 110, 58, 32])) (e1 (p1 fStr) (eVar 1))) (eC (.str [32, 97, 110, 100, 32]))) (e1 (p1 fStr) (eVar 2))) (eC (.str [32, 115, 104, 97, 114, 101, 32]))) (e1 (p1 fStr) (eVar 3)))
noncomputable abbrev X_NoThin : List D → Option (List (Str × D)) := mkX ["turn", "other", "piece"] m_NoThin
abbrev st_back_of : Stmt := topS 5
abbrev n_back_of : List Str := ["letter"]
abbrev p_back_of : List Str := ["letter"]
theorem sc_back_of : FnScope n_back_of p_back_of (defScope st_back_of) := ⟨rfl, rfl, rfl, by decide +kernel, rfl, by decide +kernel, by decide +kernel⟩
noncomputable def b_back_of : Rho → Fl :=
  (fRet (eIf (eBl (e2 qIn (eVar 0) (eC (.str [97, 98, 99, 100, 101, 102])))) (eMeth isStr (p1 fUpper) (eVar 0) eNil) (eMeth isStr (p1 fLower) (eVar 0) eNil)))
noncomputable def F_back_of : Fs := lockF (runF 1 b_back_of)
theorem F_back_of_eq : F_back_of = runF 1 b_back_of := lockF_eq _
abbrev st_turns : Stmt := topS 11
abbrev n_turns : List Str := ["word", "place"]
abbrev p_turns : List Str := ["word"]
theorem sc_turns : FnScope n_turns p_turns (defScope st_turns) := ⟨rfl, rfl, rfl, by decide +kernel, rfl, by decide +kernel, by decide +kernel⟩
noncomputable def ce_turns_1 : Rho → Rs Opd :=
  (e2 (p2 fAdd) (eSl (eVar 0) (some (eVar 1)) none) (eSl (eVar 0) none (some (eVar 1))))
noncomputable def b_turns : Rho → Fl :=
  (fRet (eLc (eCons (eCall qMax (eCons (eC (.int 1)) (eCons (e1 (p1 fLen) (eVar 0)) eNil))) eNil) mkR1 (gNm 1) eYes ce_turns_1 [1]))
noncomputable def F_turns : Fs := lockF (runF 2 b_turns)
theorem F_turns_eq : F_turns = runF 2 b_turns := lockF_eq _
abbrev st_rooted : Stmt := topS 12
abbrev n_rooted : List Str := ["word", "sizes", "size"]
abbrev p_rooted : List Str := ["word"]
theorem sc_rooted : FnScope n_rooted p_rooted (defScope st_rooted) := ⟨rfl, rfl, rfl, by decide +kernel, rfl, by decide +kernel, by decide +kernel⟩
noncomputable def ct_rooted_1 : Rho → Rs Bool :=
  (eBl (e2 (p2 fEq) (e2 qMul (eSl (eVar 0) none (some (eVar 2))) (e2 (p2 (fInts fDivI)) (e1 (p1 fLen) (eVar 0)) (eVar 2))) (eVar 0)))
noncomputable def ce_rooted_1 : Rho → Rs Opd :=
  (eVar 2)
noncomputable def b_rooted : Rho → Fl :=
  (fSeq (fSet 1 (eLc (eCons (eC (.int 1)) (eCons (e2 (p2 fAdd) (e1 (p1 fLen) (eVar 0)) (eC (.int 1))) eNil)) mkR2 (gNm 2) ct_rooted_1 ce_rooted_1 [2]))
  (fRet (eTup (eCons (eSl (eVar 0) none (some (e2 qIx (eVar 1) (eC (.int 0))))) (eCons (e2 (p2 (fInts fDivI)) (e1 (p1 fLen) (eVar 0)) (e2 qIx (eVar 1) (eC (.int 0)))) eNil)))))
noncomputable def F_rooted : Fs := lockF (runF 3 b_rooted)
theorem F_rooted_eq : F_rooted = runF 3 b_rooted := lockF_eq _
abbrev st_shared : Stmt := topS 16
abbrev n_shared : List Str := ["one", "other", "many"]
abbrev p_shared : List Str := ["one", "other"]
theorem sc_shared : FnScope n_shared p_shared (defScope st_shared) := ⟨rfl, rfl, rfl, by decide +kernel, rfl, by decide +kernel, by decide +kernel⟩
noncomputable def wt_shared_1 : Rho → Rs Bool :=
  (eAndT (eBl (e2 qLt (eVar 2) (eCall qMin (eCons (e1 (p1 fLen) (eVar 0)) (eCons (e1 (p1 fLen) (eVar 1)) eNil))))) (eBl (e2 (p2 fEq) (e2 qIx (eVar 0) (eVar 2)) (e2 qIx (eVar 1) (eVar 2)))))
noncomputable def wb_shared_1 : Rho → Fl :=
  (fSet 2 (e2 (p2 fAdd) (eVar 2) (eC (.int 1))))
noncomputable def b_shared : Rho → Fl :=
  (fSeq (fSet 2 (eC (.int 0)))
  (fSeq (fWhile wt_shared_1 wb_shared_1)
  (fRet (eSl (eVar 0) none (some (eVar 2))))))
noncomputable def F_shared : Fs := lockF (runF 3 b_shared)
theorem F_shared_eq : F_shared = runF 3 b_shared := lockF_eq _
abbrev st_half_of : Stmt := topS 26
abbrev n_half_of : List Str := ["turn"]
abbrev p_half_of : List Str := ["turn"]
theorem sc_half_of : FnScope n_half_of p_half_of (defScope st_half_of) := ⟨rfl, rfl, rfl, by decide +kernel, rfl, by decide +kernel, by decide +kernel⟩
noncomputable def b_half_of : Rho → Fl :=
  (fRet (eSl (eVar 0) none (some (e2 (p2 fAdd) (e2 (p2 (fInts fDivI)) (e1 (p1 fLen) (eVar 0)) (eC (.int 2))) (eC (.int 1))))))
noncomputable def F_half_of : Fs := lockF (runF 1 b_half_of)
theorem F_half_of_eq : F_half_of = runF 1 b_half_of := lockF_eq _
abbrev st__law_feed : Stmt := topS 34
abbrev n__law_feed : List Str := ["_law_script"]
abbrev p__law_feed : List Str := ["_law_script"]
theorem sc__law_feed : FnScope n__law_feed p__law_feed (defScope st__law_feed) := ⟨rfl, rfl, rfl, by decide +kernel, rfl, by decide +kernel, by decide +kernel⟩
noncomputable def b__law_feed : Rho → Fl :=
  (fRet (eDisp [((eC (.str [99, 101, 108, 108, 115])), (e2 (p2 fAdd) (e1 (p1 fListU) (eSl (eVar 0) none (some (eC (.int 63))))) (e2 qMul (eLst (eCons (eC (.int 0)) eNil)) (e1 (p1 fInt1) (e2 (p2 fEq) (e1 (p1 fLen) (eVar 0)) (eC (.int 0))))))), ((eC (.str [97, 116])), (eC (.int 0))), ((eC (.str [108, 101, 102, 116])), (eC (.int 0))), ((eC (.str [116, 117, 114, 110])), (eC (.int 0)))]))
noncomputable def F__law_feed : Fs := lockF (runF 1 b__law_feed)
theorem F__law_feed_eq : F__law_feed = runF 1 b__law_feed := lockF_eq _
abbrev st__law_draw : Stmt := topS 35
abbrev n__law_draw : List Str := ["_law_feed_here", "_law_many", "_law_cell", "_law_mixed", "_law_found"]
abbrev p__law_draw : List Str := ["_law_feed_here", "_law_many"]
theorem sc__law_draw : FnScope n__law_draw p__law_draw (defScope st__law_draw) := ⟨rfl, rfl, rfl, by decide +kernel, rfl, by decide +kernel, by decide +kernel⟩
noncomputable def b__law_draw : Rho → Fl :=
  (fSeq (fPut 0 mPut (e2 (p2 fAdd) (e2 qIx (eVar 0) (eC (.str [116, 117, 114, 110]))) (eC (.int 1))) (eC (.str [116, 117, 114, 110])))
  (fSeq (fIf (eBl (e2 (p2 fEq) (e2 qIx (eVar 0) (eC (.str [108, 101, 102, 116]))) (eC (.int 0)))) (fSeq (fSet 2 (e2 qIx (e2 qIx (eVar 0) (eC (.str [99, 101, 108, 108, 115]))) (e2 (p2 (fInts fModI)) (e2 qIx (eVar 0) (eC (.str [97, 116]))) (e1 (p1 fLen) (e2 qIx (eVar 0) (eC (.str [99, 101, 108, 108, 115])))))))
  (fSeq (fPut 0 mPut (e2 (p2 fAdd) (e2 qIx (eVar 0) (eC (.str [97, 116]))) (eC (.int 1))) (eC (.str [97, 116])))
  (fSeq (fIf (eBl (e2 qLt (eVar 2) (e2 (p2 (fInts fPowI)) (eC (.int 10)) (eC (.int 18))))) (fSeq (fSet 3 (e2 (p2 (fInts fModI)) (e2 qMul (e2 (p2 fAdd) (e2 (p2 (fInts fModI)) (eVar 2) (eC (.int 2147483629))) (e2 qMul (eC (.int 1013)) (e2 qIx (eVar 0) (eC (.str [116, 117, 114, 110]))))) (eC (.int 48271))) (eC (.int 2147483647))))
  (fSeq (fSet 3 (e2 (p2 (fInts fModI)) (e2 qMul (e2 (p2 fAdd) (e2 (p2 (fInts fDivI)) (eVar 3) (eC (.int 11))) (e2 qMul (eC (.int 41)) (e2 qIx (eVar 0) (eC (.str [116, 117, 114, 110]))))) (eC (.int 69621))) (eC (.int 2147483587))))
  (fRet (e2 (p2 (fInts fModI)) (e2 (p2 (fInts fDivI)) (eVar 3) (eC (.int 7))) (eVar 1)))))
  fNil)
  (fPut 0 mPut (eVar 2) (eC (.str [108, 101, 102, 116]))))))
  fNil)
  (fSeq (fSet 4 (e2 (p2 (fInts fModI)) (e2 qIx (eVar 0) (eC (.str [108, 101, 102, 116]))) (eVar 1)))
  (fSeq (fPut 0 mPut (e2 (p2 (fInts fDivI)) (e2 qIx (eVar 0) (eC (.str [108, 101, 102, 116]))) (eVar 1)) (eC (.str [108, 101, 102, 116])))
  (fRet (eVar 4))))))
noncomputable def F__law_draw : Fs := lockF (runF 5 b__law_draw)
theorem F__law_draw_eq : F__law_draw = runF 5 b__law_draw := lockF_eq _
abbrev st__law_back : Stmt := topS 36
abbrev n__law_back : List Str := ["_law_word", "_law_found", "_law_sign"]
abbrev p__law_back : List Str := ["_law_word"]
theorem sc__law_back : FnScope n__law_back p__law_back (defScope st__law_back) := ⟨rfl, rfl, rfl, by decide +kernel, rfl, by decide +kernel, by decide +kernel⟩
noncomputable def fb__law_back_1 : Rho → Fl :=
  (fSet 1 (e2 (p2 fAdd) (eIf (eBl (e2 qIn (eVar 2) (eC (.str [97, 98, 99, 100, 101, 102])))) (eMeth isStr (p1 fUpper) (eVar 2) eNil) (eMeth isStr (p1 fLower) (eVar 2) eNil)) (eVar 1)))
noncomputable def b__law_back : Rho → Fl :=
  (fSeq (fSet 1 (eC (.str [])))
  (fSeq (fFor (eCons (eVar 0) eNil) mkSeq (gNm 2) fb__law_back_1)
  (fRet (eVar 1))))
noncomputable def F__law_back : Fs := lockF (runF 3 b__law_back)
theorem F__law_back_eq : F__law_back = runF 3 b__law_back := lockF_eq _
abbrev st__law_share : Stmt := topS 42
abbrev n__law_share : List Str := ["_law_one", "_law_other", "_law_many"]
abbrev p__law_share : List Str := ["_law_one", "_law_other"]
theorem sc__law_share : FnScope n__law_share p__law_share (defScope st__law_share) := ⟨rfl, rfl, rfl, by decide +kernel, rfl, by decide +kernel, by decide +kernel⟩
noncomputable def wt__law_share_1 : Rho → Rs Bool :=
  (eAndT (eBl (e2 qLt (eVar 2) (eCall qMin (eCons (e1 (p1 fLen) (eVar 0)) (eCons (e1 (p1 fLen) (eVar 1)) eNil))))) (eBl (e2 (p2 fEq) (eSl (eVar 0) none (some (e2 (p2 fAdd) (eVar 2) (eC (.int 1))))) (eSl (eVar 1) none (some (e2 (p2 fAdd) (eVar 2) (eC (.int 1))))))))
noncomputable def wb__law_share_1 : Rho → Fl :=
  (fSet 2 (e2 (p2 fAdd) (eVar 2) (eC (.int 1))))
noncomputable def b__law_share : Rho → Fl :=
  (fSeq (fSet 2 (eC (.int 0)))
  (fSeq (fWhile wt__law_share_1 wb__law_share_1)
  (fRet (eSl (eVar 0) none (some (eVar 2))))))
noncomputable def F__law_share : Fs := lockF (runF 3 b__law_share)
theorem F__law_share_eq : F__law_share = runF 3 b__law_share := lockF_eq _
abbrev st_back : Stmt := topS 6
abbrev n_back : List Str := ["word", "sign"]
abbrev p_back : List Str := ["word"]
theorem sc_back : FnScope n_back p_back (defScope st_back) := ⟨rfl, rfl, rfl, by decide +kernel, rfl, by decide +kernel, by decide +kernel⟩
noncomputable def ce_back_1 : Rho → Rs Opd :=
  (eFn F_back_of (eCons (eVar 1) eNil))
noncomputable def b_back : Rho → Fl :=
  (fRet (eMeth isStr (p2 fJoin) (eC (.str [])) (eCons (eLc (eCons (e1 qRev (eVar 0)) eNil) mkSeq (gNm 1) eYes ce_back_1 [1]) eNil)))
noncomputable def F_back : Fs := lockF (runF 2 b_back)
theorem F_back_eq : F_back = runF 2 b_back := lockF_eq _
abbrev st_reduced : Stmt := topS 7
abbrev n_reduced : List Str := ["word", "left", "sign"]
abbrev p_reduced : List Str := ["word"]
theorem sc_reduced : FnScope n_reduced p_reduced (defScope st_reduced) := ⟨rfl, rfl, rfl, by decide +kernel, rfl, by decide +kernel, by decide +kernel⟩
noncomputable def fb_reduced_1 : Rho → Fl :=
  (fIf (eAndT (eBl (e2 qGt (e1 (p1 fLen) (eVar 1)) (eC (.int 0)))) (eBl (e2 (p2 fEq) (e2 qIx (eVar 1) (e1 (p1 fNeg) (eC (.int 1)))) (eFn F_back_of (eCons (eVar 2) eNil))))) (fExpr (eMut isOL (mOf fPop0) 1 eNil))
  (fExpr (eMut isOL (mOf fApp) 1 (eCons (eVar 2) eNil))))
noncomputable def b_reduced : Rho → Fl :=
  (fSeq (fSet 1 (eLst eNil))
  (fSeq (fFor (eCons (eVar 0) eNil) mkSeq (gNm 2) fb_reduced_1)
  (fRet (eMeth isStr (p2 fJoin) (eC (.str [])) (eCons (eVar 1) eNil)))))
noncomputable def F_reduced : Fs := lockF (runF 3 b_reduced)
theorem F_reduced_eq : F_reduced = runF 3 b_reduced := lockF_eq _
abbrev st_is_thick : Stmt := topS 17
abbrev n_is_thick : List Str := ["turn", "other"]
abbrev p_is_thick : List Str := ["turn", "other"]
theorem sc_is_thick : FnScope n_is_thick p_is_thick (defScope st_is_thick) := ⟨rfl, rfl, rfl, by decide +kernel, rfl, by decide +kernel, by decide +kernel⟩
noncomputable def b_is_thick : Rho → Fl :=
  (fRet (eAnd (e2 (p2 fNe) (eVar 0) (eVar 1)) (e2 qGe (e2 qMul (eC (.int 6)) (e1 (p1 fLen) (eFn F_shared (eCons (eVar 0) (eCons (eVar 1) eNil))))) (e1 (p1 fLen) (eVar 0)))))
noncomputable def F_is_thick : Fs := lockF (runF 2 b_is_thick)
theorem F_is_thick_eq : F_is_thick = runF 2 b_is_thick := lockF_eq _
abbrev st_out_of : Stmt := topS 21
abbrev n_out_of : List Str := ["word", "place"]
abbrev p_out_of : List Str := ["word", "place"]
theorem sc_out_of : FnScope n_out_of p_out_of (defScope st_out_of) := ⟨rfl, rfl, rfl, by decide +kernel, rfl, by decide +kernel, by decide +kernel⟩
noncomputable def b_out_of : Rho → Fl :=
  (fSeq (fIf (eOrT (eBl (e2 qGe (e2 (p2 fAdd) (eVar 1) (eC (.int 1))) (e1 (p1 fLen) (eVar 0)))) (eBl (e2 (p2 fNe) (e2 qIx (eVar 0) (e2 (p2 fAdd) (eVar 1) (eC (.int 1)))) (eFn F_back_of (eCons (e2 qIx (eVar 0) (eVar 1)) eNil))))) (fRet (eC .non))
  fNil)
  (fRet (e2 (p2 fAdd) (eSl (eVar 0) none (some (eVar 1))) (eSl (eVar 0) (some (e2 (p2 fAdd) (eVar 1) (eC (.int 2)))) none))))
noncomputable def F_out_of : Fs := lockF (runF 2 b_out_of)
theorem F_out_of_eq : F_out_of = runF 2 b_out_of := lockF_eq _
abbrev st_put_in : Stmt := topS 22
abbrev n_put_in : List Str := ["word", "place", "letter"]
abbrev p_put_in : List Str := ["word", "place", "letter"]
theorem sc_put_in : FnScope n_put_in p_put_in (defScope st_put_in) := ⟨rfl, rfl, rfl, by decide +kernel, rfl, by decide +kernel, by decide +kernel⟩
noncomputable def b_put_in : Rho → Fl :=
  (fSeq (fIf (eBl (e2 qGt (eVar 1) (e1 (p1 fLen) (eVar 0)))) (fRet (eC .non))
  fNil)
  (fRet (e2 (p2 fAdd) (e2 (p2 fAdd) (e2 (p2 fAdd) (eSl (eVar 0) none (some (eVar 1))) (eVar 2)) (eFn F_back_of (eCons (eVar 2) eNil))) (eSl (eVar 0) (some (eVar 1)) none))))
noncomputable def F_put_in : Fs := lockF (runF 3 b_put_in)
theorem F_put_in_eq : F_put_in = runF 3 b_put_in := lockF_eq _
abbrev st_out_steps : Stmt := topS 27
abbrev n_out_steps : List Str := ["word", "place"]
abbrev p_out_steps : List Str := ["word"]
theorem sc_out_steps : FnScope n_out_steps p_out_steps (defScope st_out_steps) := ⟨rfl, rfl, rfl, by decide +kernel, rfl, by decide +kernel, by decide +kernel⟩
noncomputable def ct_out_steps_1 : Rho → Rs Bool :=
  (eBl (e2 (p2 fEq) (e2 qIx (eVar 0) (e2 (p2 fAdd) (eVar 1) (eC (.int 1)))) (eFn F_back_of (eCons (e2 qIx (eVar 0) (eVar 1)) eNil))))
noncomputable def ce_out_steps_1 : Rho → Rs Opd :=
  (eTup (eCons (eC (.str [111, 117, 116])) (eCons (eVar 1) eNil)))
noncomputable def b_out_steps : Rho → Fl :=
  (fRet (eLc (eCons (e2 (p2 (fInts fun i j => some (.fz (.int (i - j))))) (e1 (p1 fLen) (eVar 0)) (eC (.int 1))) eNil) mkR1 (gNm 1) ct_out_steps_1 ce_out_steps_1 [1]))
noncomputable def F_out_steps : Fs := lockF (runF 2 b_out_steps)
theorem F_out_steps_eq : F_out_steps = runF 2 b_out_steps := lockF_eq _
abbrev st_ring_step : Stmt := topS 28
abbrev n_ring_step : List Str := ["known", "word", "turn", "half", "place", "many"]
abbrev p_ring_step : List Str := ["known", "word"]
theorem sc_ring_step : FnScope n_ring_step p_ring_step (defScope st_ring_step) := ⟨rfl, rfl, rfl, by decide +kernel, rfl, by decide +kernel, by decide +kernel⟩
noncomputable def wt_ring_step_1 : Rho → Rs Bool :=
  (eAndT (eBl (e2 qLt (eVar 5) (e1 (p1 fLen) (eVar 2)))) (eBl (e2 (p2 fEq) (eSl (eVar 1) (some (e2 (p2 fAdd) (eVar 4) (eVar 5))) (some (e2 (p2 fAdd) (e2 (p2 fAdd) (eVar 4) (eVar 5)) (eC (.int 1))))) (e2 qIx (eVar 2) (eVar 5)))))
noncomputable def wb_ring_step_1 : Rho → Fl :=
  (fSet 5 (e2 (p2 fAdd) (eVar 5) (eC (.int 1))))
noncomputable def fb_ring_step_2 : Rho → Fl :=
  (fSeq (fSet 3 (eFn F_half_of (eCons (eVar 2) eNil)))
  (fSeq (fSet 4 (eMeth isStr (p2 fFind) (eVar 1) (eCons (eVar 3) eNil)))
  (fIf (eBl (e2 qGe (eVar 4) (eC (.int 0)))) (fSeq (fSet 5 (e1 (p1 fLen) (eVar 3)))
  (fSeq (fWhile wt_ring_step_1 wb_ring_step_1)
  (fRet (eTup (eCons (eC (.str [114, 105, 110, 103])) (eCons (eVar 4) (eCons (eVar 2) (eCons (eVar 5) eNil))))))))
  fNil)))
noncomputable def b_ring_step : Rho → Fl :=
  (fSeq (fFor (eCons (eVar 0) eNil) mkSeq (gNm 2) fb_ring_step_2)
  (fRet (eC .non)))
noncomputable def F_ring_step : Fs := lockF (runF 6 b_ring_step)
theorem F_ring_step_eq : F_ring_step = runF 6 b_ring_step := lockF_eq _
abbrev st__law_reduced : Stmt := topS 37
abbrev n__law_reduced : List Str := ["_law_word", "_law_at"]
abbrev p__law_reduced : List Str := ["_law_word"]
theorem sc__law_reduced : FnScope n__law_reduced p__law_reduced (defScope st__law_reduced) := ⟨rfl, rfl, rfl, by decide +kernel, rfl, by decide +kernel, by decide +kernel⟩
noncomputable def wt__law_reduced_1 : Rho → Rs Bool :=
  (eBl (e2 qLt (e2 (p2 fAdd) (eVar 1) (eC (.int 1))) (e1 (p1 fLen) (eVar 0))))
noncomputable def wb__law_reduced_1 : Rho → Fl :=
  (fIf (eBl (e2 (p2 fEq) (e2 qIx (eVar 0) (e2 (p2 fAdd) (eVar 1) (eC (.int 1)))) (eFn F__law_back (eCons (e2 qIx (eVar 0) (eVar 1)) eNil)))) (fSeq (fSet 0 (e2 (p2 fAdd) (eSl (eVar 0) none (some (eVar 1))) (eSl (eVar 0) (some (e2 (p2 fAdd) (eVar 1) (eC (.int 2)))) none)))
  (fSet 1 (eCall qMax (eCons (eC (.int 0)) (eCons (e2 (p2 (fInts fun i j => some (.fz (.int (i - j))))) (eVar 1) (eC (.int 1))) eNil)))))
  (fSet 1 (e2 (p2 fAdd) (eVar 1) (eC (.int 1)))))
noncomputable def b__law_reduced : Rho → Fl :=
  (fSeq (fSet 1 (eC (.int 0)))
  (fSeq (fWhile wt__law_reduced_1 wb__law_reduced_1)
  (fRet (eVar 0))))
noncomputable def F__law_reduced : Fs := lockF (runF 2 b__law_reduced)
theorem F__law_reduced_eq : F__law_reduced = runF 2 b__law_reduced := lockF_eq _
abbrev st__law_some : Stmt := topS 38
abbrev n__law_some : List Str := ["_law_feed_here", "_law_many", "_law_most", "_law_signs", "_law_k"]
abbrev p__law_some : List Str := ["_law_feed_here", "_law_many", "_law_most"]
theorem sc__law_some : FnScope n__law_some p__law_some (defScope st__law_some) := ⟨rfl, rfl, rfl, by decide +kernel, rfl, by decide +kernel, by decide +kernel⟩
noncomputable def ce__law_some_1 : Rho → Rs Opd :=
  (e2 qIx (eVar 3) (eFn F__law_draw (eCons (eVar 0) (eCons (e2 qMul (eC (.int 2)) (eVar 1)) eNil))))
noncomputable def b__law_some : Rho → Fl :=
  (fSeq (fSet 3 (e2 (p2 fAdd) (eSl (eC (.str [97, 98, 99, 100, 101, 102])) none (some (eVar 1))) (eSl (eC (.str [65, 66, 67, 68, 69, 70])) none (some (eVar 1)))))
  (fRet (eMeth isStr (p2 fJoin) (eC (.str [])) (eCons (eLc (eCons (eFn F__law_draw (eCons (eVar 0) (eCons (e2 (p2 fAdd) (eVar 2) (eC (.int 1))) eNil))) eNil) mkR1 (gNm 4) eYes ce__law_some_1 [4]) eNil))))
noncomputable def F__law_some : Fs := lockF (runF 5 b__law_some)
theorem F__law_some_eq : F__law_some = runF 5 b__law_some := lockF_eq _
abbrev st__law_turns_of : Stmt := topS 41
abbrev n__law_turns_of : List Str := ["_law_rings", "_law_found", "_law_ring", "_law_word", "_law_k", "_law_turn"]
abbrev p__law_turns_of : List Str := ["_law_rings"]
theorem sc__law_turns_of : FnScope n__law_turns_of p__law_turns_of (defScope st__law_turns_of) := ⟨rfl, rfl, rfl, by decide +kernel, rfl, by decide +kernel, by decide +kernel⟩
noncomputable def fb__law_turns_of_1 : Rho → Fl :=
  (fSeq (fSet 5 (e2 (p2 fAdd) (eSl (eVar 3) (some (eVar 4)) none) (eSl (eVar 3) none (some (eVar 4)))))
  (fIf (eBl (e2 qNotIn (eVar 5) (eVar 1))) (fExpr (eMut isOL (mOf fApp) 1 (eCons (eVar 5) eNil)))
  fNil))
noncomputable def fb__law_turns_of_2 : Rho → Fl :=
  (fFor (eCons (e1 (p1 fLen) (eVar 3)) eNil) mkR1 (gNm 4) fb__law_turns_of_1)
noncomputable def fb__law_turns_of_3 : Rho → Fl :=
  (fFor (eCons (eTup (eCons (eVar 2) (eCons (eFn F__law_back (eCons (eVar 2) eNil)) eNil))) eNil) mkSeq (gNm 3) fb__law_turns_of_2)
noncomputable def b__law_turns_of : Rho → Fl :=
  (fSeq (fSet 1 (eLst eNil))
  (fSeq (fFor (eCons (eVar 0) eNil) mkSeq (gNm 2) fb__law_turns_of_3)
  (fRet (e1 (p1 fSrt) (eVar 1)))))
noncomputable def F__law_turns_of : Fs := lockF (runF 6 b__law_turns_of)
theorem F__law_turns_of_eq : F__law_turns_of = runF 6 b__law_turns_of := lockF_eq _
abbrev st__law_thick : Stmt := topS 43
abbrev n__law_thick : List Str := ["_law_known", "_law_turn", "_law_other", "_law_piece"]
abbrev p__law_thick : List Str := ["_law_known"]
theorem sc__law_thick : FnScope n__law_thick p__law_thick (defScope st__law_thick) := ⟨rfl, rfl, rfl, by decide +kernel, rfl, by decide +kernel, by decide +kernel⟩
noncomputable def fb__law_thick_1 : Rho → Fl :=
  (fSeq (fSet 3 (eFn F__law_share (eCons (eVar 1) (eCons (eVar 2) eNil))))
  (fIf (eAndT (eBl (e2 (p2 fNe) (eVar 2) (eVar 1))) (eBl (e2 qGe (e2 qMul (e1 (p1 fLen) (eVar 3)) (eC (.int 6))) (e1 (p1 fLen) (eVar 1))))) (fRet (eTup (eCons (eVar 1) (eCons (eVar 2) (eCons (eVar 3) eNil)))))
  fNil))
noncomputable def fb__law_thick_2 : Rho → Fl :=
  (fFor (eCons (eVar 0) eNil) mkSeq (gNm 2) fb__law_thick_1)
noncomputable def b__law_thick : Rho → Fl :=
  (fSeq (fFor (eCons (eVar 0) eNil) mkSeq (gNm 1) fb__law_thick_2)
  (fRet (eC .non)))
noncomputable def F__law_thick : Fs := lockF (runF 4 b__law_thick)
theorem F__law_thick_eq : F__law_thick = runF 4 b__law_thick := lockF_eq _
abbrev st_times : Stmt := topS 8
abbrev n_times : List Str := ["one", "other"]
abbrev p_times : List Str := ["one", "other"]
theorem sc_times : FnScope n_times p_times (defScope st_times) := ⟨rfl, rfl, rfl, by decide +kernel, rfl, by decide +kernel, by decide +kernel⟩
noncomputable def b_times : Rho → Fl :=
  (fRet (eFn F_reduced (eCons (e2 (p2 fAdd) (eVar 0) (eVar 1)) eNil)))
noncomputable def F_times : Fs := lockF (runF 2 b_times)
theorem F_times_eq : F_times = runF 2 b_times := lockF_eq _
abbrev st_power : Stmt := topS 9
abbrev n_power : List Str := ["word", "number", "base"]
abbrev p_power : List Str := ["word", "number"]
theorem sc_power : FnScope n_power p_power (defScope st_power) := ⟨rfl, rfl, rfl, by decide +kernel, rfl, by decide +kernel, by decide +kernel⟩
noncomputable def b_power : Rho → Fl :=
  (fSeq (fSet 2 (eIf (eBl (e2 qGe (eVar 1) (eC (.int 0)))) (eVar 0) (eFn F_back (eCons (eVar 0) eNil))))
  (fRet (eFn F_reduced (eCons (e2 qMul (eVar 2) (e1 (p1 fAbs) (eVar 1))) eNil))))
noncomputable def F_power : Fs := lockF (runF 3 b_power)
theorem F_power_eq : F_power = runF 3 b_power := lockF_eq _
abbrev st_is_turn : Stmt := topS 14
abbrev n_is_turn : List Str := ["rings", "word", "ring"]
abbrev p_is_turn : List Str := ["rings", "word"]
theorem sc_is_turn : FnScope n_is_turn p_is_turn (defScope st_is_turn) := ⟨rfl, rfl, rfl, by decide +kernel, rfl, by decide +kernel, by decide +kernel⟩
noncomputable def fb_is_turn_1 : Rho → Fl :=
  (fIf (eAndT (eBl (e2 (p2 fEq) (e1 (p1 fLen) (eVar 1)) (e1 (p1 fLen) (eVar 2)))) (eOrT (eBl (e2 qIn (eVar 1) (e2 qMul (eVar 2) (eC (.int 2))))) (eBl (e2 qIn (eVar 1) (e2 qMul (eFn F_back (eCons (eVar 2) eNil)) (eC (.int 2))))))) (fRet (eC (.bl true)))
  fNil)
noncomputable def b_is_turn : Rho → Fl :=
  (fSeq (fFor (eCons (eVar 0) eNil) mkSeq (gNm 2) fb_is_turn_1)
  (fRet (eC (.bl false))))
noncomputable def F_is_turn : Fs := lockF (runF 3 b_is_turn)
theorem F_is_turn_eq : F_is_turn = runF 3 b_is_turn := lockF_eq _
abbrev st_turns_of : Stmt := topS 15
abbrev n_turns_of : List Str := ["rings", "found", "ring", "turn"]
abbrev p_turns_of : List Str := ["rings"]
theorem sc_turns_of : FnScope n_turns_of p_turns_of (defScope st_turns_of) := ⟨rfl, rfl, rfl, by decide +kernel, rfl, by decide +kernel, by decide +kernel⟩
noncomputable def fb_turns_of_1 : Rho → Fl :=
  (fPut 1 mPut (eC (.bl true)) (eVar 3))
noncomputable def fb_turns_of_2 : Rho → Fl :=
  (fFor (eCons (e2 (p2 fAdd) (eFn F_turns (eCons (eVar 2) eNil)) (eFn F_turns (eCons (eFn F_back (eCons (eVar 2) eNil)) eNil))) eNil) mkSeq (gNm 3) fb_turns_of_1)
noncomputable def b_turns_of : Rho → Fl :=
  (fSeq (fSet 1 eDic0)
  (fSeq (fFor (eCons (eVar 0) eNil) mkSeq (gNm 2) fb_turns_of_2)
  (fRet (e1 (p1 fSrt) (e1 (p1 fListU) (eVar 1))))))
noncomputable def F_turns_of : Fs := lockF (runF 4 b_turns_of)
theorem F_turns_of_eq : F_turns_of = runF 4 b_turns_of := lockF_eq _
abbrev st_next_step : Stmt := topS 29
abbrev n_next_step : List Str := ["known", "word", "some"]
abbrev p_next_step : List Str := ["known", "word"]
theorem sc_next_step : FnScope n_next_step p_next_step (defScope st_next_step) := ⟨rfl, rfl, rfl, by decide +kernel, rfl, by decide +kernel, by decide +kernel⟩
noncomputable def b_next_step : Rho → Fl :=
  (fSeq (fSet 2 (eFn F_out_steps (eCons (eVar 1) eNil)))
  (fSeq (fIf (eBl (e2 qGt (e1 (p1 fLen) (eVar 2)) (eC (.int 0)))) (fRet (e2 qIx (eVar 2) (eC (.int 0))))
  fNil)
  (fRet (eFn F_ring_step (eCons (eVar 0) (eCons (eVar 1) eNil))))))
noncomputable def F_next_step : Fs := lockF (runF 3 b_next_step)
theorem F_next_step_eq : F_next_step = runF 3 b_next_step := lockF_eq _
abbrev st__law_drawn : Stmt := topS 39
abbrev n__law_drawn : List Str := ["_law_feed_here", "_law_many", "_law_most", "_law_way", "_law_one", "_law_k", "_law_at", "_law_sign", "_law_other"]
abbrev p__law_drawn : List Str := ["_law_feed_here", "_law_many", "_law_most"]
theorem sc__law_drawn : FnScope n__law_drawn p__law_drawn (defScope st__law_drawn) := ⟨rfl, rfl, rfl, by decide +kernel, rfl, by decide +kernel, by decide +kernel⟩
noncomputable def fb__law_drawn_1 : Rho → Fl :=
  (fSeq (fSet 6 (eFn F__law_draw (eCons (eVar 0) (eCons (e2 (p2 fAdd) (e1 (p1 fLen) (eVar 4)) (eC (.int 1))) eNil))))
  (fSeq (fSet 7 (e2 qIx (eC (.str [97, 98, 99, 100, 101, 102])) (eFn F__law_draw (eCons (eVar 0) (eCons (eVar 1) eNil)))))
  (fSeq (fSet 7 (e2 qIx (eLst (eCons (eVar 7) (eCons (eMeth isStr (p1 fUpper) (eVar 7) eNil) eNil))) (eFn F__law_draw (eCons (eVar 0) (eCons (eC (.int 2)) eNil)))))
  (fSet 4 (e2 (p2 fAdd) (e2 (p2 fAdd) (e2 (p2 fAdd) (eSl (eVar 4) none (some (eVar 6))) (eVar 7)) (eFn F__law_back (eCons (eVar 7) eNil))) (eSl (eVar 4) (some (eVar 6)) none))))))
noncomputable def b__law_drawn : Rho → Fl :=
  (fSeq (fSet 3 (eFn F__law_draw (eCons (eVar 0) (eCons (eC (.int 4)) eNil))))
  (fSeq (fSet 4 (eFn F__law_some (eCons (eVar 0) (eCons (eVar 1) (eCons (eIf (eBl (e2 (p2 fEq) (eVar 3) (eC (.int 0)))) (eVar 2) (e2 (p2 (fInts fDivI)) (eVar 2) (eC (.int 4)))) eNil)))))
  (fSeq (fIf (eBl (e2 (p2 fEq) (eVar 3) (eC (.int 1)))) (fFor (eCons (e2 (p2 fAdd) (eC (.int 1)) (eFn F__law_draw (eCons (eVar 0) (eCons (e2 (p2 (fInts fDivI)) (eVar 2) (eC (.int 4))) eNil)))) eNil) mkR1 (gNm 5) fb__law_drawn_1)
  fNil)
  (fSeq (fSet 8 (eFn F__law_some (eCons (eVar 0) (eCons (eVar 1) (eCons (e2 (p2 (fInts fDivI)) (eVar 2) (eC (.int 4))) eNil)))))
  (fSeq (fIf (eBl (e2 (p2 fEq) (eVar 3) (eC (.int 2)))) (fRet (e2 (p2 fAdd) (e2 (p2 fAdd) (eVar 8) (eVar 4)) (eFn F__law_back (eCons (eVar 8) eNil))))
  fNil)
  (fRet (eIf (eBl (e2 qLt (eVar 3) (eC (.int 2)))) (eVar 4) (e2 (p2 fAdd) (e2 qMul (eVar 4) (e2 (p2 fAdd) (eC (.int 1)) (eFn F__law_draw (eCons (eVar 0) (eCons (eC (.int 3)) eNil))))) (eVar 8)))))))))
noncomputable def F__law_drawn : Fs := lockF (runF 9 b__law_drawn)
theorem F__law_drawn_eq : F__law_drawn = runF 9 b__law_drawn := lockF_eq _
abbrev st__law_middle : Stmt := topS 40
abbrev n__law_middle : List Str := ["_law_word", "_law_short"]
abbrev p__law_middle : List Str := ["_law_word"]
theorem sc__law_middle : FnScope n__law_middle p__law_middle (defScope st__law_middle) := ⟨rfl, rfl, rfl, by decide +kernel, rfl, by decide +kernel, by decide +kernel⟩
noncomputable def wt__law_middle_1 : Rho → Rs Bool :=
  (eAndT (eBl (e2 qGt (e1 (p1 fLen) (eVar 1)) (eC (.int 1)))) (eBl (e2 (p2 fEq) (e2 qIx (eVar 1) (eC (.int 0))) (eFn F__law_back (eCons (e2 qIx (eVar 1) (e2 (p2 (fInts fun i j => some (.fz (.int (i - j))))) (e1 (p1 fLen) (eVar 1)) (eC (.int 1)))) eNil)))))
noncomputable def wb__law_middle_1 : Rho → Fl :=
  (fSet 1 (eSl (eVar 1) (some (eC (.int 1))) (some (e2 (p2 (fInts fun i j => some (.fz (.int (i - j))))) (e1 (p1 fLen) (eVar 1)) (eC (.int 1))))))
noncomputable def b__law_middle : Rho → Fl :=
  (fSeq (fSet 1 (eFn F__law_reduced (eCons (eVar 0) eNil)))
  (fSeq (fWhile wt__law_middle_1 wb__law_middle_1)
  (fRet (eVar 1))))
noncomputable def F__law_middle : Fs := lockF (runF 2 b__law_middle)
theorem F__law_middle_eq : F__law_middle = runF 2 b__law_middle := lockF_eq _
abbrev st__law_made : Stmt := topS 45
abbrev n__law_made : List Str := ["_law_feed_here", "_law_rings", "_law_most", "_law_word", "_law_k", "_law_by", "_law_ring", "_law_at", "_law_sign"]
abbrev p__law_made : List Str := ["_law_feed_here", "_law_rings", "_law_most"]
theorem sc__law_made : FnScope n__law_made p__law_made (defScope st__law_made) := ⟨rfl, rfl, rfl, by decide +kernel, rfl, by decide +kernel, by decide +kernel⟩
noncomputable def fb__law_made_1 : Rho → Fl :=
  (fSeq (fSet 7 (eFn F__law_draw (eCons (eVar 0) (eCons (e2 (p2 fAdd) (e1 (p1 fLen) (eVar 3)) (eC (.int 1))) eNil))))
  (fSeq (fSet 8 (e2 qIx (eC (.str [97, 98, 99, 100, 101, 65, 66, 67, 68, 69])) (eFn F__law_draw (eCons (eVar 0) (eCons (eC (.int 10)) eNil)))))
  (fSet 3 (e2 (p2 fAdd) (e2 (p2 fAdd) (e2 (p2 fAdd) (eSl (eVar 3) none (some (eVar 7))) (eVar 8)) (eFn F__law_back (eCons (eVar 8) eNil))) (eSl (eVar 3) (some (eVar 7)) none)))))
noncomputable def fb__law_made_2 : Rho → Fl :=
  (fSeq (fSet 5 (eFn F__law_some (eCons (eVar 0) (eCons (eC (.int 5)) (eCons (eC (.int 4)) eNil)))))
  (fSeq (fSet 6 (eIf (eBl (e2 (p2 fNe) (eVar 1) (eTup eNil))) (e2 qIx (eVar 1) (eFn F__law_draw (eCons (eVar 0) (eCons (e1 (p1 fLen) (eVar 1)) eNil)))) (eC (.str []))))
  (fSeq (fSet 7 (eFn F__law_draw (eCons (eVar 0) (eCons (e2 (p2 fAdd) (e1 (p1 fLen) (eVar 6)) (eC (.int 1))) eNil))))
  (fSeq (fSet 6 (e2 (p2 fAdd) (eSl (eVar 6) (some (eVar 7)) none) (eSl (eVar 6) none (some (eVar 7)))))
  (fSet 3 (e2 (p2 fAdd) (e2 (p2 fAdd) (e2 (p2 fAdd) (eVar 3) (eVar 5)) (e2 qIx (eLst (eCons (eVar 6) (eCons (eFn F__law_back (eCons (eVar 6) eNil)) eNil))) (eFn F__law_draw (eCons (eVar 0) (eCons (eC (.int 2)) eNil))))) (eFn F__law_back (eCons (eVar 5) eNil))))))))
noncomputable def b__law_made : Rho → Fl :=
  (fSeq (fSet 3 (eC (.str [])))
  (fSeq (fFor (eCons (e2 (p2 fAdd) (eC (.int 1)) (eFn F__law_draw (eCons (eVar 0) (eCons (eVar 2) eNil)))) eNil) mkR1 (gNm 4) fb__law_made_2)
  (fSeq (fFor (eCons (eFn F__law_draw (eCons (eVar 0) (eCons (eC (.int 4)) eNil))) eNil) mkR1 (gNm 4) fb__law_made_1)
  (fRet (eVar 3)))))
noncomputable def F__law_made : Fs := lockF (runF 9 b__law_made)
theorem F__law_made_eq : F__law_made = runF 9 b__law_made := lockF_eq _
abbrev st_thick : Stmt := topS 18
abbrev n_thick : List Str := ["rings", "known", "place", "turn", "beside", "some", "other"]
abbrev p_thick : List Str := ["rings"]
theorem sc_thick : FnScope n_thick p_thick (defScope st_thick) := ⟨rfl, rfl, rfl, by decide +kernel, rfl, by decide +kernel, by decide +kernel⟩
noncomputable def ce_thick_1 : Rho → Rs Opd :=
  (eFn F_is_thick (eCons (eVar 3) (eCons (eVar 6) eNil)))
noncomputable def ct_thick_2 : Rho → Rs Bool :=
  (eTru (eFn F_is_thick (eCons (eVar 3) (eCons (eVar 6) eNil))))
noncomputable def ce_thick_2 : Rho → Rs Opd :=
  (eVar 6)
noncomputable def fb_thick_3 : Rho → Fl :=
  (fSeq (fSet 4 (eSl (eVar 1) (some (eCall qMax (eCons (eC (.int 0)) (eCons (e2 (p2 (fInts fun i j => some (.fz (.int (i - j))))) (eVar 2) (eC (.int 1))) eNil)))) (some (e2 (p2 fAdd) (eVar 2) (eC (.int 2))))))
  (fIf (eTru (e1 (p1 fAny) (eLc (eCons (eVar 4) eNil) mkSeq (gNm 6) eYes ce_thick_1 [6]))) (fSeq (fSet 5 (eLc (eCons (eVar 1) eNil) mkSeq (gNm 6) ct_thick_2 ce_thick_2 [6]))
  (fRet (eTup (eCons (eVar 3) (eCons (e2 qIx (eVar 5) (eC (.int 0))) (eCons (eFn F_shared (eCons (eVar 3) (eCons (e2 qIx (eVar 5) (eC (.int 0))) eNil))) eNil))))))
  fNil))
noncomputable def b_thick : Rho → Fl :=
  (fSeq (fSet 1 (eFn F_turns_of (eCons (eVar 0) eNil)))
  (fSeq (fFor (eCons (eVar 1) eNil) mkEnum (gTp 2 (gsCons (gNm 2) (gsCons (gNm 3) gsNil))) fb_thick_3)
  (fRet (eC .non))))
noncomputable def F_thick : Fs := lockF (runF 7 b_thick)
theorem F_thick_eq : F_thick = runF 7 b_thick := lockF_eq _
abbrev st_ringed : Stmt := topS 23
abbrev n_ringed : List Str := ["rings", "word", "place", "turn", "many"]
abbrev p_ringed : List Str := ["rings", "word", "place", "turn", "many"]
theorem sc_ringed : FnScope n_ringed p_ringed (defScope st_ringed) := ⟨rfl, rfl, rfl, by decide +kernel, rfl, by decide +kernel, by decide +kernel⟩
noncomputable def b_ringed : Rho → Fl :=
  (fSeq (fIf (eOrT (eBl (e2 qGt (eVar 4) (e1 (p1 fLen) (eVar 3)))) (eOrT (eBl (e2 qGt (e2 (p2 fAdd) (eVar 2) (eVar 4)) (e1 (p1 fLen) (eVar 1)))) (eNotT (eTru (eFn F_is_turn (eCons (eVar 0) (eCons (eVar 3) eNil))))))) (fRet (eC .non))
  fNil)
  (fSeq (fIf (eBl (e2 (p2 fNe) (eSl (eVar 1) (some (eVar 2)) (some (e2 (p2 fAdd) (eVar 2) (eVar 4)))) (eSl (eVar 3) none (some (eVar 4))))) (fRet (eC .non))
  fNil)
  (fRet (e2 (p2 fAdd) (e2 (p2 fAdd) (eSl (eVar 1) none (some (eVar 2))) (eFn F_back (eCons (eSl (eVar 3) (some (eVar 4)) none) eNil))) (eSl (eVar 1) (some (e2 (p2 fAdd) (eVar 2) (eVar 4))) none)))))
noncomputable def F_ringed : Fs := lockF (runF 5 b_ringed)
theorem F_ringed_eq : F_ringed = runF 5 b_ringed := lockF_eq _
abbrev st__law_thin : Stmt := topS 44
abbrev n__law_thin : List Str := ["_law_feed_here", "_law_way", "_law_rings", "_law_powers", "_law_turned", "_law_ring", "_law_at", "_law_fits", "_law_sign"]
abbrev p__law_thin : List Str := ["_law_feed_here"]
theorem sc__law_thin : FnScope n__law_thin p__law_thin (defScope st__law_thin) := ⟨rfl, rfl, rfl, by decide +kernel, rfl, by decide +kernel, by decide +kernel⟩
noncomputable def fb__law_thin_1 : Rho → Fl :=
  (fSeq (fSet 6 (eFn F__law_draw (eCons (eVar 0) (eCons (e2 (p2 fAdd) (e1 (p1 fLen) (eVar 5)) (eC (.int 1))) eNil))))
  (fExpr (eMut isOL (mOf fApp) 4 (eCons (e2 qIx (eLst (eCons (e2 (p2 fAdd) (eSl (eVar 5) (some (eVar 6)) none) (eSl (eVar 5) none (some (eVar 6)))) (eCons (eFn F__law_back (eCons (e2 (p2 fAdd) (eSl (eVar 5) (some (eVar 6)) none) (eSl (eVar 5) none (some (eVar 6)))) eNil)) eNil))) (eFn F__law_draw (eCons (eVar 0) (eCons (eC (.int 2)) eNil)))) eNil))))
noncomputable def ce__law_thin_2 : Rho → Rs Opd :=
  (e2 qMul (eVar 8) (e2 (p2 fAdd) (eC (.int 7)) (eFn F__law_draw (eCons (eVar 0) (eCons (eC (.int 3)) eNil)))))
noncomputable def b__law_thin : Rho → Fl :=
  (fSeq (fSet 1 (eFn F__law_draw (eCons (eVar 0) (eCons (eC (.int 6)) eNil))))
  (fSeq (fSet 2 (eTup eNil))
  (fSeq (fIf (eBl (e2 (p2 fEq) (eVar 1) (eC (.int 0)))) (fSeq (fSet 3 (eLc (eCons (eC (.str [97, 98, 99, 100, 101])) eNil) mkSeq (gNm 8) eYes ce__law_thin_2 [8]))
  (fSet 2 (eSl (e1 (p1 fTupU) (e2 (p2 fAdd) (eVar 3) (eLst (eCons (e2 qMul (eC (.str [97, 98, 65, 66])) (e2 (p2 fAdd) (eC (.int 2)) (eFn F__law_draw (eCons (eVar 0) (eCons (eC (.int 2)) eNil))))) eNil)))) (some (eFn F__law_draw (eCons (eVar 0) (eCons (eC (.int 7)) eNil)))) none)))
  fNil)
  (fSeq (fIf (eBl (e2 (p2 fEq) (eVar 1) (eC (.int 1)))) (fSet 2 (eSl (eTup (eCons (e2 qMul (eC (.str [97])) (e2 (p2 fAdd) (eC (.int 1)) (eFn F__law_draw (eCons (eVar 0) (eCons (eC (.int 9)) eNil))))) (eCons (e2 qMul (eC (.str [66])) (e2 (p2 fAdd) (eC (.int 1)) (eFn F__law_draw (eCons (eVar 0) (eCons (eC (.int 9)) eNil))))) eNil))) (some (eFn F__law_draw (eCons (eVar 0) (eCons (eC (.int 2)) eNil)))) none))
  fNil)
  (fSeq (fIf (eBl (e2 (p2 fEq) (eVar 1) (eC (.int 2)))) (fSet 2 (eTup (eCons (e2 qMul (eFn F__law_middle (eCons (eFn F__law_some (eCons (eVar 0) (eCons (eC (.int 3)) (eCons (eC (.int 3)) eNil)))) eNil)) (e2 (p2 fAdd) (eC (.int 7)) (eFn F__law_draw (eCons (eVar 0) (eCons (eC (.int 4)) eNil))))) eNil)))
  fNil)
  (fSeq (fIf (eBl (e2 (p2 fEq) (eVar 1) (eC (.int 3)))) (fSet 2 (eTup (eCons (e2 qMul (eC (.str [97])) (e2 (p2 fAdd) (eC (.int 7)) (eFn F__law_draw (eCons (eVar 0) (eCons (eC (.int 3)) eNil))))) (eCons (e2 qMul (eC (.str [98])) (e2 (p2 fAdd) (eC (.int 7)) (eFn F__law_draw (eCons (eVar 0) (eCons (eC (.int 3)) eNil))))) (eCons (e2 qMul (eC (.str [97, 98])) (e2 (p2 fAdd) (eC (.int 4)) (eFn F__law_draw (eCons (eVar 0) (eCons (eC (.int 3)) eNil))))) eNil)))))
  fNil)
  (fSeq (fIf (eBl (e2 qGt (eVar 1) (eC (.int 3)))) (fSeq (fSet 2 (eTup (eCons (e2 qIx (eLst (eCons (eC (.str [97, 98, 65, 66, 99, 100, 67, 68])) (eCons (eC (.str [97, 98, 99, 100, 65, 66, 67, 68])) (eCons (eC (.str [97, 97, 98, 98, 99, 99, 100, 100])) (eCons (eC (.str [97, 98, 99, 65, 66, 100, 67, 68])) eNil))))) (eFn F__law_draw (eCons (eVar 0) (eCons (eC (.int 4)) eNil)))) (eCons (e2 qMul (eC (.str [101])) (e2 (p2 fAdd) (eC (.int 1)) (eFn F__law_draw (eCons (eVar 0) (eCons (eC (.int 5)) eNil))))) eNil))))
  (fSet 2 (eSl (eVar 2) none (some (e2 (p2 fAdd) (eC (.int 1)) (eFn F__law_draw (eCons (eVar 0) (eCons (eC (.int 2)) eNil))))))))
  fNil)
  (fSeq (fSet 4 (eLst eNil))
  (fSeq (fFor (eCons (eVar 2) eNil) mkSeq (gNm 5) fb__law_thin_1)
  (fSeq (fSet 7 (eAnd (e2 qNotIn (eC (.str [])) (eVar 4)) (e2 (p2 fIs) (eFn F__law_thick (eCons (eFn F__law_turns_of (eCons (eVar 4) eNil)) eNil)) (eC .non))))
  (fRet (eIf (eTru (eVar 7)) (e1 (p1 fTupU) (eVar 4)) (eTup eNil)))))))))))))
noncomputable def F__law_thin : Fs := lockF (runF 9 b__law_thin)
theorem F__law_thin_eq : F__law_thin = runF 9 b__law_thin := lockF_eq _
abbrev st_behind : Stmt := topS 24
abbrev n_behind : List Str := ["rings", "word", "step", "found"]
abbrev p_behind : List Str := ["rings", "word", "step"]
theorem sc_behind : FnScope n_behind p_behind (defScope st_behind) := ⟨rfl, rfl, rfl, by decide +kernel, rfl, by decide +kernel, by decide +kernel⟩
noncomputable def b_behind : Rho → Fl :=
  (fSeq (fIf (eBl (e2 (p2 fEq) (e2 qIx (eVar 2) (eC (.int 0))) (eC (.str [111, 117, 116])))) (fSet 3 (eFn F_out_of (eCons (eVar 1) (eCons (e2 qIx (eVar 2) (eC (.int 1))) eNil))))
  (fIf (eBl (e2 (p2 fEq) (e2 qIx (eVar 2) (eC (.int 0))) (eC (.str [105, 110])))) (fSet 3 (eFn F_put_in (eCons (eVar 1) (eCons (e2 qIx (eVar 2) (eC (.int 1))) (eCons (e2 qIx (eVar 2) (eC (.int 2))) eNil)))))
  (fSet 3 (eFn F_ringed (eCons (eVar 0) (eCons (eVar 1) (eCons (e2 qIx (eVar 2) (eC (.int 1))) (eCons (e2 qIx (eVar 2) (eC (.int 2))) (eCons (e2 qIx (eVar 2) (eC (.int 3))) eNil)))))))))
  (fSeq (fIf (eAndT (eBl (e2 (p2 fIsNot) (eVar 3) (eC .non))) (eBl (e2 qGt (e1 (p1 fLen) (eVar 3)) (eC (.int 2000))))) (fRet (eC .non))
  fNil)
  (fRet (eVar 3))))
noncomputable def F_behind : Fs := lockF (runF 4 b_behind)
theorem F_behind_eq : F_behind = runF 4 b_behind := lockF_eq _
abbrev st_shortened : Stmt := topS 30
abbrev n_shortened : List Str := ["rings", "word", "known", "steps", "here", "step"]
abbrev p_shortened : List Str := ["rings", "word"]
theorem sc_shortened : FnScope n_shortened p_shortened (defScope st_shortened) := ⟨rfl, rfl, rfl, by decide +kernel, rfl, by decide +kernel, by decide +kernel⟩
noncomputable def wt_shortened_1 : Rho → Rs Bool :=
  (eBl (e2 (p2 fIsNot) (eVar 5) (eC .non)))
noncomputable def wb_shortened_1 : Rho → Fl :=
  (fSeq (fExpr (eMut isOL (mOf fApp) 3 (eCons (eVar 5) eNil)))
  (fSeq (fSet 4 (eFn F_behind (eCons (eVar 0) (eCons (eVar 4) (eCons (eVar 5) eNil)))))
  (fSet 5 (eFn F_next_step (eCons (eVar 2) (eCons (eVar 4) eNil))))))
noncomputable def b_shortened : Rho → Fl :=
  (fSeq (fSet 2 (eFn F_turns_of (eCons (eVar 0) eNil)))
  (fSeq (fSet 3 (eLst eNil))
  (fSeq (fSet 4 (eVar 1))
  (fSeq (fSet 5 (eFn F_next_step (eCons (eVar 2) (eCons (eVar 4) eNil))))
  (fSeq (fWhile wt_shortened_1 wb_shortened_1)
  (fRet (eTup (eCons (e1 (p1 fTupU) (eVar 3)) (eCons (eVar 4) eNil)))))))))
noncomputable def F_shortened : Fs := lockF (runF 6 b_shortened)
theorem F_shortened_eq : F_shortened = runF 6 b_shortened := lockF_eq _
abbrev st_judged : Stmt := topS 32
abbrev n_judged : List Str := ["rings", "word", "fault", "steps", "short"]
abbrev p_judged : List Str := ["rings", "word"]
theorem sc_judged : FnScope n_judged p_judged (defScope st_judged) := ⟨rfl, rfl, rfl, by decide +kernel, rfl, by decide +kernel, by decide +kernel⟩
noncomputable def b_judged : Rho → Fl :=
  (fSeq (fSet 2 (eFn F_thick (eCons (eVar 0) eNil)))
  (fSeq (fIf (eBl (e2 (p2 fIsNot) (eVar 2) (eC .non))) (fRaise "NoThin" X_NoThin (eCons (e2 qIx (eVar 2) (eC (.int 0))) (eCons (e2 qIx (eVar 2) (eC (.int 1))) (eCons (e2 qIx (eVar 2) (eC (.int 2))) eNil))))
  fNil)
  (fSeq (fAsg (gTpU 2 (gsCons (gNm 3) (gsCons (gNm 4) gsNil))) (eFn F_shortened (eCons (eVar 0) (eCons (eVar 1) eNil))))
  (fSeq (fIf (eBl (e2 (p2 fEq) (eVar 4) (eC (.str [])))) (fRet (eTup (eCons (eC (.str [110, 111, 116, 104, 105, 110, 103])) (eCons (eVar 3) eNil))))
  fNil)
  (fRet (eTup (eCons (eC (.str [110, 111, 110, 101])) (eCons (eTup (eCons (eC (.str [115, 104, 111, 114, 116])) (eCons (eVar 3) eNil))) eNil))))))))
noncomputable def F_judged : Fs := lockF (runF 5 b_judged)
theorem F_judged_eq : F_judged = runF 5 b_judged := lockF_eq _
abbrev st__law_nothing : Stmt := topS 46
abbrev n__law_nothing : List Str := ["_law_rings", "_law_word"]
abbrev p__law_nothing : List Str := ["_law_rings", "_law_word"]
theorem sc__law_nothing : FnScope n__law_nothing p__law_nothing (defScope st__law_nothing) := ⟨rfl, rfl, rfl, by decide +kernel, rfl, by decide +kernel, by decide +kernel⟩
noncomputable def b__law_nothing : Rho → Fl :=
  (fRet (e2 (p2 fEq) (e2 qIx (eFn F_judged (eCons (eVar 0) (eCons (eVar 1) eNil))) (eC (.int 0))) (eC (.str [110, 111, 116, 104, 105, 110, 103]))))
noncomputable def F__law_nothing : Fs := lockF (runF 2 b__law_nothing)
theorem F__law_nothing_eq : F__law_nothing = runF 2 b__law_nothing := lockF_eq _
abbrev st__law_same : Stmt := topS 47
abbrev n__law_same : List Str := ["_law_rings", "_law_one", "_law_other"]
abbrev p__law_same : List Str := ["_law_rings", "_law_one", "_law_other"]
theorem sc__law_same : FnScope n__law_same p__law_same (defScope st__law_same) := ⟨rfl, rfl, rfl, by decide +kernel, rfl, by decide +kernel, by decide +kernel⟩
noncomputable def b__law_same : Rho → Fl :=
  (fRet (eFn F__law_nothing (eCons (eVar 0) (eCons (eFn F_times (eCons (eVar 1) (eCons (eFn F_back (eCons (eVar 2) eNil)) eNil))) eNil))))
noncomputable def F__law_same : Fs := lockF (runF 3 b__law_same)
theorem F__law_same_eq : F__law_same = runF 3 b__law_same := lockF_eq _
abbrev st__law_roots_right : Stmt := topS 48
abbrev n__law_roots_right : List Str := ["_law_feed_here", "_law_rings", "_law_at", "_law_ring", "_law_root", "_law_many", "_law_number"]
abbrev p__law_roots_right : List Str := ["_law_feed_here", "_law_rings"]
theorem sc__law_roots_right : FnScope n__law_roots_right p__law_roots_right (defScope st__law_roots_right) := ⟨rfl, rfl, rfl, by decide +kernel, rfl, by decide +kernel, by decide +kernel⟩
noncomputable def fb__law_roots_right_1 : Rho → Fl :=
  (fIf (eAndT (eBl (e2 qLe (e1 (p1 fAbs) (eVar 6)) (eC (.int 20)))) (eBl (e2 (p2 fNe) (eFn F__law_nothing (eCons (eVar 1) (eCons (eFn F_power (eCons (eVar 4) (eCons (eVar 6) eNil))) eNil))) (e2 (p2 fEq) (e2 (p2 (fInts fModI)) (eVar 6) (eVar 5)) (eC (.int 0)))))) (fRet (eC (.bl false)))
  fNil)
noncomputable def fb__law_roots_right_2 : Rho → Fl :=
  (fSeq (fAsg (gTpU 2 (gsCons (gNm 4) (gsCons (gNm 5) gsNil))) (eFn F_rooted (eCons (eVar 3) eNil)))
  (fFor (eCons (eTup (eCons (eC (.int 1)) (eCons (e2 (p2 (fInts fun i j => some (.fz (.int (i - j))))) (eVar 5) (eC (.int 1))) (eCons (eVar 5) (eCons (e2 (p2 (fInts fun i j => some (.fz (.int (i - j))))) (eFn F__law_draw (eCons (eVar 0) (eCons (eC (.int 20)) eNil))) (eC (.int 10))) eNil))))) eNil) mkSeq (gNm 6) fb__law_roots_right_1))
noncomputable def b__law_roots_right : Rho → Fl :=
  (fSeq (fSet 2 (eFn F__law_draw (eCons (eVar 0) (eCons (eCall qMax (eCons (eC (.int 1)) (eCons (e1 (p1 fLen) (eVar 1)) eNil))) eNil))))
  (fSeq (fFor (eCons (eSl (eVar 1) (some (eVar 2)) (some (e2 (p2 fAdd) (eVar 2) (eC (.int 1))))) eNil) mkSeq (gNm 3) fb__law_roots_right_2)
  (fRet (eC (.bl true)))))
noncomputable def F__law_roots_right : Fs := lockF (runF 7 b__law_roots_right)
theorem F__law_roots_right_eq : F__law_roots_right = runF 7 b__law_roots_right := lockF_eq _
abbrev st_law : Stmt := topS 49
abbrev n_law : List Str := ["_law_script", "_law_feed_here", "_law_k", "_law_rings", "_law_words", "_law_j", "_law_word", "_law_at", "_law_one", "_law_other", "_law_third", "_law_pairs", "_law_kinds", "_law_by", "_law_ahead", "_law_later", "_law_first", "_law_second"]
abbrev p_law : List Str := ["_law_script"]
theorem sc_law : FnScope n_law p_law (defScope st_law) := ⟨rfl, rfl, rfl, by decide +kernel, rfl, by decide +kernel, by decide +kernel⟩
noncomputable def ce_law_1 : Rho → Rs Opd :=
  (eFn F__law_same (eCons (eVar 3) (eCons (eVar 16) (eCons (eVar 17) eNil))))
noncomputable def fb_law_2 : Rho → Fl :=
  (fSeq (fSet 6 (e2 qIx (eVar 4) (eVar 5)))
  (fSeq (fSet 7 (eFn F__law_draw (eCons (eVar 1) (eCons (e2 (p2 fAdd) (e1 (p1 fLen) (eVar 6)) (eC (.int 1))) eNil))))
  (fSeq (fSet 6 (e2 (p2 fAdd) (e2 (p2 fAdd) (eSl (eVar 6) none (some (eVar 7))) (eFn F__law_made (eCons (eVar 1) (eCons (eVar 3) (eCons (eC (.int 1)) eNil))))) (eSl (eVar 6) (some (eVar 7)) none)))
  (fExpr (eMut isOL (mOf fApp) 4 (eCons (e2 qIx (eLst (eCons (eVar 6) (eCons (eFn F__law_drawn (eCons (eVar 1) (eCons (eC (.int 5)) (eCons (eC (.int 12)) eNil)))) eNil))) (e2 (p2 (fInts fDivI)) (eFn F__law_draw (eCons (eVar 1) (eCons (eC (.int 4)) eNil))) (eC (.int 3)))) eNil))))))
noncomputable def fb_law_3 : Rho → Fl :=
  (fSeq (fSet 3 (eFn F__law_thin (eCons (eVar 1) eNil)))
  (fSeq (fIf (eNotT (eTru (eFn F__law_roots_right (eCons (eVar 1) (eCons (eVar 3) eNil))))) (fRet (eC (.bl false)))
  fNil)
  (fSeq (fSet 4 (eLst (eCons (eFn F__law_drawn (eCons (eVar 1) (eCons (eC (.int 5)) (eCons (eC (.int 12)) eNil)))) eNil)))
  (fSeq (fFor (eCons (eC (.int 2)) eNil) mkR1 (gNm 5) fb_law_2)
  (fSeq (fAsg (gTpU 3 (gsCons (gNm 8) (gsCons (gNm 9) (gsCons (gNm 10) gsNil)))) (eVar 4))
  (fSeq (fSet 11 (eLst (eCons (eTup (eCons (eVar 8) (eCons (eVar 9) eNil))) (eCons (eTup (eCons (eVar 9) (eCons (eVar 10) eNil))) (eCons (eTup (eCons (eVar 8) (eCons (eVar 10) eNil))) eNil)))))
  (fSeq (fSet 12 (eLc (eCons (eVar 11) eNil) mkSeq (gTp 2 (gsCons (gNm 16) (gsCons (gNm 17) gsNil))) eYes ce_law_1 [16, 17]))
  (fSeq (fIf (eOrT (eBl (e2 (p2 fEq) (eMeth isLs (p2 fLCount) (eVar 12) (eCons (eC (.bl true)) eNil)) (eC (.int 2)))) (eBl (e2 (p2 fNe) (eFn F__law_same (eCons (eVar 3) (eCons (eVar 9) (eCons (eVar 8) eNil)))) (e2 qIx (eVar 12) (eC (.int 0)))))) (fRet (eC (.bl false)))
  fNil)
  (fSeq (fSet 13 (eFn F__law_some (eCons (eVar 1) (eCons (eC (.int 5)) (eCons (eC (.int 4)) eNil)))))
  (fSeq (fIf (eAndT (eTru (e2 qIx (eVar 12) (eC (.int 0)))) (eBl (e2 (p2 fNe) (eFn F__law_nothing (eCons (eVar 3) (eCons (eVar 8) eNil))) (eFn F__law_nothing (eCons (eVar 3) (eCons (eVar 9) eNil)))))) (fRet (eC (.bl false)))
  fNil)
  (fSeq (fSet 14 (eFn F__law_same (eCons (eVar 3) (eCons (e2 (p2 fAdd) (eVar 13) (eVar 8)) (eCons (e2 (p2 fAdd) (eVar 13) (eVar 9)) eNil)))))
  (fSeq (fSet 15 (eFn F__law_same (eCons (eVar 3) (eCons (e2 (p2 fAdd) (eVar 8) (eVar 13)) (eCons (e2 (p2 fAdd) (eVar 9) (eVar 13)) eNil)))))
  (fSeq (fIf (eOrT (eBl (e2 (p2 fNe) (eVar 14) (e2 qIx (eVar 12) (eC (.int 0))))) (eBl (e2 (p2 fNe) (eVar 15) (e2 qIx (eVar 12) (eC (.int 0)))))) (fRet (eC (.bl false)))
  fNil)
  (fIf (eOrT (eNotT (eTru (eFn F__law_same (eCons (eVar 3) (eCons (eVar 8) (eCons (eVar 8) eNil)))))) (eBl (e2 (p2 fNe) (e2 qIx (eVar 12) (eC (.int 0))) (eFn F__law_same (eCons (eVar 3) (eCons (eFn F_back (eCons (eVar 8) eNil)) (eCons (eFn F_back (eCons (eVar 9) eNil)) eNil))))))) (fRet (eC (.bl false)))
  fNil))))))))))))))
noncomputable def b_law : Rho → Fl :=
  (fSeq (fSet 1 (eFn F__law_feed (eCons (eVar 0) eNil)))
  (fSeq (fFor (eCons (eC (.int 2)) eNil) mkR1 (gNm 2) fb_law_3)
  (fRet (eC (.bl true)))))
noncomputable def F_law : Fs := lockF (runF 18 b_law)
theorem F_law_eq : F_law = runF 18 b_law := lockF_eq _
structure Top (K : PySem.W.Frag) (mg : Str → Option Value) : Prop where
  d_back_of : DefAt K mg "back_of" p_back_of st_back_of
  d_turns : DefAt K mg "turns" p_turns st_turns
  d_rooted : DefAt K mg "rooted" p_rooted st_rooted
  d_shared : DefAt K mg "shared" p_shared st_shared
  d_half_of : DefAt K mg "half_of" p_half_of st_half_of
  d__law_feed : DefAt K mg "_law_feed" p__law_feed st__law_feed
  d__law_draw : DefAt K mg "_law_draw" p__law_draw st__law_draw
  d__law_back : DefAt K mg "_law_back" p__law_back st__law_back
  d__law_share : DefAt K mg "_law_share" p__law_share st__law_share
  d_back : DefAt K mg "back" p_back st_back
  d_reduced : DefAt K mg "reduced" p_reduced st_reduced
  d_is_thick : DefAt K mg "is_thick" p_is_thick st_is_thick
  d_out_of : DefAt K mg "out_of" p_out_of st_out_of
  d_put_in : DefAt K mg "put_in" p_put_in st_put_in
  d_out_steps : DefAt K mg "out_steps" p_out_steps st_out_steps
  d_ring_step : DefAt K mg "ring_step" p_ring_step st_ring_step
  d__law_reduced : DefAt K mg "_law_reduced" p__law_reduced st__law_reduced
  d__law_some : DefAt K mg "_law_some" p__law_some st__law_some
  d__law_turns_of : DefAt K mg "_law_turns_of" p__law_turns_of st__law_turns_of
  d__law_thick : DefAt K mg "_law_thick" p__law_thick st__law_thick
  d_times : DefAt K mg "times" p_times st_times
  d_power : DefAt K mg "power" p_power st_power
  d_is_turn : DefAt K mg "is_turn" p_is_turn st_is_turn
  d_turns_of : DefAt K mg "turns_of" p_turns_of st_turns_of
  d_next_step : DefAt K mg "next_step" p_next_step st_next_step
  d__law_drawn : DefAt K mg "_law_drawn" p__law_drawn st__law_drawn
  d__law_middle : DefAt K mg "_law_middle" p__law_middle st__law_middle
  d__law_made : DefAt K mg "_law_made" p__law_made st__law_made
  d_thick : DefAt K mg "thick" p_thick st_thick
  d_ringed : DefAt K mg "ringed" p_ringed st_ringed
  d__law_thin : DefAt K mg "_law_thin" p__law_thin st__law_thin
  d_behind : DefAt K mg "behind" p_behind st_behind
  d_shortened : DefAt K mg "shortened" p_shortened st_shortened
  d_judged : DefAt K mg "judged" p_judged st_judged
  d__law_nothing : DefAt K mg "_law_nothing" p__law_nothing st__law_nothing
  d__law_same : DefAt K mg "_law_same" p__law_same st__law_same
  d__law_roots_right : DefAt K mg "_law_roots_right" p__law_roots_right st__law_roots_right
  x_NoThin : XAt K mg "NoThin" ["turn", "other", "piece"] "NoThin.__init__" st_NoThin
  b_RingError : BaseC K mg "RingError"
  z_abs : mg "abs" = none
  z_any : mg "any" = none
  z_enumerate : mg "enumerate" = none
  z_int : mg "int" = none
  z_len : mg "len" = none
  z_list : mg "list" = none
  z_max : mg "max" = none
  z_min : mg "min" = none
  z_range : mg "range" = none
  z_sorted : mg "sorted" = none
  z_str : mg "str" = none
  z_tuple : mg "tuple" = none
  c_MOST_LETTERS : ∃ u, mg "MOST_LETTERS" = some u ∧ RelV (.int 2000) u
  c_SMALL : ∃ u, mg "SMALL" = some u ∧ RelV (.str "abcdef") u
section
variable {P : Program} {w : World} {K : PySem.W.Frag} {mg : Str → Option Value} {base : Heap}
theorem x_NoThin (T : Top K mg) : XCls P w K mg base "NoThin" ["turn", "other", "piece"] m_NoThin :=
  xcls_of T.x_NoThin sc_NoThin (by decide) (by decide) fun fI cdv A l t H E => (pss_cons (ps_expr (pe_ownInit T.b_RingError (pa_cons (pv 0) (pa_cons (x_add (x_add (x_add (x_add (x_add (x_str [110, 111, 116, 32, 116, 104, 105, 110, 58, 32]) (x_str1 T.z_str (x_var 1))) (x_str [32, 97, 110, 100, 32])) (x_str1 T.z_str (x_var 2))) (x_str [32, 115, 104, 97, 114, 101, 32])) (x_str1 T.z_str (x_var 3))) pa_nil)))) (pss_cons (ps_ost (pv 0) (pv 1)) (pss_cons (ps_ost (pv 0) (pv 2)) (pss_cons (ps_ost (pv 0) (pv 3)) pss_nil))))
theorem ok_back_of (T : Top K mg) : DefOk P w K mg base 1 "back_of" p_back_of F_back_of :=
  F_back_of_eq ▸ def_at T.d_back_of sc_back_of fun f cdv A l t H E room gu => ((gs_one (gs_ret (ge_if (t_in (hu64 room) (x_var 0) (x_gstr [97, 98, 99, 100, 101, 102] T.c_SMALL)) (x_upper (x_var 0)) (x_lower (x_var 0))))))
theorem ok_turns (T : Top K mg) : DefOk P w K mg base 1 "turns" p_turns F_turns :=
  F_turns_eq ▸ def_at T.d_turns sc_turns fun f cdv A l t H E room gu => ((gs_one (gs_ret (ge_lc (own := [("place", 1)]) rfl sc_turns.nd (gi_range1 rfl T.z_range (ga_cons (x_max rfl T.z_max (ga_cons x_int (ga_cons (x_len T.z_len (x_var 0)) ga_nil))) ga_nil)) (blkOk_by (N := n_turns) (sc := defScope st_turns) (own := [("place", 1)]) (by decide +kernel)) (by decide) (fun _ _ _ _ _ => (gg_name (i := 1) sc_turns.nd rfl (by first | exact Or.inl rfl | exact Or.inr rfl))) (fun _ _ _ _ _ => gts_nil) (fun _ _ _ _ _ => (x_add (x_sl (x_var 0) (gp_some (x_var 1)) gp_none) (x_sl (x_var 0) gp_none (gp_some (x_var 1)))))))))
theorem ok_rooted (T : Top K mg) : DefOk P w K mg base 1 "rooted" p_rooted F_rooted :=
  F_rooted_eq ▸ def_at T.d_rooted sc_rooted fun f cdv A l t H E room gu => ((gs_cons (gs_setLc (i := 1) (own := [("size", 2)]) rfl sc_rooted.nd rfl rfl (sw_true rfl rfl rfl (by decide +kernel)) (gi_range2 rfl T.z_range (ga_cons x_int (ga_cons (x_add (x_len T.z_len (x_var 0)) x_int) ga_nil))) (blkOk_by (N := n_rooted) (sc := defScope st_rooted) (own := [("size", 2)]) (by decide +kernel)) (by decide) (fun _ _ _ _ _ => (gg_name (i := 2) sc_rooted.nd rfl (by first | exact Or.inl rfl | exact Or.inr rfl))) (fun _ _ _ _ _ => (gts_one (t_eq (hu64 room) (x_mulA (x_sl (x_var 0) gp_none (gp_some (x_var 2))) (x_div (x_len T.z_len (x_var 0)) (x_var 2))) (x_var 0)))) (fun _ _ _ _ _ => (x_var 2)))
  (gs_one (gs_ret (x_tup (ga_cons (x_sl (x_var 0) gp_none (gp_some (x_ix (hu64 room) (x_var 1) x_int))) (ga_cons (x_div (x_len T.z_len (x_var 0)) (x_ix (hu64 room) (x_var 1) x_int)) ga_nil)))))))
theorem ok_shared (T : Top K mg) : DefOk P w K mg base 1 "shared" p_shared F_shared :=
  F_shared_eq ▸ def_at T.d_shared sc_shared fun f cdv A l t H E room gu => ((gs_cons (gs_set (i := 2) sc_shared.nd rfl (by first | exact Or.inl rfl | exact Or.inr rfl) x_int)
  (gs_cons (gs_while psB (gt_w (gw_and (t_lt (x_var 2) (x_min rfl T.z_min (ga_cons (x_len T.z_len (x_var 0)) (ga_cons (x_len T.z_len (x_var 1)) ga_nil)))) (gw_and1 (t_eq (hu64 room) (x_ix (hu64 room) (x_var 0) (x_var 2)) (x_ix (hu64 room) (x_var 1) (x_var 2))))))
  (gs_one (gs_set (i := 2) sc_shared.nd rfl (by first | exact Or.inl rfl | exact Or.inr rfl) (x_add (x_var 2) x_int))))
  (gs_one (gs_ret (x_sl (x_var 0) gp_none (gp_some (x_var 2))))))))
theorem ok_half_of (T : Top K mg) : DefOk P w K mg base 1 "half_of" p_half_of F_half_of :=
  F_half_of_eq ▸ def_at T.d_half_of sc_half_of fun f cdv A l t H E room gu => ((gs_one (gs_ret (x_sl (x_var 0) gp_none (gp_some (x_add (x_div (x_len T.z_len (x_var 0)) x_int) x_int))))))
theorem ok__law_feed (T : Top K mg) : DefOk P w K mg base 1 "_law_feed" p__law_feed F__law_feed :=
  F__law_feed_eq ▸ def_at T.d__law_feed sc__law_feed fun f cdv A l t H E room gu => ((gs_one (gs_ret (ge_disp (l := [((eC (.str [99, 101, 108, 108, 115])), (e2 (p2 fAdd) (e1 (p1 fListU) (eSl (eVar 0) none (some (eC (.int 63))))) (e2 qMul (eLst (eCons (eC (.int 0)) eNil)) (e1 (p1 fInt1) (e2 (p2 fEq) (e1 (p1 fLen) (eVar 0)) (eC (.int 0))))))), ((eC (.str [97, 116])), (eC (.int 0))), ((eC (.str [108, 101, 102, 116])), (eC (.int 0))), ((eC (.str [116, 117, 114, 110])), (eC (.int 0)))]) (pps_cons (x_str [99, 101, 108, 108, 115]) (x_add (x_listU rfl T.z_list (x_sl (x_var 0) gp_none (gp_some x_int))) (x_mulA (x_lst (ga_cons x_int ga_nil)) (x_int1 T.z_int (x_eq (hu64 room) (x_len T.z_len (x_var 0)) x_int)))) (pps_cons (x_str [97, 116]) x_int (pps_cons (x_str [108, 101, 102, 116]) x_int (pps_cons (x_str [116, 117, 114, 110]) x_int pps_nil)))) rfl rfl (fun z => nomatch z) (by decide)))))
theorem ok__law_draw (T : Top K mg) : DefOk P w K mg base 1 "_law_draw" p__law_draw F__law_draw :=
  F__law_draw_eq ▸ def_at T.d__law_draw sc__law_draw fun f cdv A l t H E room gu => ((gs_cons (gs_sub (i := 0) (hu1 room) rfl (by first | exact Or.inl rfl | exact Or.inr (Or.inl rfl) | exact Or.inr (Or.inr rfl)) (x_add (x_ix (hu64 room) (x_var 0) (x_str [116, 117, 114, 110])) x_int) (x_str [116, 117, 114, 110]))
  (gs_cons (gs_if (t_eq (hu64 room) (x_ix (hu64 room) (x_var 0) (x_str [108, 101, 102, 116])) x_int) (gs_cons (gs_set (i := 2) sc__law_draw.nd rfl (by first | exact Or.inl rfl | exact Or.inr rfl) (x_ix (hu64 room) (x_ix (hu64 room) (x_var 0) (x_str [99, 101, 108, 108, 115])) (x_mod (x_ix (hu64 room) (x_var 0) (x_str [97, 116])) (x_len T.z_len (x_ix (hu64 room) (x_var 0) (x_str [99, 101, 108, 108, 115]))))))
  (gs_cons (gs_sub (i := 0) (hu1 room) rfl (by first | exact Or.inl rfl | exact Or.inr (Or.inl rfl) | exact Or.inr (Or.inr rfl)) (x_add (x_ix (hu64 room) (x_var 0) (x_str [97, 116])) x_int) (x_str [97, 116]))
  (gs_cons (gs_if (t_lt (x_var 2) (x_pow x_int x_int)) (gs_cons (gs_set (i := 3) sc__law_draw.nd rfl (by first | exact Or.inl rfl | exact Or.inr rfl) (x_mod (x_mulA (x_add (x_mod (x_var 2) x_int) (x_mulA x_int (x_ix (hu64 room) (x_var 0) (x_str [116, 117, 114, 110])))) x_int) x_int))
  (gs_cons (gs_set (i := 3) sc__law_draw.nd rfl (by first | exact Or.inl rfl | exact Or.inr rfl) (x_mod (x_mulA (x_add (x_div (x_var 3) x_int) (x_mulA x_int (x_ix (hu64 room) (x_var 0) (x_str [116, 117, 114, 110])))) x_int) x_int))
  (gs_one (gs_ret (x_mod (x_div (x_var 3) x_int) (x_var 1))))))
  gs_nil)
  (gs_one (gs_sub (i := 0) (hu1 room) rfl (by first | exact Or.inl rfl | exact Or.inr (Or.inl rfl) | exact Or.inr (Or.inr rfl)) (x_var 2) (x_str [108, 101, 102, 116]))))))
  gs_nil)
  (gs_cons (gs_set (i := 4) sc__law_draw.nd rfl (by first | exact Or.inl rfl | exact Or.inr rfl) (x_mod (x_ix (hu64 room) (x_var 0) (x_str [108, 101, 102, 116])) (x_var 1)))
  (gs_cons (gs_sub (i := 0) (hu1 room) rfl (by first | exact Or.inl rfl | exact Or.inr (Or.inl rfl) | exact Or.inr (Or.inr rfl)) (x_div (x_ix (hu64 room) (x_var 0) (x_str [108, 101, 102, 116])) (x_var 1)) (x_str [108, 101, 102, 116]))
  (gs_one (gs_ret (x_var 4))))))))
theorem ok__law_back (T : Top K mg) : DefOk P w K mg base 1 "_law_back" p__law_back F__law_back :=
  F__law_back_eq ▸ def_at T.d__law_back sc__law_back fun f cdv A l t H E room gu => ((gs_cons (gs_set (i := 1) sc__law_back.nd rfl (by first | exact Or.inl rfl | exact Or.inr rfl) (x_str []))
  (gs_cons (gs_for psB rfl (gi_seq (x_var 0)) (gg_name (i := 2) sc__law_back.nd rfl (by first | exact Or.inl rfl | exact Or.inr rfl))
  (gs_one (gs_set (i := 1) sc__law_back.nd rfl (by first | exact Or.inl rfl | exact Or.inr rfl) (x_add (ge_if (t_in (hu64 room) (x_var 2) (x_str [97, 98, 99, 100, 101, 102])) (x_upper (x_var 2)) (x_lower (x_var 2))) (x_var 1)))))
  (gs_one (gs_ret (x_var 1))))))
theorem ok__law_share (T : Top K mg) : DefOk P w K mg base 1 "_law_share" p__law_share F__law_share :=
  F__law_share_eq ▸ def_at T.d__law_share sc__law_share fun f cdv A l t H E room gu => ((gs_cons (gs_set (i := 2) sc__law_share.nd rfl (by first | exact Or.inl rfl | exact Or.inr rfl) x_int)
  (gs_cons (gs_while psB (gt_w (gw_and (t_lt (x_var 2) (x_min rfl T.z_min (ga_cons (x_len T.z_len (x_var 0)) (ga_cons (x_len T.z_len (x_var 1)) ga_nil)))) (gw_and1 (t_eq (hu64 room) (x_sl (x_var 0) gp_none (gp_some (x_add (x_var 2) x_int))) (x_sl (x_var 1) gp_none (gp_some (x_add (x_var 2) x_int)))))))
  (gs_one (gs_set (i := 2) sc__law_share.nd rfl (by first | exact Or.inl rfl | exact Or.inr rfl) (x_add (x_var 2) x_int))))
  (gs_one (gs_ret (x_sl (x_var 0) gp_none (gp_some (x_var 2))))))))
theorem ok_back (T : Top K mg) (c_back_of : DefOk P w K mg base 1 "back_of" p_back_of F_back_of) : DefOk P w K mg base 2 "back" p_back F_back :=
  F_back_eq ▸ def_at T.d_back sc_back fun f cdv A l t H E room gu => ((gs_one (gs_ret (x_join (x_str []) (ge_lc (own := [("sign", 1)]) rfl sc_back.nd (gi_seq (x_rev (x_var 0))) (blkOk_by (N := n_back) (sc := defScope st_back) (own := [("sign", 1)]) (by decide +kernel)) (by decide) (fun _ _ _ _ _ => (gg_name (i := 1) sc_back.nd rfl (by first | exact Or.inl rfl | exact Or.inr rfl))) (fun _ _ _ _ _ => gts_nil) (fun _ _ _ _ _ => (x_fn c_back_of room (by decide) gu tkQ (ga_cons (x_var 1) ga_nil) (ar_cons ar_nil)))) ⟨rfl, rfl, rfl, rfl, rfl⟩))))
theorem ok_reduced (T : Top K mg) (c_back_of : DefOk P w K mg base 1 "back_of" p_back_of F_back_of) : DefOk P w K mg base 2 "reduced" p_reduced F_reduced :=
  F_reduced_eq ▸ def_at T.d_reduced sc_reduced fun f cdv A l t H E room gu => ((gs_cons (gs_set (i := 1) sc_reduced.nd rfl (by first | exact Or.inl rfl | exact Or.inr rfl) (x_lst ga_nil))
  (gs_cons (gs_for psB rfl (gi_seq (x_var 0)) (gg_name (i := 2) sc_reduced.nd rfl (by first | exact Or.inl rfl | exact Or.inr rfl))
  (gs_one (gs_if (gt_w (gw_and (t_gt (x_len T.z_len (x_var 1)) x_int) (gw_and1 (t_eq (hu64 room) (x_ix (hu64 room) (x_var 1) (x_neg x_int)) (x_fn c_back_of room (by decide) gu tkB (ga_cons (x_var 2) ga_nil) (ar_cons ar_nil)))))) (gs_one (gs_expr (x_pop (i := 1) rfl (by first | exact Or.inl rfl | exact Or.inr (Or.inl rfl) | exact Or.inr (Or.inr rfl)))))
  (gs_one (gs_expr (x_append (i := 1) rfl (by first | exact Or.inl rfl | exact Or.inr (Or.inl rfl) | exact Or.inr (Or.inr rfl)) (x_var 2) ⟨rfl, rfl, rfl, rfl, rfl⟩))))))
  (gs_one (gs_ret (x_join (x_str []) (x_var 1) ⟨rfl, rfl, rfl, rfl, rfl⟩))))))
theorem ok_is_thick (T : Top K mg) (c_shared : DefOk P w K mg base 1 "shared" p_shared F_shared) : DefOk P w K mg base 2 "is_thick" p_is_thick F_is_thick :=
  F_is_thick_eq ▸ def_at T.d_is_thick sc_is_thick fun f cdv A l t H E room gu => ((gs_one (gs_ret (ge_and (x_ne (hu64 room) (x_var 0) (x_var 1)) (ge_one (x_ge (x_mulA x_int (x_len T.z_len (x_fn c_shared room (by decide) gu tkB (ga_cons (x_var 0) (ga_cons (x_var 1) ga_nil)) (ar_cons (ar_cons ar_nil))))) (x_len T.z_len (x_var 0))))))))
theorem ok_out_of (T : Top K mg) (c_back_of : DefOk P w K mg base 1 "back_of" p_back_of F_back_of) : DefOk P w K mg base 2 "out_of" p_out_of F_out_of :=
  F_out_of_eq ▸ def_at T.d_out_of sc_out_of fun f cdv A l t H E room gu => ((gs_cons (gs_if (gt_w (gw_or (t_ge (x_add (x_var 1) x_int) (x_len T.z_len (x_var 0))) (gw_or1 (t_ne (hu64 room) (x_ix (hu64 room) (x_var 0) (x_add (x_var 1) x_int)) (x_fn c_back_of room (by decide) gu tkB (ga_cons (x_ix (hu64 room) (x_var 0) (x_var 1)) ga_nil) (ar_cons ar_nil)))))) (gs_one (gs_ret x_non))
  gs_nil)
  (gs_one (gs_ret (x_add (x_sl (x_var 0) gp_none (gp_some (x_var 1))) (x_sl (x_var 0) (gp_some (x_add (x_var 1) x_int)) gp_none))))))
theorem ok_put_in (T : Top K mg) (c_back_of : DefOk P w K mg base 1 "back_of" p_back_of F_back_of) : DefOk P w K mg base 2 "put_in" p_put_in F_put_in :=
  F_put_in_eq ▸ def_at T.d_put_in sc_put_in fun f cdv A l t H E room gu => ((gs_cons (gs_if (t_gt (x_var 1) (x_len T.z_len (x_var 0))) (gs_one (gs_ret x_non))
  gs_nil)
  (gs_one (gs_ret (x_add (x_add (x_add (x_sl (x_var 0) gp_none (gp_some (x_var 1))) (x_var 2)) (x_fn c_back_of room (by decide) gu tkB (ga_cons (x_var 2) ga_nil) (ar_cons ar_nil))) (x_sl (x_var 0) (gp_some (x_var 1)) gp_none))))))
theorem ok_out_steps (T : Top K mg) (c_back_of : DefOk P w K mg base 1 "back_of" p_back_of F_back_of) : DefOk P w K mg base 2 "out_steps" p_out_steps F_out_steps :=
  F_out_steps_eq ▸ def_at T.d_out_steps sc_out_steps fun f cdv A l t H E room gu => ((gs_one (gs_ret (ge_lc (own := [("place", 1)]) rfl sc_out_steps.nd (gi_range1 rfl T.z_range (ga_cons (x_sub (x_len T.z_len (x_var 0)) x_int) ga_nil)) (blkOk_by (N := n_out_steps) (sc := defScope st_out_steps) (own := [("place", 1)]) (by decide +kernel)) (by decide) (fun _ _ _ _ _ => (gg_name (i := 1) sc_out_steps.nd rfl (by first | exact Or.inl rfl | exact Or.inr rfl))) (fun _ _ _ _ _ => (gts_one (t_eq (hu64 room) (x_ix (hu64 room) (x_var 0) (x_add (x_var 1) x_int)) (x_fn c_back_of room (by decide) gu tkQ (ga_cons (x_ix (hu64 room) (x_var 0) (x_var 1)) ga_nil) (ar_cons ar_nil))))) (fun _ _ _ _ _ => (x_tup (ga_cons (x_str [111, 117, 116]) (ga_cons (x_var 1) ga_nil))))))))
theorem ok_ring_step (T : Top K mg) (c_half_of : DefOk P w K mg base 1 "half_of" p_half_of F_half_of) : DefOk P w K mg base 2 "ring_step" p_ring_step F_ring_step :=
  F_ring_step_eq ▸ def_at T.d_ring_step sc_ring_step fun f cdv A l t H E room gu => ((gs_cons (gs_for psB rfl (gi_seq (x_var 0)) (gg_name (i := 2) sc_ring_step.nd rfl (by first | exact Or.inl rfl | exact Or.inr rfl))
  (gs_cons (gs_set (i := 3) sc_ring_step.nd rfl (by first | exact Or.inl rfl | exact Or.inr rfl) (x_fn c_half_of room (by decide) gu tkB (ga_cons (x_var 2) ga_nil) (ar_cons ar_nil)))
  (gs_cons (gs_set (i := 4) sc_ring_step.nd rfl (by first | exact Or.inl rfl | exact Or.inr rfl) (x_find (x_var 1) (x_var 3) ⟨rfl, rfl, rfl, rfl, rfl⟩))
  (gs_one (gs_if (t_ge (x_var 4) x_int) (gs_cons (gs_set (i := 5) sc_ring_step.nd rfl (by first | exact Or.inl rfl | exact Or.inr rfl) (x_len T.z_len (x_var 3)))
  (gs_cons (gs_while psB (gt_w (gw_and (t_lt (x_var 5) (x_len T.z_len (x_var 2))) (gw_and1 (t_eq (hu64 room) (x_sl (x_var 1) (gp_some (x_add (x_var 4) (x_var 5))) (gp_some (x_add (x_add (x_var 4) (x_var 5)) x_int))) (x_ix (hu64 room) (x_var 2) (x_var 5))))))
  (gs_one (gs_set (i := 5) sc_ring_step.nd rfl (by first | exact Or.inl rfl | exact Or.inr rfl) (x_add (x_var 5) x_int))))
  (gs_one (gs_ret (x_tup (ga_cons (x_str [114, 105, 110, 103]) (ga_cons (x_var 4) (ga_cons (x_var 2) (ga_cons (x_var 5) ga_nil)))))))))
  gs_nil)))))
  (gs_one (gs_ret x_non))))
theorem ok__law_reduced (T : Top K mg) (c__law_back : DefOk P w K mg base 1 "_law_back" p__law_back F__law_back) : DefOk P w K mg base 2 "_law_reduced" p__law_reduced F__law_reduced :=
  F__law_reduced_eq ▸ def_at T.d__law_reduced sc__law_reduced fun f cdv A l t H E room gu => ((gs_cons (gs_set (i := 1) sc__law_reduced.nd rfl (by first | exact Or.inl rfl | exact Or.inr rfl) x_int)
  (gs_cons (gs_while psB (t_lt (x_add (x_var 1) x_int) (x_len T.z_len (x_var 0)))
  (gs_one (gs_if (t_eq (hu64 room) (x_ix (hu64 room) (x_var 0) (x_add (x_var 1) x_int)) (x_fn c__law_back room (by decide) gu tkB (ga_cons (x_ix (hu64 room) (x_var 0) (x_var 1)) ga_nil) (ar_cons ar_nil))) (gs_cons (gs_set (i := 0) sc__law_reduced.nd rfl (by first | exact Or.inl rfl | exact Or.inr rfl) (x_add (x_sl (x_var 0) gp_none (gp_some (x_var 1))) (x_sl (x_var 0) (gp_some (x_add (x_var 1) x_int)) gp_none)))
  (gs_one (gs_set (i := 1) sc__law_reduced.nd rfl (by first | exact Or.inl rfl | exact Or.inr rfl) (x_max rfl T.z_max (ga_cons x_int (ga_cons (x_sub (x_var 1) x_int) ga_nil))))))
  (gs_one (gs_set (i := 1) sc__law_reduced.nd rfl (by first | exact Or.inl rfl | exact Or.inr rfl) (x_add (x_var 1) x_int))))))
  (gs_one (gs_ret (x_var 0))))))
theorem ok__law_some (T : Top K mg) (c__law_draw : DefOk P w K mg base 1 "_law_draw" p__law_draw F__law_draw) : DefOk P w K mg base 2 "_law_some" p__law_some F__law_some :=
  F__law_some_eq ▸ def_at T.d__law_some sc__law_some fun f cdv A l t H E room gu => ((gs_cons (gs_set (i := 3) sc__law_some.nd rfl (by first | exact Or.inl rfl | exact Or.inr rfl) (x_add (x_sl (x_str [97, 98, 99, 100, 101, 102]) gp_none (gp_some (x_var 1))) (x_sl (x_str [65, 66, 67, 68, 69, 70]) gp_none (gp_some (x_var 1)))))
  (gs_one (gs_ret (x_join (x_str []) (ge_lc (own := [("_law_k", 4)]) rfl sc__law_some.nd (gi_range1 rfl T.z_range (ga_cons (x_fn c__law_draw room (by decide) gu tkB (ga_cons (x_var 0) (ga_cons (x_add (x_var 2) x_int) ga_nil)) (ar_cons (ar_cons ar_nil))) ga_nil)) (blkOk_by (N := n__law_some) (sc := defScope st__law_some) (own := [("_law_k", 4)]) (by decide +kernel)) (by decide) (fun _ _ _ _ _ => (gg_name (i := 4) sc__law_some.nd rfl (by first | exact Or.inl rfl | exact Or.inr rfl))) (fun _ _ _ _ _ => gts_nil) (fun _ _ _ _ _ => (x_ix (hu64 room) (x_var 3) (x_fn c__law_draw room (by decide) gu tkQ (ga_cons (x_var 0) (ga_cons (x_mulA x_int (x_var 1)) ga_nil)) (ar_cons (ar_cons ar_nil)))))) ⟨rfl, rfl, rfl, rfl, rfl⟩)))))
theorem ok__law_turns_of (T : Top K mg) (c__law_back : DefOk P w K mg base 1 "_law_back" p__law_back F__law_back) : DefOk P w K mg base 2 "_law_turns_of" p__law_turns_of F__law_turns_of :=
  F__law_turns_of_eq ▸ def_at T.d__law_turns_of sc__law_turns_of fun f cdv A l t H E room gu => ((gs_cons (gs_set (i := 1) sc__law_turns_of.nd rfl (by first | exact Or.inl rfl | exact Or.inr rfl) (x_lst ga_nil))
  (gs_cons (gs_for psB rfl (gi_seq (x_var 0)) (gg_name (i := 2) sc__law_turns_of.nd rfl (by first | exact Or.inl rfl | exact Or.inr rfl))
  (gs_one (gs_for psB rfl (gi_seq (x_tup (ga_cons (x_var 2) (ga_cons (x_fn c__law_back room (by decide) gu tkB (ga_cons (x_var 2) ga_nil) (ar_cons ar_nil)) ga_nil)))) (gg_name (i := 3) sc__law_turns_of.nd rfl (by first | exact Or.inl rfl | exact Or.inr rfl))
  (gs_one (gs_for psB rfl (gi_range1 rfl T.z_range (ga_cons (x_len T.z_len (x_var 3)) ga_nil)) (gg_name (i := 4) sc__law_turns_of.nd rfl (by first | exact Or.inl rfl | exact Or.inr rfl))
  (gs_cons (gs_set (i := 5) sc__law_turns_of.nd rfl (by first | exact Or.inl rfl | exact Or.inr rfl) (x_add (x_sl (x_var 3) (gp_some (x_var 4)) gp_none) (x_sl (x_var 3) gp_none (gp_some (x_var 4)))))
  (gs_one (gs_if (t_notIn (hu64 room) (x_var 5) (x_var 1)) (gs_one (gs_expr (x_append (i := 1) rfl (by first | exact Or.inl rfl | exact Or.inr (Or.inl rfl) | exact Or.inr (Or.inr rfl)) (x_var 5) ⟨rfl, rfl, rfl, rfl, rfl⟩)))
  gs_nil))))))))
  (gs_one (gs_ret (x_sorted T.z_sorted (x_var 1)))))))
theorem ok__law_thick (T : Top K mg) (c__law_share : DefOk P w K mg base 1 "_law_share" p__law_share F__law_share) : DefOk P w K mg base 2 "_law_thick" p__law_thick F__law_thick :=
  F__law_thick_eq ▸ def_at T.d__law_thick sc__law_thick fun f cdv A l t H E room gu => ((gs_cons (gs_for psB rfl (gi_seq (x_var 0)) (gg_name (i := 1) sc__law_thick.nd rfl (by first | exact Or.inl rfl | exact Or.inr rfl))
  (gs_one (gs_for psB rfl (gi_seq (x_var 0)) (gg_name (i := 2) sc__law_thick.nd rfl (by first | exact Or.inl rfl | exact Or.inr rfl))
  (gs_cons (gs_set (i := 3) sc__law_thick.nd rfl (by first | exact Or.inl rfl | exact Or.inr rfl) (x_fn c__law_share room (by decide) gu tkB (ga_cons (x_var 1) (ga_cons (x_var 2) ga_nil)) (ar_cons (ar_cons ar_nil))))
  (gs_one (gs_if (gt_w (gw_and (t_ne (hu64 room) (x_var 2) (x_var 1)) (gw_and1 (t_ge (x_mulA (x_len T.z_len (x_var 3)) x_int) (x_len T.z_len (x_var 1)))))) (gs_one (gs_ret (x_tup (ga_cons (x_var 1) (ga_cons (x_var 2) (ga_cons (x_var 3) ga_nil))))))
  gs_nil))))))
  (gs_one (gs_ret x_non))))
theorem ok_times (T : Top K mg) (c_reduced : DefOk P w K mg base 2 "reduced" p_reduced F_reduced) : DefOk P w K mg base 3 "times" p_times F_times :=
  F_times_eq ▸ def_at T.d_times sc_times fun f cdv A l t H E room gu => ((gs_one (gs_ret (x_fn c_reduced room (by decide) gu tkB (ga_cons (x_add (x_var 0) (x_var 1)) ga_nil) (ar_cons ar_nil)))))
theorem ok_power (T : Top K mg) (c_reduced : DefOk P w K mg base 2 "reduced" p_reduced F_reduced) (c_back : DefOk P w K mg base 2 "back" p_back F_back) : DefOk P w K mg base 3 "power" p_power F_power :=
  F_power_eq ▸ def_at T.d_power sc_power fun f cdv A l t H E room gu => ((gs_cons (gs_set (i := 2) sc_power.nd rfl (by first | exact Or.inl rfl | exact Or.inr rfl) (ge_if (t_ge (x_var 1) x_int) (x_var 0) (x_fn c_back room (by decide) gu tkB (ga_cons (x_var 0) ga_nil) (ar_cons ar_nil))))
  (gs_one (gs_ret (x_fn c_reduced room (by decide) gu tkB (ga_cons (x_mulA (x_var 2) (x_abs T.z_abs (x_var 1))) ga_nil) (ar_cons ar_nil))))))
theorem ok_is_turn (T : Top K mg) (c_back : DefOk P w K mg base 2 "back" p_back F_back) : DefOk P w K mg base 3 "is_turn" p_is_turn F_is_turn :=
  F_is_turn_eq ▸ def_at T.d_is_turn sc_is_turn fun f cdv A l t H E room gu => ((gs_cons (gs_for psB rfl (gi_seq (x_var 0)) (gg_name (i := 2) sc_is_turn.nd rfl (by first | exact Or.inl rfl | exact Or.inr rfl))
  (gs_one (gs_if (gt_w (gw_and (t_eq (hu64 room) (x_len T.z_len (x_var 1)) (x_len T.z_len (x_var 2))) (gw_and1 (gt_w (gw_or (t_in (hu64 room) (x_var 1) (x_mulA (x_var 2) x_int)) (gw_or1 (t_in (hu64 room) (x_var 1) (x_mulA (x_fn c_back room (by decide) gu tkB (ga_cons (x_var 2) ga_nil) (ar_cons ar_nil)) x_int)))))))) (gs_one (gs_ret x_bl))
  gs_nil)))
  (gs_one (gs_ret x_bl))))
theorem ok_turns_of (T : Top K mg) (c_turns : DefOk P w K mg base 1 "turns" p_turns F_turns) (c_back : DefOk P w K mg base 2 "back" p_back F_back) : DefOk P w K mg base 3 "turns_of" p_turns_of F_turns_of :=
  F_turns_of_eq ▸ def_at T.d_turns_of sc_turns_of fun f cdv A l t H E room gu => ((gs_cons (gs_set (i := 1) sc_turns_of.nd rfl (by first | exact Or.inl rfl | exact Or.inr rfl) ge_dic0)
  (gs_cons (gs_for psB rfl (gi_seq (x_var 0)) (gg_name (i := 2) sc_turns_of.nd rfl (by first | exact Or.inl rfl | exact Or.inr rfl))
  (gs_one (gs_for psB rfl (gi_seq (x_add (x_fn c_turns room (by decide) gu tkB (ga_cons (x_var 2) ga_nil) (ar_cons ar_nil)) (x_fn c_turns room (by decide) gu tkB (ga_cons (x_fn c_back room (by decide) gu tkB (ga_cons (x_var 2) ga_nil) (ar_cons ar_nil)) ga_nil) (ar_cons ar_nil)))) (gg_name (i := 3) sc_turns_of.nd rfl (by first | exact Or.inl rfl | exact Or.inr rfl))
  (gs_one (gs_sub (i := 1) (hu1 room) rfl (by first | exact Or.inl rfl | exact Or.inr (Or.inl rfl) | exact Or.inr (Or.inr rfl)) x_bl (x_var 3))))))
  (gs_one (gs_ret (x_sorted T.z_sorted (x_listU rfl T.z_list (x_var 1))))))))
theorem ok_next_step (T : Top K mg) (c_ring_step : DefOk P w K mg base 2 "ring_step" p_ring_step F_ring_step) (c_out_steps : DefOk P w K mg base 2 "out_steps" p_out_steps F_out_steps) : DefOk P w K mg base 3 "next_step" p_next_step F_next_step :=
  F_next_step_eq ▸ def_at T.d_next_step sc_next_step fun f cdv A l t H E room gu => ((gs_cons (gs_set (i := 2) sc_next_step.nd rfl (by first | exact Or.inl rfl | exact Or.inr rfl) (x_fn c_out_steps room (by decide) gu tkB (ga_cons (x_var 1) ga_nil) (ar_cons ar_nil)))
  (gs_cons (gs_if (t_gt (x_len T.z_len (x_var 2)) x_int) (gs_one (gs_ret (x_ix (hu64 room) (x_var 2) x_int)))
  gs_nil)
  (gs_one (gs_ret (x_fn c_ring_step room (by decide) gu tkB (ga_cons (x_var 0) (ga_cons (x_var 1) ga_nil)) (ar_cons (ar_cons ar_nil))))))))
theorem ok__law_drawn (T : Top K mg) (c__law_draw : DefOk P w K mg base 1 "_law_draw" p__law_draw F__law_draw) (c__law_back : DefOk P w K mg base 1 "_law_back" p__law_back F__law_back) (c__law_some : DefOk P w K mg base 2 "_law_some" p__law_some F__law_some) : DefOk P w K mg base 3 "_law_drawn" p__law_drawn F__law_drawn :=
  F__law_drawn_eq ▸ def_at T.d__law_drawn sc__law_drawn fun f cdv A l t H E room gu => ((gs_cons (gs_set (i := 3) sc__law_drawn.nd rfl (by first | exact Or.inl rfl | exact Or.inr rfl) (x_fn c__law_draw room (by decide) gu tkB (ga_cons (x_var 0) (ga_cons x_int ga_nil)) (ar_cons (ar_cons ar_nil))))
  (gs_cons (gs_set (i := 4) sc__law_drawn.nd rfl (by first | exact Or.inl rfl | exact Or.inr rfl) (x_fn c__law_some room (by decide) gu tkB (ga_cons (x_var 0) (ga_cons (x_var 1) (ga_cons (ge_if (t_eq (hu64 room) (x_var 3) x_int) (x_var 2) (x_div (x_var 2) x_int)) ga_nil))) (ar_cons (ar_cons (ar_cons ar_nil)))))
  (gs_cons (gs_if (t_eq (hu64 room) (x_var 3) x_int) (gs_one (gs_for psB rfl (gi_range1 rfl T.z_range (ga_cons (x_add x_int (x_fn c__law_draw room (by decide) gu tkB (ga_cons (x_var 0) (ga_cons (x_div (x_var 2) x_int) ga_nil)) (ar_cons (ar_cons ar_nil)))) ga_nil)) (gg_name (i := 5) sc__law_drawn.nd rfl (by first | exact Or.inl rfl | exact Or.inr rfl))
  (gs_cons (gs_set (i := 6) sc__law_drawn.nd rfl (by first | exact Or.inl rfl | exact Or.inr rfl) (x_fn c__law_draw room (by decide) gu tkB (ga_cons (x_var 0) (ga_cons (x_add (x_len T.z_len (x_var 4)) x_int) ga_nil)) (ar_cons (ar_cons ar_nil))))
  (gs_cons (gs_set (i := 7) sc__law_drawn.nd rfl (by first | exact Or.inl rfl | exact Or.inr rfl) (x_ix (hu64 room) (x_str [97, 98, 99, 100, 101, 102]) (x_fn c__law_draw room (by decide) gu tkB (ga_cons (x_var 0) (ga_cons (x_var 1) ga_nil)) (ar_cons (ar_cons ar_nil)))))
  (gs_cons (gs_set (i := 7) sc__law_drawn.nd rfl (by first | exact Or.inl rfl | exact Or.inr rfl) (x_ix (hu64 room) (x_lst (ga_cons (x_var 7) (ga_cons (x_upper (x_var 7)) ga_nil))) (x_fn c__law_draw room (by decide) gu tkB (ga_cons (x_var 0) (ga_cons x_int ga_nil)) (ar_cons (ar_cons ar_nil)))))
  (gs_one (gs_set (i := 4) sc__law_drawn.nd rfl (by first | exact Or.inl rfl | exact Or.inr rfl) (x_add (x_add (x_add (x_sl (x_var 4) gp_none (gp_some (x_var 6))) (x_var 7)) (x_fn c__law_back room (by decide) gu tkB (ga_cons (x_var 7) ga_nil) (ar_cons ar_nil))) (x_sl (x_var 4) (gp_some (x_var 6)) gp_none)))))))))
  gs_nil)
  (gs_cons (gs_set (i := 8) sc__law_drawn.nd rfl (by first | exact Or.inl rfl | exact Or.inr rfl) (x_fn c__law_some room (by decide) gu tkB (ga_cons (x_var 0) (ga_cons (x_var 1) (ga_cons (x_div (x_var 2) x_int) ga_nil))) (ar_cons (ar_cons (ar_cons ar_nil)))))
  (gs_cons (gs_if (t_eq (hu64 room) (x_var 3) x_int) (gs_one (gs_ret (x_add (x_add (x_var 8) (x_var 4)) (x_fn c__law_back room (by decide) gu tkB (ga_cons (x_var 8) ga_nil) (ar_cons ar_nil)))))
  gs_nil)
  (gs_one (gs_ret (ge_if (t_lt (x_var 3) x_int) (x_var 4) (x_add (x_mulA (x_var 4) (x_add x_int (x_fn c__law_draw room (by decide) gu tkB (ga_cons (x_var 0) (ga_cons x_int ga_nil)) (ar_cons (ar_cons ar_nil))))) (x_var 8)))))))))))
theorem ok__law_middle (T : Top K mg) (c__law_back : DefOk P w K mg base 1 "_law_back" p__law_back F__law_back) (c__law_reduced : DefOk P w K mg base 2 "_law_reduced" p__law_reduced F__law_reduced) : DefOk P w K mg base 3 "_law_middle" p__law_middle F__law_middle :=
  F__law_middle_eq ▸ def_at T.d__law_middle sc__law_middle fun f cdv A l t H E room gu => ((gs_cons (gs_set (i := 1) sc__law_middle.nd rfl (by first | exact Or.inl rfl | exact Or.inr rfl) (x_fn c__law_reduced room (by decide) gu tkB (ga_cons (x_var 0) ga_nil) (ar_cons ar_nil)))
  (gs_cons (gs_while psB (gt_w (gw_and (t_gt (x_len T.z_len (x_var 1)) x_int) (gw_and1 (t_eq (hu64 room) (x_ix (hu64 room) (x_var 1) x_int) (x_fn c__law_back room (by decide) gu tkB (ga_cons (x_ix (hu64 room) (x_var 1) (x_sub (x_len T.z_len (x_var 1)) x_int)) ga_nil) (ar_cons ar_nil))))))
  (gs_one (gs_set (i := 1) sc__law_middle.nd rfl (by first | exact Or.inl rfl | exact Or.inr rfl) (x_sl (x_var 1) (gp_some x_int) (gp_some (x_sub (x_len T.z_len (x_var 1)) x_int))))))
  (gs_one (gs_ret (x_var 1))))))
theorem ok__law_made (T : Top K mg) (c__law_draw : DefOk P w K mg base 1 "_law_draw" p__law_draw F__law_draw) (c__law_back : DefOk P w K mg base 1 "_law_back" p__law_back F__law_back) (c__law_some : DefOk P w K mg base 2 "_law_some" p__law_some F__law_some) : DefOk P w K mg base 3 "_law_made" p__law_made F__law_made :=
  F__law_made_eq ▸ def_at T.d__law_made sc__law_made fun f cdv A l t H E room gu => ((gs_cons (gs_set (i := 3) sc__law_made.nd rfl (by first | exact Or.inl rfl | exact Or.inr rfl) (x_str []))
  (gs_cons (gs_for psB rfl (gi_range1 rfl T.z_range (ga_cons (x_add x_int (x_fn c__law_draw room (by decide) gu tkB (ga_cons (x_var 0) (ga_cons (x_var 2) ga_nil)) (ar_cons (ar_cons ar_nil)))) ga_nil)) (gg_name (i := 4) sc__law_made.nd rfl (by first | exact Or.inl rfl | exact Or.inr rfl))
  (gs_cons (gs_set (i := 5) sc__law_made.nd rfl (by first | exact Or.inl rfl | exact Or.inr rfl) (x_fn c__law_some room (by decide) gu tkB (ga_cons (x_var 0) (ga_cons x_int (ga_cons x_int ga_nil))) (ar_cons (ar_cons (ar_cons ar_nil)))))
  (gs_cons (gs_set (i := 6) sc__law_made.nd rfl (by first | exact Or.inl rfl | exact Or.inr rfl) (ge_if (t_ne (hu64 room) (x_var 1) (x_tup ga_nil)) (x_ix (hu64 room) (x_var 1) (x_fn c__law_draw room (by decide) gu tkB (ga_cons (x_var 0) (ga_cons (x_len T.z_len (x_var 1)) ga_nil)) (ar_cons (ar_cons ar_nil)))) (x_str [])))
  (gs_cons (gs_set (i := 7) sc__law_made.nd rfl (by first | exact Or.inl rfl | exact Or.inr rfl) (x_fn c__law_draw room (by decide) gu tkB (ga_cons (x_var 0) (ga_cons (x_add (x_len T.z_len (x_var 6)) x_int) ga_nil)) (ar_cons (ar_cons ar_nil))))
  (gs_cons (gs_set (i := 6) sc__law_made.nd rfl (by first | exact Or.inl rfl | exact Or.inr rfl) (x_add (x_sl (x_var 6) (gp_some (x_var 7)) gp_none) (x_sl (x_var 6) gp_none (gp_some (x_var 7)))))
  (gs_one (gs_set (i := 3) sc__law_made.nd rfl (by first | exact Or.inl rfl | exact Or.inr rfl) (x_add (x_add (x_add (x_var 3) (x_var 5)) (x_ix (hu64 room) (x_lst (ga_cons (x_var 6) (ga_cons (x_fn c__law_back room (by decide) gu tkB (ga_cons (x_var 6) ga_nil) (ar_cons ar_nil)) ga_nil))) (x_fn c__law_draw room (by decide) gu tkB (ga_cons (x_var 0) (ga_cons x_int ga_nil)) (ar_cons (ar_cons ar_nil))))) (x_fn c__law_back room (by decide) gu tkB (ga_cons (x_var 5) ga_nil) (ar_cons ar_nil))))))))))
  (gs_cons (gs_for psB rfl (gi_range1 rfl T.z_range (ga_cons (x_fn c__law_draw room (by decide) gu tkB (ga_cons (x_var 0) (ga_cons x_int ga_nil)) (ar_cons (ar_cons ar_nil))) ga_nil)) (gg_name (i := 4) sc__law_made.nd rfl (by first | exact Or.inl rfl | exact Or.inr rfl))
  (gs_cons (gs_set (i := 7) sc__law_made.nd rfl (by first | exact Or.inl rfl | exact Or.inr rfl) (x_fn c__law_draw room (by decide) gu tkB (ga_cons (x_var 0) (ga_cons (x_add (x_len T.z_len (x_var 3)) x_int) ga_nil)) (ar_cons (ar_cons ar_nil))))
  (gs_cons (gs_set (i := 8) sc__law_made.nd rfl (by first | exact Or.inl rfl | exact Or.inr rfl) (x_ix (hu64 room) (x_str [97, 98, 99, 100, 101, 65, 66, 67, 68, 69]) (x_fn c__law_draw room (by decide) gu tkB (ga_cons (x_var 0) (ga_cons x_int ga_nil)) (ar_cons (ar_cons ar_nil)))))
  (gs_one (gs_set (i := 3) sc__law_made.nd rfl (by first | exact Or.inl rfl | exact Or.inr rfl) (x_add (x_add (x_add (x_sl (x_var 3) gp_none (gp_some (x_var 7))) (x_var 8)) (x_fn c__law_back room (by decide) gu tkB (ga_cons (x_var 8) ga_nil) (ar_cons ar_nil))) (x_sl (x_var 3) (gp_some (x_var 7)) gp_none)))))))
  (gs_one (gs_ret (x_var 3)))))))
theorem ok_thick (T : Top K mg) (c_is_thick : DefOk P w K mg base 2 "is_thick" p_is_thick F_is_thick) (c_shared : DefOk P w K mg base 1 "shared" p_shared F_shared) (c_turns_of : DefOk P w K mg base 3 "turns_of" p_turns_of F_turns_of) : DefOk P w K mg base 4 "thick" p_thick F_thick :=
  F_thick_eq ▸ def_at T.d_thick sc_thick fun f cdv A l t H E room gu => ((gs_cons (gs_set (i := 1) sc_thick.nd rfl (by first | exact Or.inl rfl | exact Or.inr rfl) (x_fn c_turns_of room (by decide) gu tkB (ga_cons (x_var 0) ga_nil) (ar_cons ar_nil)))
  (gs_cons (gs_for psB rfl (gi_enum rfl T.z_enumerate (ga_cons (x_var 1) ga_nil)) (gg_tup rfl (ggs_cons (gg_name (i := 2) sc_thick.nd rfl (by first | exact Or.inl rfl | exact Or.inr rfl)) (ggs_cons (gg_name (i := 3) sc_thick.nd rfl (by first | exact Or.inl rfl | exact Or.inr rfl)) ggs_nil)))
  (gs_cons (gs_set (i := 4) sc_thick.nd rfl (by first | exact Or.inl rfl | exact Or.inr rfl) (x_sl (x_var 1) (gp_some (x_max rfl T.z_max (ga_cons x_int (ga_cons (x_sub (x_var 2) x_int) ga_nil)))) (gp_some (x_add (x_var 2) x_int))))
  (gs_one (gs_if (gt_tru (x_any rfl T.z_any (ge_lc (own := [("other", 6)]) rfl sc_thick.nd (gi_seq (x_var 4)) (blkOk_by (N := n_thick) (sc := defScope st_thick) (own := [("other", 6)]) (by decide +kernel)) (by decide) (fun _ _ _ _ _ => (gg_name (i := 6) sc_thick.nd rfl (by first | exact Or.inl rfl | exact Or.inr rfl))) (fun _ _ _ _ _ => gts_nil) (fun _ _ _ _ _ => (x_fn c_is_thick room (by decide) gu tkQ (ga_cons (x_var 3) (ga_cons (x_var 6) ga_nil)) (ar_cons (ar_cons ar_nil))))))) (gs_cons (gs_setLc (i := 5) (own := [("other", 6)]) rfl sc_thick.nd rfl rfl (sw_true rfl rfl rfl (by decide +kernel)) (gi_seq (x_var 1)) (blkOk_by (N := n_thick) (sc := defScope st_thick) (own := [("other", 6)]) (by decide +kernel)) (by decide) (fun _ _ _ _ _ => (gg_name (i := 6) sc_thick.nd rfl (by first | exact Or.inl rfl | exact Or.inr rfl))) (fun _ _ _ _ _ => (gts_one (gt_tru (x_fn c_is_thick room (by decide) gu tkQ (ga_cons (x_var 3) (ga_cons (x_var 6) ga_nil)) (ar_cons (ar_cons ar_nil)))))) (fun _ _ _ _ _ => (x_var 6)))
  (gs_one (gs_ret (x_tup (ga_cons (x_var 3) (ga_cons (x_ix (hu64 room) (x_var 5) x_int) (ga_cons (x_fn c_shared room (by decide) gu tkB (ga_cons (x_var 3) (ga_cons (x_ix (hu64 room) (x_var 5) x_int) ga_nil)) (ar_cons (ar_cons ar_nil))) ga_nil)))))))
  gs_nil))))
  (gs_one (gs_ret x_non)))))
theorem ok_ringed (T : Top K mg) (c_back : DefOk P w K mg base 2 "back" p_back F_back) (c_is_turn : DefOk P w K mg base 3 "is_turn" p_is_turn F_is_turn) : DefOk P w K mg base 4 "ringed" p_ringed F_ringed :=
  F_ringed_eq ▸ def_at T.d_ringed sc_ringed fun f cdv A l t H E room gu => ((gs_cons (gs_if (gt_w (gw_or (t_gt (x_var 4) (x_len T.z_len (x_var 3))) (gw_or (t_gt (x_add (x_var 2) (x_var 4)) (x_len T.z_len (x_var 1))) (gw_or1 (gt_not (gt_tru (x_fn c_is_turn room (by decide) gu tkB (ga_cons (x_var 0) (ga_cons (x_var 3) ga_nil)) (ar_cons (ar_cons ar_nil))))))))) (gs_one (gs_ret x_non))
  gs_nil)
  (gs_cons (gs_if (t_ne (hu64 room) (x_sl (x_var 1) (gp_some (x_var 2)) (gp_some (x_add (x_var 2) (x_var 4)))) (x_sl (x_var 3) gp_none (gp_some (x_var 4)))) (gs_one (gs_ret x_non))
  gs_nil)
  (gs_one (gs_ret (x_add (x_add (x_sl (x_var 1) gp_none (gp_some (x_var 2))) (x_fn c_back room (by decide) gu tkB (ga_cons (x_sl (x_var 3) (gp_some (x_var 4)) gp_none) ga_nil) (ar_cons ar_nil))) (x_sl (x_var 1) (gp_some (x_add (x_var 2) (x_var 4))) gp_none)))))))
theorem ok__law_thin (T : Top K mg) (c__law_thick : DefOk P w K mg base 2 "_law_thick" p__law_thick F__law_thick) (c__law_turns_of : DefOk P w K mg base 2 "_law_turns_of" p__law_turns_of F__law_turns_of) (c__law_back : DefOk P w K mg base 1 "_law_back" p__law_back F__law_back) (c__law_draw : DefOk P w K mg base 1 "_law_draw" p__law_draw F__law_draw) (c__law_middle : DefOk P w K mg base 3 "_law_middle" p__law_middle F__law_middle) (c__law_some : DefOk P w K mg base 2 "_law_some" p__law_some F__law_some) : DefOk P w K mg base 4 "_law_thin" p__law_thin F__law_thin :=
  F__law_thin_eq ▸ def_at T.d__law_thin sc__law_thin fun f cdv A l t H E room gu => ((gs_cons (gs_set (i := 1) sc__law_thin.nd rfl (by first | exact Or.inl rfl | exact Or.inr rfl) (x_fn c__law_draw room (by decide) gu tkB (ga_cons (x_var 0) (ga_cons x_int ga_nil)) (ar_cons (ar_cons ar_nil))))
  (gs_cons (gs_set (i := 2) sc__law_thin.nd rfl (by first | exact Or.inl rfl | exact Or.inr rfl) (x_tup ga_nil))
  (gs_cons (gs_if (t_eq (hu64 room) (x_var 1) x_int) (gs_cons (gs_setLc (i := 3) (own := [("_law_sign", 8)]) rfl sc__law_thin.nd rfl rfl (sw_true rfl rfl rfl (by decide +kernel)) (gi_seq (x_str [97, 98, 99, 100, 101])) (blkOk_by (N := n__law_thin) (sc := defScope st__law_thin) (own := [("_law_sign", 8)]) (by decide +kernel)) (by decide) (fun _ _ _ _ _ => (gg_name (i := 8) sc__law_thin.nd rfl (by first | exact Or.inl rfl | exact Or.inr rfl))) (fun _ _ _ _ _ => gts_nil) (fun _ _ _ _ _ => (x_mulA (x_var 8) (x_add x_int (x_fn c__law_draw room (by decide) gu tkQ (ga_cons (x_var 0) (ga_cons x_int ga_nil)) (ar_cons (ar_cons ar_nil)))))))
  (gs_one (gs_set (i := 2) sc__law_thin.nd rfl (by first | exact Or.inl rfl | exact Or.inr rfl) (x_sl (x_tupU rfl T.z_tuple (x_add (x_var 3) (x_lst (ga_cons (x_mulA (x_str [97, 98, 65, 66]) (x_add x_int (x_fn c__law_draw room (by decide) gu tkB (ga_cons (x_var 0) (ga_cons x_int ga_nil)) (ar_cons (ar_cons ar_nil))))) ga_nil)))) (gp_some (x_fn c__law_draw room (by decide) gu tkB (ga_cons (x_var 0) (ga_cons x_int ga_nil)) (ar_cons (ar_cons ar_nil)))) gp_none))))
  gs_nil)
  (gs_cons (gs_if (t_eq (hu64 room) (x_var 1) x_int) (gs_one (gs_set (i := 2) sc__law_thin.nd rfl (by first | exact Or.inl rfl | exact Or.inr rfl) (x_sl (x_tup (ga_cons (x_mulA (x_str [97]) (x_add x_int (x_fn c__law_draw room (by decide) gu tkB (ga_cons (x_var 0) (ga_cons x_int ga_nil)) (ar_cons (ar_cons ar_nil))))) (ga_cons (x_mulA (x_str [66]) (x_add x_int (x_fn c__law_draw room (by decide) gu tkB (ga_cons (x_var 0) (ga_cons x_int ga_nil)) (ar_cons (ar_cons ar_nil))))) ga_nil))) (gp_some (x_fn c__law_draw room (by decide) gu tkB (ga_cons (x_var 0) (ga_cons x_int ga_nil)) (ar_cons (ar_cons ar_nil)))) gp_none)))
  gs_nil)
  (gs_cons (gs_if (t_eq (hu64 room) (x_var 1) x_int) (gs_one (gs_set (i := 2) sc__law_thin.nd rfl (by first | exact Or.inl rfl | exact Or.inr rfl) (x_tup (ga_cons (x_mulA (x_fn c__law_middle room (by decide) gu tkB (ga_cons (x_fn c__law_some room (by decide) gu tkB (ga_cons (x_var 0) (ga_cons x_int (ga_cons x_int ga_nil))) (ar_cons (ar_cons (ar_cons ar_nil)))) ga_nil) (ar_cons ar_nil)) (x_add x_int (x_fn c__law_draw room (by decide) gu tkB (ga_cons (x_var 0) (ga_cons x_int ga_nil)) (ar_cons (ar_cons ar_nil))))) ga_nil))))
  gs_nil)
  (gs_cons (gs_if (t_eq (hu64 room) (x_var 1) x_int) (gs_one (gs_set (i := 2) sc__law_thin.nd rfl (by first | exact Or.inl rfl | exact Or.inr rfl) (x_tup (ga_cons (x_mulA (x_str [97]) (x_add x_int (x_fn c__law_draw room (by decide) gu tkB (ga_cons (x_var 0) (ga_cons x_int ga_nil)) (ar_cons (ar_cons ar_nil))))) (ga_cons (x_mulA (x_str [98]) (x_add x_int (x_fn c__law_draw room (by decide) gu tkB (ga_cons (x_var 0) (ga_cons x_int ga_nil)) (ar_cons (ar_cons ar_nil))))) (ga_cons (x_mulA (x_str [97, 98]) (x_add x_int (x_fn c__law_draw room (by decide) gu tkB (ga_cons (x_var 0) (ga_cons x_int ga_nil)) (ar_cons (ar_cons ar_nil))))) ga_nil))))))
  gs_nil)
  (gs_cons (gs_if (t_gt (x_var 1) x_int) (gs_cons (gs_set (i := 2) sc__law_thin.nd rfl (by first | exact Or.inl rfl | exact Or.inr rfl) (x_tup (ga_cons (x_ix (hu64 room) (x_lst (ga_cons (x_str [97, 98, 65, 66, 99, 100, 67, 68]) (ga_cons (x_str [97, 98, 99, 100, 65, 66, 67, 68]) (ga_cons (x_str [97, 97, 98, 98, 99, 99, 100, 100]) (ga_cons (x_str [97, 98, 99, 65, 66, 100, 67, 68]) ga_nil))))) (x_fn c__law_draw room (by decide) gu tkB (ga_cons (x_var 0) (ga_cons x_int ga_nil)) (ar_cons (ar_cons ar_nil)))) (ga_cons (x_mulA (x_str [101]) (x_add x_int (x_fn c__law_draw room (by decide) gu tkB (ga_cons (x_var 0) (ga_cons x_int ga_nil)) (ar_cons (ar_cons ar_nil))))) ga_nil))))
  (gs_one (gs_set (i := 2) sc__law_thin.nd rfl (by first | exact Or.inl rfl | exact Or.inr rfl) (x_sl (x_var 2) gp_none (gp_some (x_add x_int (x_fn c__law_draw room (by decide) gu tkB (ga_cons (x_var 0) (ga_cons x_int ga_nil)) (ar_cons (ar_cons ar_nil)))))))))
  gs_nil)
  (gs_cons (gs_set (i := 4) sc__law_thin.nd rfl (by first | exact Or.inl rfl | exact Or.inr rfl) (x_lst ga_nil))
  (gs_cons (gs_for psB rfl (gi_seq (x_var 2)) (gg_name (i := 5) sc__law_thin.nd rfl (by first | exact Or.inl rfl | exact Or.inr rfl))
  (gs_cons (gs_set (i := 6) sc__law_thin.nd rfl (by first | exact Or.inl rfl | exact Or.inr rfl) (x_fn c__law_draw room (by decide) gu tkB (ga_cons (x_var 0) (ga_cons (x_add (x_len T.z_len (x_var 5)) x_int) ga_nil)) (ar_cons (ar_cons ar_nil))))
  (gs_one (gs_expr (x_append (i := 4) rfl (by first | exact Or.inl rfl | exact Or.inr (Or.inl rfl) | exact Or.inr (Or.inr rfl)) (x_ix (hu64 room) (x_lst (ga_cons (x_add (x_sl (x_var 5) (gp_some (x_var 6)) gp_none) (x_sl (x_var 5) gp_none (gp_some (x_var 6)))) (ga_cons (x_fn c__law_back room (by decide) gu tkB (ga_cons (x_add (x_sl (x_var 5) (gp_some (x_var 6)) gp_none) (x_sl (x_var 5) gp_none (gp_some (x_var 6)))) ga_nil) (ar_cons ar_nil)) ga_nil))) (x_fn c__law_draw room (by decide) gu tkB (ga_cons (x_var 0) (ga_cons x_int ga_nil)) (ar_cons (ar_cons ar_nil)))) ⟨rfl, rfl, rfl, rfl, rfl⟩)))))
  (gs_cons (gs_set (i := 7) sc__law_thin.nd rfl (by first | exact Or.inl rfl | exact Or.inr rfl) (ge_and (x_notIn (hu64 room) (x_str []) (x_var 4)) (ge_one (x_is (x_fn c__law_thick room (by decide) gu tkB (ga_cons (x_fn c__law_turns_of room (by decide) gu tkB (ga_cons (x_var 4) ga_nil) (ar_cons ar_nil)) ga_nil) (ar_cons ar_nil)) x_non))))
  (gs_one (gs_ret (ge_if (gt_tru (x_var 7)) (x_tupU rfl T.z_tuple (x_var 4)) (x_tup ga_nil)))))))))))))))
theorem ok_behind (T : Top K mg) (c_out_of : DefOk P w K mg base 2 "out_of" p_out_of F_out_of) (c_put_in : DefOk P w K mg base 2 "put_in" p_put_in F_put_in) (c_ringed : DefOk P w K mg base 4 "ringed" p_ringed F_ringed) : DefOk P w K mg base 5 "behind" p_behind F_behind :=
  F_behind_eq ▸ def_at T.d_behind sc_behind fun f cdv A l t H E room gu => ((gs_cons (gs_if (t_eq (hu64 room) (x_ix (hu64 room) (x_var 2) x_int) (x_str [111, 117, 116])) (gs_one (gs_set (i := 3) sc_behind.nd rfl (by first | exact Or.inl rfl | exact Or.inr rfl) (x_fn c_out_of room (by decide) gu tkB (ga_cons (x_var 1) (ga_cons (x_ix (hu64 room) (x_var 2) x_int) ga_nil)) (ar_cons (ar_cons ar_nil)))))
  (gs_one (gs_if (t_eq (hu64 room) (x_ix (hu64 room) (x_var 2) x_int) (x_str [105, 110])) (gs_one (gs_set (i := 3) sc_behind.nd rfl (by first | exact Or.inl rfl | exact Or.inr rfl) (x_fn c_put_in room (by decide) gu tkB (ga_cons (x_var 1) (ga_cons (x_ix (hu64 room) (x_var 2) x_int) (ga_cons (x_ix (hu64 room) (x_var 2) x_int) ga_nil))) (ar_cons (ar_cons (ar_cons ar_nil))))))
  (gs_one (gs_set (i := 3) sc_behind.nd rfl (by first | exact Or.inl rfl | exact Or.inr rfl) (x_fn c_ringed room (by decide) gu tkB (ga_cons (x_var 0) (ga_cons (x_var 1) (ga_cons (x_ix (hu64 room) (x_var 2) x_int) (ga_cons (x_ix (hu64 room) (x_var 2) x_int) (ga_cons (x_ix (hu64 room) (x_var 2) x_int) ga_nil))))) (ar_cons (ar_cons (ar_cons (ar_cons (ar_cons ar_nil)))))))))))
  (gs_cons (gs_if (gt_w (gw_and (t_isNot (x_var 3) x_non) (gw_and1 (t_gt (x_len T.z_len (x_var 3)) (x_gint T.c_MOST_LETTERS))))) (gs_one (gs_ret x_non))
  gs_nil)
  (gs_one (gs_ret (x_var 3))))))
theorem ok_shortened (T : Top K mg) (c_next_step : DefOk P w K mg base 3 "next_step" p_next_step F_next_step) (c_behind : DefOk P w K mg base 5 "behind" p_behind F_behind) (c_turns_of : DefOk P w K mg base 3 "turns_of" p_turns_of F_turns_of) : DefOk P w K mg base 6 "shortened" p_shortened F_shortened :=
  F_shortened_eq ▸ def_at T.d_shortened sc_shortened fun f cdv A l t H E room gu => ((gs_cons (gs_set (i := 2) sc_shortened.nd rfl (by first | exact Or.inl rfl | exact Or.inr rfl) (x_fn c_turns_of room (by decide) gu tkB (ga_cons (x_var 0) ga_nil) (ar_cons ar_nil)))
  (gs_cons (gs_set (i := 3) sc_shortened.nd rfl (by first | exact Or.inl rfl | exact Or.inr rfl) (x_lst ga_nil))
  (gs_cons (gs_set (i := 4) sc_shortened.nd rfl (by first | exact Or.inl rfl | exact Or.inr rfl) (x_var 1))
  (gs_cons (gs_set (i := 5) sc_shortened.nd rfl (by first | exact Or.inl rfl | exact Or.inr rfl) (x_fn c_next_step room (by decide) gu tkB (ga_cons (x_var 2) (ga_cons (x_var 4) ga_nil)) (ar_cons (ar_cons ar_nil))))
  (gs_cons (gs_while psB (t_isNot (x_var 5) x_non)
  (gs_cons (gs_expr (x_append (i := 3) rfl (by first | exact Or.inl rfl | exact Or.inr (Or.inl rfl) | exact Or.inr (Or.inr rfl)) (x_var 5) ⟨rfl, rfl, rfl, rfl, rfl⟩))
  (gs_cons (gs_set (i := 4) sc_shortened.nd rfl (by first | exact Or.inl rfl | exact Or.inr rfl) (x_fn c_behind room (by decide) gu tkB (ga_cons (x_var 0) (ga_cons (x_var 4) (ga_cons (x_var 5) ga_nil))) (ar_cons (ar_cons (ar_cons ar_nil)))))
  (gs_one (gs_set (i := 5) sc_shortened.nd rfl (by first | exact Or.inl rfl | exact Or.inr rfl) (x_fn c_next_step room (by decide) gu tkB (ga_cons (x_var 2) (ga_cons (x_var 4) ga_nil)) (ar_cons (ar_cons ar_nil))))))))
  (gs_one (gs_ret (x_tup (ga_cons (x_tupU rfl T.z_tuple (x_var 3)) (ga_cons (x_var 4) ga_nil)))))))))))
theorem ok_judged (T : Top K mg) (c_shortened : DefOk P w K mg base 6 "shortened" p_shortened F_shortened) (c_thick : DefOk P w K mg base 4 "thick" p_thick F_thick) : DefOk P w K mg base 7 "judged" p_judged F_judged :=
  F_judged_eq ▸ def_at T.d_judged sc_judged fun f cdv A l t H E room gu => (have x_NoThin := x_NoThin (P := P) (w := w) (base := base) T; (gs_cons (gs_set (i := 2) sc_judged.nd rfl (by first | exact Or.inl rfl | exact Or.inr rfl) (x_fn c_thick room (by decide) gu tkB (ga_cons (x_var 0) ga_nil) (ar_cons ar_nil)))
  (gs_cons (gs_if (t_isNot (x_var 2) x_non) (gs_one (gs_raise x_NoThin rfl room (by decide) tkB (ga_cons (x_ix (hu64 room) (x_var 2) x_int) (ga_cons (x_ix (hu64 room) (x_var 2) x_int) (ga_cons (x_ix (hu64 room) (x_var 2) x_int) ga_nil)))))
  gs_nil)
  (gs_cons (gs_asg (x_fn c_shortened room (by decide) gu tkB (ga_cons (x_var 0) (ga_cons (x_var 1) ga_nil)) (ar_cons (ar_cons ar_nil))) (gg_tupU rfl (ggs_cons (gg_name (i := 3) sc_judged.nd rfl (by first | exact Or.inl rfl | exact Or.inr rfl)) (ggs_cons (gg_name (i := 4) sc_judged.nd rfl (by first | exact Or.inl rfl | exact Or.inr rfl)) ggs_nil))))
  (gs_cons (gs_if (t_eq (hu64 room) (x_var 4) (x_str [])) (gs_one (gs_ret (x_tup (ga_cons (x_str [110, 111, 116, 104, 105, 110, 103]) (ga_cons (x_var 3) ga_nil)))))
  gs_nil)
  (gs_one (gs_ret (x_tup (ga_cons (x_str [110, 111, 110, 101]) (ga_cons (x_tup (ga_cons (x_str [115, 104, 111, 114, 116]) (ga_cons (x_var 3) ga_nil))) ga_nil))))))))))
theorem ok__law_nothing (T : Top K mg) (c_judged : DefOk P w K mg base 7 "judged" p_judged F_judged) : DefOk P w K mg base 8 "_law_nothing" p__law_nothing F__law_nothing :=
  F__law_nothing_eq ▸ def_at T.d__law_nothing sc__law_nothing fun f cdv A l t H E room gu => ((gs_one (gs_ret (x_eq (hu64 room) (x_ix (hu64 room) (x_fn c_judged room (by decide) gu tkB (ga_cons (x_var 0) (ga_cons (x_var 1) ga_nil)) (ar_cons (ar_cons ar_nil))) x_int) (x_str [110, 111, 116, 104, 105, 110, 103])))))
theorem ok__law_same (T : Top K mg) (c__law_nothing : DefOk P w K mg base 8 "_law_nothing" p__law_nothing F__law_nothing) (c_times : DefOk P w K mg base 3 "times" p_times F_times) (c_back : DefOk P w K mg base 2 "back" p_back F_back) : DefOk P w K mg base 9 "_law_same" p__law_same F__law_same :=
  F__law_same_eq ▸ def_at T.d__law_same sc__law_same fun f cdv A l t H E room gu => ((gs_one (gs_ret (x_fn c__law_nothing room (by decide) gu tkB (ga_cons (x_var 0) (ga_cons (x_fn c_times room (by decide) gu tkB (ga_cons (x_var 1) (ga_cons (x_fn c_back room (by decide) gu tkB (ga_cons (x_var 2) ga_nil) (ar_cons ar_nil)) ga_nil)) (ar_cons (ar_cons ar_nil))) ga_nil)) (ar_cons (ar_cons ar_nil))))))
theorem ok__law_roots_right (T : Top K mg) (c__law_draw : DefOk P w K mg base 1 "_law_draw" p__law_draw F__law_draw) (c__law_nothing : DefOk P w K mg base 8 "_law_nothing" p__law_nothing F__law_nothing) (c_power : DefOk P w K mg base 3 "power" p_power F_power) (c_rooted : DefOk P w K mg base 1 "rooted" p_rooted F_rooted) : DefOk P w K mg base 9 "_law_roots_right" p__law_roots_right F__law_roots_right :=
  F__law_roots_right_eq ▸ def_at T.d__law_roots_right sc__law_roots_right fun f cdv A l t H E room gu => ((gs_cons (gs_set (i := 2) sc__law_roots_right.nd rfl (by first | exact Or.inl rfl | exact Or.inr rfl) (x_fn c__law_draw room (by decide) gu tkB (ga_cons (x_var 0) (ga_cons (x_max rfl T.z_max (ga_cons x_int (ga_cons (x_len T.z_len (x_var 1)) ga_nil))) ga_nil)) (ar_cons (ar_cons ar_nil))))
  (gs_cons (gs_for psB rfl (gi_seq (x_sl (x_var 1) (gp_some (x_var 2)) (gp_some (x_add (x_var 2) x_int)))) (gg_name (i := 3) sc__law_roots_right.nd rfl (by first | exact Or.inl rfl | exact Or.inr rfl))
  (gs_cons (gs_asg (x_fn c_rooted room (by decide) gu tkB (ga_cons (x_var 3) ga_nil) (ar_cons ar_nil)) (gg_tupU rfl (ggs_cons (gg_name (i := 4) sc__law_roots_right.nd rfl (by first | exact Or.inl rfl | exact Or.inr rfl)) (ggs_cons (gg_name (i := 5) sc__law_roots_right.nd rfl (by first | exact Or.inl rfl | exact Or.inr rfl)) ggs_nil))))
  (gs_one (gs_for psB rfl (gi_seq (x_tup (ga_cons x_int (ga_cons (x_sub (x_var 5) x_int) (ga_cons (x_var 5) (ga_cons (x_sub (x_fn c__law_draw room (by decide) gu tkB (ga_cons (x_var 0) (ga_cons x_int ga_nil)) (ar_cons (ar_cons ar_nil))) x_int) ga_nil)))))) (gg_name (i := 6) sc__law_roots_right.nd rfl (by first | exact Or.inl rfl | exact Or.inr rfl))
  (gs_one (gs_if (gt_w (gw_and (t_le (x_abs T.z_abs (x_var 6)) x_int) (gw_and1 (t_ne (hu64 room) (x_fn c__law_nothing room (by decide) gu tkB (ga_cons (x_var 1) (ga_cons (x_fn c_power room (by decide) gu tkB (ga_cons (x_var 4) (ga_cons (x_var 6) ga_nil)) (ar_cons (ar_cons ar_nil))) ga_nil)) (ar_cons (ar_cons ar_nil))) (x_eq (hu64 room) (x_mod (x_var 6) (x_var 5)) x_int))))) (gs_one (gs_ret x_bl))
  gs_nil))))))
  (gs_one (gs_ret x_bl)))))
theorem ok_law {f : Addr} {fd : FuncData} (F : L2.Fun K "law" "law" st_law f fd) (T : Top K mg) (c__law_same : DefOk P w K mg base 9 "_law_same" p__law_same F__law_same) (c_back : DefOk P w K mg base 2 "back" p_back F_back) (c__law_nothing : DefOk P w K mg base 8 "_law_nothing" p__law_nothing F__law_nothing) (c__law_some : DefOk P w K mg base 2 "_law_some" p__law_some F__law_some) (c__law_drawn : DefOk P w K mg base 3 "_law_drawn" p__law_drawn F__law_drawn) (c__law_draw : DefOk P w K mg base 1 "_law_draw" p__law_draw F__law_draw) (c__law_made : DefOk P w K mg base 3 "_law_made" p__law_made F__law_made) (c__law_roots_right : DefOk P w K mg base 9 "_law_roots_right" p__law_roots_right F__law_roots_right) (c__law_thin : DefOk P w K mg base 4 "_law_thin" p__law_thin F__law_thin) (c__law_feed : DefOk P w K mg base 1 "_law_feed" p__law_feed F__law_feed) : FnG P w K mg base 10 f fd p_law (spF (GB.ct0 K mg) 1 F_law) :=
  F_law_eq ▸ def_ok F sc_law fun cdv A l t H E room gu => ((gs_cons (gs_set (i := 1) sc_law.nd rfl (by first | exact Or.inl rfl | exact Or.inr rfl) (x_fn c__law_feed room (by decide) gu tkB (ga_cons (x_var 0) ga_nil) (ar_cons ar_nil)))
  (gs_cons (gs_for psB rfl (gi_range1 rfl T.z_range (ga_cons x_int ga_nil)) (gg_name (i := 2) sc_law.nd rfl (by first | exact Or.inl rfl | exact Or.inr rfl))
  (gs_cons (gs_set (i := 3) sc_law.nd rfl (by first | exact Or.inl rfl | exact Or.inr rfl) (x_fn c__law_thin room (by decide) gu tkB (ga_cons (x_var 1) ga_nil) (ar_cons ar_nil)))
  (gs_cons (gs_if (gt_not (gt_tru (x_fn c__law_roots_right room (by decide) gu tkB (ga_cons (x_var 1) (ga_cons (x_var 3) ga_nil)) (ar_cons (ar_cons ar_nil))))) (gs_one (gs_ret x_bl))
  gs_nil)
  (gs_cons (gs_set (i := 4) sc_law.nd rfl (by first | exact Or.inl rfl | exact Or.inr rfl) (x_lst (ga_cons (x_fn c__law_drawn room (by decide) gu tkB (ga_cons (x_var 1) (ga_cons x_int (ga_cons x_int ga_nil))) (ar_cons (ar_cons (ar_cons ar_nil)))) ga_nil)))
  (gs_cons (gs_for psB rfl (gi_range1 rfl T.z_range (ga_cons x_int ga_nil)) (gg_name (i := 5) sc_law.nd rfl (by first | exact Or.inl rfl | exact Or.inr rfl))
  (gs_cons (gs_set (i := 6) sc_law.nd rfl (by first | exact Or.inl rfl | exact Or.inr rfl) (x_ix (hu64 room) (x_var 4) (x_var 5)))
  (gs_cons (gs_set (i := 7) sc_law.nd rfl (by first | exact Or.inl rfl | exact Or.inr rfl) (x_fn c__law_draw room (by decide) gu tkB (ga_cons (x_var 1) (ga_cons (x_add (x_len T.z_len (x_var 6)) x_int) ga_nil)) (ar_cons (ar_cons ar_nil))))
  (gs_cons (gs_set (i := 6) sc_law.nd rfl (by first | exact Or.inl rfl | exact Or.inr rfl) (x_add (x_add (x_sl (x_var 6) gp_none (gp_some (x_var 7))) (x_fn c__law_made room (by decide) gu tkB (ga_cons (x_var 1) (ga_cons (x_var 3) (ga_cons x_int ga_nil))) (ar_cons (ar_cons (ar_cons ar_nil))))) (x_sl (x_var 6) (gp_some (x_var 7)) gp_none)))
  (gs_one (gs_expr (x_append (i := 4) rfl (by first | exact Or.inl rfl | exact Or.inr (Or.inl rfl) | exact Or.inr (Or.inr rfl)) (x_ix (hu64 room) (x_lst (ga_cons (x_var 6) (ga_cons (x_fn c__law_drawn room (by decide) gu tkB (ga_cons (x_var 1) (ga_cons x_int (ga_cons x_int ga_nil))) (ar_cons (ar_cons (ar_cons ar_nil)))) ga_nil))) (x_div (x_fn c__law_draw room (by decide) gu tkB (ga_cons (x_var 1) (ga_cons x_int ga_nil)) (ar_cons (ar_cons ar_nil))) x_int)) ⟨rfl, rfl, rfl, rfl, rfl⟩)))))))
  (gs_cons (gs_asg (x_var 4) (gg_tupU rfl (ggs_cons (gg_name (i := 8) sc_law.nd rfl (by first | exact Or.inl rfl | exact Or.inr rfl)) (ggs_cons (gg_name (i := 9) sc_law.nd rfl (by first | exact Or.inl rfl | exact Or.inr rfl)) (ggs_cons (gg_name (i := 10) sc_law.nd rfl (by first | exact Or.inl rfl | exact Or.inr rfl)) ggs_nil)))))
  (gs_cons (gs_set (i := 11) sc_law.nd rfl (by first | exact Or.inl rfl | exact Or.inr rfl) (x_lst (ga_cons (x_tup (ga_cons (x_var 8) (ga_cons (x_var 9) ga_nil))) (ga_cons (x_tup (ga_cons (x_var 9) (ga_cons (x_var 10) ga_nil))) (ga_cons (x_tup (ga_cons (x_var 8) (ga_cons (x_var 10) ga_nil))) ga_nil)))))
  (gs_cons (gs_setLc (i := 12) (own := [("_law_first", 16), ("_law_second", 17)]) rfl sc_law.nd rfl rfl (sw_true rfl rfl rfl (by decide +kernel)) (gi_seq (x_var 11)) (blkOk_by (N := n_law) (sc := defScope st_law) (own := [("_law_first", 16), ("_law_second", 17)]) (by decide +kernel)) (by decide) (fun _ _ _ _ _ => (gg_tup rfl (ggs_cons (gg_name (i := 16) sc_law.nd rfl (by first | exact Or.inl rfl | exact Or.inr rfl)) (ggs_cons (gg_name (i := 17) sc_law.nd rfl (by first | exact Or.inl rfl | exact Or.inr rfl)) ggs_nil)))) (fun _ _ _ _ _ => gts_nil) (fun _ _ _ _ _ => (x_fn c__law_same room (by decide) gu tkQ (ga_cons (x_var 3) (ga_cons (x_var 16) (ga_cons (x_var 17) ga_nil))) (ar_cons (ar_cons (ar_cons ar_nil))))))
  (gs_cons (gs_if (gt_w (gw_or (t_eq (hu64 room) (x_lcount (x_var 12) x_bl ⟨rfl, rfl, rfl, rfl, rfl⟩) x_int) (gw_or1 (t_ne (hu64 room) (x_fn c__law_same room (by decide) gu tkB (ga_cons (x_var 3) (ga_cons (x_var 9) (ga_cons (x_var 8) ga_nil))) (ar_cons (ar_cons (ar_cons ar_nil)))) (x_ix (hu64 room) (x_var 12) x_int))))) (gs_one (gs_ret x_bl))
  gs_nil)
  (gs_cons (gs_set (i := 13) sc_law.nd rfl (by first | exact Or.inl rfl | exact Or.inr rfl) (x_fn c__law_some room (by decide) gu tkB (ga_cons (x_var 1) (ga_cons x_int (ga_cons x_int ga_nil))) (ar_cons (ar_cons (ar_cons ar_nil)))))
  (gs_cons (gs_if (gt_w (gw_and (gt_tru (x_ix (hu64 room) (x_var 12) x_int)) (gw_and1 (t_ne (hu64 room) (x_fn c__law_nothing room (by decide) gu tkB (ga_cons (x_var 3) (ga_cons (x_var 8) ga_nil)) (ar_cons (ar_cons ar_nil))) (x_fn c__law_nothing room (by decide) gu tkB (ga_cons (x_var 3) (ga_cons (x_var 9) ga_nil)) (ar_cons (ar_cons ar_nil))))))) (gs_one (gs_ret x_bl))
  gs_nil)
  (gs_cons (gs_set (i := 14) sc_law.nd rfl (by first | exact Or.inl rfl | exact Or.inr rfl) (x_fn c__law_same room (by decide) gu tkB (ga_cons (x_var 3) (ga_cons (x_add (x_var 13) (x_var 8)) (ga_cons (x_add (x_var 13) (x_var 9)) ga_nil))) (ar_cons (ar_cons (ar_cons ar_nil)))))
  (gs_cons (gs_set (i := 15) sc_law.nd rfl (by first | exact Or.inl rfl | exact Or.inr rfl) (x_fn c__law_same room (by decide) gu tkB (ga_cons (x_var 3) (ga_cons (x_add (x_var 8) (x_var 13)) (ga_cons (x_add (x_var 9) (x_var 13)) ga_nil))) (ar_cons (ar_cons (ar_cons ar_nil)))))
  (gs_cons (gs_if (gt_w (gw_or (t_ne (hu64 room) (x_var 14) (x_ix (hu64 room) (x_var 12) x_int)) (gw_or1 (t_ne (hu64 room) (x_var 15) (x_ix (hu64 room) (x_var 12) x_int))))) (gs_one (gs_ret x_bl))
  gs_nil)
  (gs_one (gs_if (gt_w (gw_or (gt_not (gt_tru (x_fn c__law_same room (by decide) gu tkB (ga_cons (x_var 3) (ga_cons (x_var 8) (ga_cons (x_var 8) ga_nil))) (ar_cons (ar_cons (ar_cons ar_nil)))))) (gw_or1 (t_ne (hu64 room) (x_ix (hu64 room) (x_var 12) x_int) (x_fn c__law_same room (by decide) gu tkB (ga_cons (x_var 3) (ga_cons (x_fn c_back room (by decide) gu tkB (ga_cons (x_var 8) ga_nil) (ar_cons ar_nil)) (ga_cons (x_fn c_back room (by decide) gu tkB (ga_cons (x_var 9) ga_nil) (ar_cons ar_nil)) ga_nil))) (ar_cons (ar_cons (ar_cons ar_nil)))))))) (gs_one (gs_ret x_bl))
  gs_nil))))))))))))))))
  (gs_one (gs_ret x_bl)))))
theorem ok_all {f : Addr} {fd : FuncData} (F : L2.Fun K "law" "law" st_law f fd) (T : Top K mg) : FnG P w K mg base 10 f fd p_law (spF (GB.ct0 K mg) 1 F_law) := by
  have c_back_of : DefOk P w K mg base 1 "back_of" p_back_of F_back_of := ok_back_of T
  have c_turns : DefOk P w K mg base 1 "turns" p_turns F_turns := ok_turns T
  have c_rooted : DefOk P w K mg base 1 "rooted" p_rooted F_rooted := ok_rooted T
  have c_shared : DefOk P w K mg base 1 "shared" p_shared F_shared := ok_shared T
  have c_half_of : DefOk P w K mg base 1 "half_of" p_half_of F_half_of := ok_half_of T
  have c__law_feed : DefOk P w K mg base 1 "_law_feed" p__law_feed F__law_feed := ok__law_feed T
  have c__law_draw : DefOk P w K mg base 1 "_law_draw" p__law_draw F__law_draw := ok__law_draw T
  have c__law_back : DefOk P w K mg base 1 "_law_back" p__law_back F__law_back := ok__law_back T
  have c__law_share : DefOk P w K mg base 1 "_law_share" p__law_share F__law_share := ok__law_share T
  have c_back : DefOk P w K mg base 2 "back" p_back F_back := ok_back T c_back_of
  have c_reduced : DefOk P w K mg base 2 "reduced" p_reduced F_reduced := ok_reduced T c_back_of
  have c_is_thick : DefOk P w K mg base 2 "is_thick" p_is_thick F_is_thick := ok_is_thick T c_shared
  have c_out_of : DefOk P w K mg base 2 "out_of" p_out_of F_out_of := ok_out_of T c_back_of
  have c_put_in : DefOk P w K mg base 2 "put_in" p_put_in F_put_in := ok_put_in T c_back_of
  have c_out_steps : DefOk P w K mg base 2 "out_steps" p_out_steps F_out_steps := ok_out_steps T c_back_of
  have c_ring_step : DefOk P w K mg base 2 "ring_step" p_ring_step F_ring_step := ok_ring_step T c_half_of
  have c__law_reduced : DefOk P w K mg base 2 "_law_reduced" p__law_reduced F__law_reduced := ok__law_reduced T c__law_back
  have c__law_some : DefOk P w K mg base 2 "_law_some" p__law_some F__law_some := ok__law_some T c__law_draw
  have c__law_turns_of : DefOk P w K mg base 2 "_law_turns_of" p__law_turns_of F__law_turns_of := ok__law_turns_of T c__law_back
  have c__law_thick : DefOk P w K mg base 2 "_law_thick" p__law_thick F__law_thick := ok__law_thick T c__law_share
  have c_times : DefOk P w K mg base 3 "times" p_times F_times := ok_times T c_reduced
  have c_power : DefOk P w K mg base 3 "power" p_power F_power := ok_power T c_reduced c_back
  have c_is_turn : DefOk P w K mg base 3 "is_turn" p_is_turn F_is_turn := ok_is_turn T c_back
  have c_turns_of : DefOk P w K mg base 3 "turns_of" p_turns_of F_turns_of := ok_turns_of T c_turns c_back
  have c_next_step : DefOk P w K mg base 3 "next_step" p_next_step F_next_step := ok_next_step T c_ring_step c_out_steps
  have c__law_drawn : DefOk P w K mg base 3 "_law_drawn" p__law_drawn F__law_drawn := ok__law_drawn T c__law_draw c__law_back c__law_some
  have c__law_middle : DefOk P w K mg base 3 "_law_middle" p__law_middle F__law_middle := ok__law_middle T c__law_back c__law_reduced
  have c__law_made : DefOk P w K mg base 3 "_law_made" p__law_made F__law_made := ok__law_made T c__law_draw c__law_back c__law_some
  have c_thick : DefOk P w K mg base 4 "thick" p_thick F_thick := ok_thick T c_is_thick c_shared c_turns_of
  have c_ringed : DefOk P w K mg base 4 "ringed" p_ringed F_ringed := ok_ringed T c_back c_is_turn
  have c__law_thin : DefOk P w K mg base 4 "_law_thin" p__law_thin F__law_thin := ok__law_thin T c__law_thick c__law_turns_of c__law_back c__law_draw c__law_middle c__law_some
  have c_behind : DefOk P w K mg base 5 "behind" p_behind F_behind := ok_behind T c_out_of c_put_in c_ringed
  have c_shortened : DefOk P w K mg base 6 "shortened" p_shortened F_shortened := ok_shortened T c_next_step c_behind c_turns_of
  have c_judged : DefOk P w K mg base 7 "judged" p_judged F_judged := ok_judged T c_shortened c_thick
  have c__law_nothing : DefOk P w K mg base 8 "_law_nothing" p__law_nothing F__law_nothing := ok__law_nothing T c_judged
  have c__law_same : DefOk P w K mg base 9 "_law_same" p__law_same F__law_same := ok__law_same T c__law_nothing c_times c_back
  have c__law_roots_right : DefOk P w K mg base 9 "_law_roots_right" p__law_roots_right F__law_roots_right := ok__law_roots_right T c__law_draw c__law_nothing c_power c_rooted
  exact ok_law F T c__law_same c_back c__law_nothing c__law_some c__law_drawn c__law_draw c__law_made c__law_roots_right c__law_thin c__law_feed
end
theorem all_mk {l : PySem.W.OpenLaw} {w : World} {K : PySem.W.Frag} {h : Heap} {mg : Str → Option Value} {fa : Addr} (X : K.In h) (G : h.Ns mainGlobals mg) (hfa : mg "law" = some (.ref fa)) {f0 : Addr} {f1 : Addr} {f2 : Addr} {f3 : Addr} {f4 : Addr} {f5 : Addr} {f6 : Addr} {f7 : Addr} {f8 : Addr} {f9 : Addr} {f10 : Addr} {f11 : Addr} {f12 : Addr} {f13 : Addr} {f14 : Addr} {f15 : Addr} {f16 : Addr} {f17 : Addr} {f18 : Addr} {f19 : Addr} {f20 : Addr} {f21 : Addr} {f22 : Addr} {f23 : Addr} {f24 : Addr} {f25 : Addr} {f26 : Addr} {f27 : Addr} {f28 : Addr} {f29 : Addr} {f30 : Addr} {f31 : Addr} {f32 : Addr} {f33 : Addr} {f34 : Addr} {f35 : Addr} {f36 : Addr} {f37 : Addr}
    {od0 an0 : Option Addr} {sl0 : Array (Option Value)} {oc0 kV0 dc0 pm0 cd0 cc0 : Value}
    {od1 an1 : Option Addr} {sl1 : Array (Option Value)} {oc1 kV1 dc1 pm1 cd1 cc1 : Value}
    {od2 an2 : Option Addr} {sl2 : Array (Option Value)} {oc2 kV2 dc2 pm2 cd2 cc2 : Value}
    {od3 an3 : Option Addr} {sl3 : Array (Option Value)} {oc3 kV3 dc3 pm3 cd3 cc3 : Value}
    {od4 an4 : Option Addr} {sl4 : Array (Option Value)} {oc4 kV4 dc4 pm4 cd4 cc4 : Value}
    {od5 an5 : Option Addr} {sl5 : Array (Option Value)} {oc5 kV5 dc5 pm5 cd5 cc5 : Value}
    {od6 an6 : Option Addr} {sl6 : Array (Option Value)} {oc6 kV6 dc6 pm6 cd6 cc6 : Value}
    {od7 an7 : Option Addr} {sl7 : Array (Option Value)} {oc7 kV7 dc7 pm7 cd7 cc7 : Value}
    {od8 an8 : Option Addr} {sl8 : Array (Option Value)} {oc8 kV8 dc8 pm8 cd8 cc8 : Value}
    {od9 an9 : Option Addr} {sl9 : Array (Option Value)} {oc9 kV9 dc9 pm9 cd9 cc9 : Value}
    {od10 an10 : Option Addr} {sl10 : Array (Option Value)} {oc10 kV10 dc10 pm10 cd10 cc10 : Value}
    {od11 an11 : Option Addr} {sl11 : Array (Option Value)} {oc11 kV11 dc11 pm11 cd11 cc11 : Value}
    {od12 an12 : Option Addr} {sl12 : Array (Option Value)} {oc12 kV12 dc12 pm12 cd12 cc12 : Value}
    {od13 an13 : Option Addr} {sl13 : Array (Option Value)} {oc13 kV13 dc13 pm13 cd13 cc13 : Value}
    {od14 an14 : Option Addr} {sl14 : Array (Option Value)} {oc14 kV14 dc14 pm14 cd14 cc14 : Value}
    {od15 an15 : Option Addr} {sl15 : Array (Option Value)} {oc15 kV15 dc15 pm15 cd15 cc15 : Value}
    {od16 an16 : Option Addr} {sl16 : Array (Option Value)} {oc16 kV16 dc16 pm16 cd16 cc16 : Value}
    {od17 an17 : Option Addr} {sl17 : Array (Option Value)} {oc17 kV17 dc17 pm17 cd17 cc17 : Value}
    {od18 an18 : Option Addr} {sl18 : Array (Option Value)} {oc18 kV18 dc18 pm18 cd18 cc18 : Value}
    {od19 an19 : Option Addr} {sl19 : Array (Option Value)} {oc19 kV19 dc19 pm19 cd19 cc19 : Value}
    {od20 an20 : Option Addr} {sl20 : Array (Option Value)} {oc20 kV20 dc20 pm20 cd20 cc20 : Value}
    {od21 an21 : Option Addr} {sl21 : Array (Option Value)} {oc21 kV21 dc21 pm21 cd21 cc21 : Value}
    {od22 an22 : Option Addr} {sl22 : Array (Option Value)} {oc22 kV22 dc22 pm22 cd22 cc22 : Value}
    {od23 an23 : Option Addr} {sl23 : Array (Option Value)} {oc23 kV23 dc23 pm23 cd23 cc23 : Value}
    {od24 an24 : Option Addr} {sl24 : Array (Option Value)} {oc24 kV24 dc24 pm24 cd24 cc24 : Value}
    {od25 an25 : Option Addr} {sl25 : Array (Option Value)} {oc25 kV25 dc25 pm25 cd25 cc25 : Value}
    {od26 an26 : Option Addr} {sl26 : Array (Option Value)} {oc26 kV26 dc26 pm26 cd26 cc26 : Value}
    {od27 an27 : Option Addr} {sl27 : Array (Option Value)} {oc27 kV27 dc27 pm27 cd27 cc27 : Value}
    {od28 an28 : Option Addr} {sl28 : Array (Option Value)} {oc28 kV28 dc28 pm28 cd28 cc28 : Value}
    {od29 an29 : Option Addr} {sl29 : Array (Option Value)} {oc29 kV29 dc29 pm29 cd29 cc29 : Value}
    {od30 an30 : Option Addr} {sl30 : Array (Option Value)} {oc30 kV30 dc30 pm30 cd30 cc30 : Value}
    {od31 an31 : Option Addr} {sl31 : Array (Option Value)} {oc31 kV31 dc31 pm31 cd31 cc31 : Value}
    {od32 an32 : Option Addr} {sl32 : Array (Option Value)} {oc32 kV32 dc32 pm32 cd32 cc32 : Value}
    {od33 an33 : Option Addr} {sl33 : Array (Option Value)} {oc33 kV33 dc33 pm33 cd33 cc33 : Value}
    {od34 an34 : Option Addr} {sl34 : Array (Option Value)} {oc34 kV34 dc34 pm34 cd34 cc34 : Value}
    {od35 an35 : Option Addr} {sl35 : Array (Option Value)} {oc35 kV35 dc35 pm35 cd35 cc35 : Value}
    {od36 an36 : Option Addr} {sl36 : Array (Option Value)} {oc36 kV36 dc36 pm36 cd36 cc36 : Value}
    {od37 an37 : Option Addr} {sl37 : Array (Option Value)} {oc37 kV37 dc37 pm37 cd37 cc37 : Value}
    (a0 : PySem.W.nsIn K mainGlobals "back_of" = some (some (.ref f0))) (l0 : K.lookup f0 = some ⟨oc0, od0, .func (PySem.W.fnOf "back_of" "back_of" (defArgs st_back_of) (defBody st_back_of) (defScope st_back_of) .none kV0 dc0 pm0 an0 cd0 cc0), sl0⟩) (g0 : PySem.W.codeIn K cd0 "back_of" = true) (k0 : PySem.W.keepIn K (.ref f0) = true)
    (a1 : PySem.W.nsIn K mainGlobals "turns" = some (some (.ref f1))) (l1 : K.lookup f1 = some ⟨oc1, od1, .func (PySem.W.fnOf "turns" "turns" (defArgs st_turns) (defBody st_turns) (defScope st_turns) .none kV1 dc1 pm1 an1 cd1 cc1), sl1⟩) (g1 : PySem.W.codeIn K cd1 "turns" = true) (k1 : PySem.W.keepIn K (.ref f1) = true)
    (a2 : PySem.W.nsIn K mainGlobals "rooted" = some (some (.ref f2))) (l2 : K.lookup f2 = some ⟨oc2, od2, .func (PySem.W.fnOf "rooted" "rooted" (defArgs st_rooted) (defBody st_rooted) (defScope st_rooted) .none kV2 dc2 pm2 an2 cd2 cc2), sl2⟩) (g2 : PySem.W.codeIn K cd2 "rooted" = true) (k2 : PySem.W.keepIn K (.ref f2) = true)
    (a3 : PySem.W.nsIn K mainGlobals "shared" = some (some (.ref f3))) (l3 : K.lookup f3 = some ⟨oc3, od3, .func (PySem.W.fnOf "shared" "shared" (defArgs st_shared) (defBody st_shared) (defScope st_shared) .none kV3 dc3 pm3 an3 cd3 cc3), sl3⟩) (g3 : PySem.W.codeIn K cd3 "shared" = true) (k3 : PySem.W.keepIn K (.ref f3) = true)
    (a4 : PySem.W.nsIn K mainGlobals "half_of" = some (some (.ref f4))) (l4 : K.lookup f4 = some ⟨oc4, od4, .func (PySem.W.fnOf "half_of" "half_of" (defArgs st_half_of) (defBody st_half_of) (defScope st_half_of) .none kV4 dc4 pm4 an4 cd4 cc4), sl4⟩) (g4 : PySem.W.codeIn K cd4 "half_of" = true) (k4 : PySem.W.keepIn K (.ref f4) = true)
    (a5 : PySem.W.nsIn K mainGlobals "_law_feed" = some (some (.ref f5))) (l5 : K.lookup f5 = some ⟨oc5, od5, .func (PySem.W.fnOf "_law_feed" "_law_feed" (defArgs st__law_feed) (defBody st__law_feed) (defScope st__law_feed) .none kV5 dc5 pm5 an5 cd5 cc5), sl5⟩) (g5 : PySem.W.codeIn K cd5 "_law_feed" = true) (k5 : PySem.W.keepIn K (.ref f5) = true)
    (a6 : PySem.W.nsIn K mainGlobals "_law_draw" = some (some (.ref f6))) (l6 : K.lookup f6 = some ⟨oc6, od6, .func (PySem.W.fnOf "_law_draw" "_law_draw" (defArgs st__law_draw) (defBody st__law_draw) (defScope st__law_draw) .none kV6 dc6 pm6 an6 cd6 cc6), sl6⟩) (g6 : PySem.W.codeIn K cd6 "_law_draw" = true) (k6 : PySem.W.keepIn K (.ref f6) = true)
    (a7 : PySem.W.nsIn K mainGlobals "_law_back" = some (some (.ref f7))) (l7 : K.lookup f7 = some ⟨oc7, od7, .func (PySem.W.fnOf "_law_back" "_law_back" (defArgs st__law_back) (defBody st__law_back) (defScope st__law_back) .none kV7 dc7 pm7 an7 cd7 cc7), sl7⟩) (g7 : PySem.W.codeIn K cd7 "_law_back" = true) (k7 : PySem.W.keepIn K (.ref f7) = true)
    (a8 : PySem.W.nsIn K mainGlobals "_law_share" = some (some (.ref f8))) (l8 : K.lookup f8 = some ⟨oc8, od8, .func (PySem.W.fnOf "_law_share" "_law_share" (defArgs st__law_share) (defBody st__law_share) (defScope st__law_share) .none kV8 dc8 pm8 an8 cd8 cc8), sl8⟩) (g8 : PySem.W.codeIn K cd8 "_law_share" = true) (k8 : PySem.W.keepIn K (.ref f8) = true)
    (a9 : PySem.W.nsIn K mainGlobals "back" = some (some (.ref f9))) (l9 : K.lookup f9 = some ⟨oc9, od9, .func (PySem.W.fnOf "back" "back" (defArgs st_back) (defBody st_back) (defScope st_back) .none kV9 dc9 pm9 an9 cd9 cc9), sl9⟩) (g9 : PySem.W.codeIn K cd9 "back" = true) (k9 : PySem.W.keepIn K (.ref f9) = true)
    (a10 : PySem.W.nsIn K mainGlobals "reduced" = some (some (.ref f10))) (l10 : K.lookup f10 = some ⟨oc10, od10, .func (PySem.W.fnOf "reduced" "reduced" (defArgs st_reduced) (defBody st_reduced) (defScope st_reduced) .none kV10 dc10 pm10 an10 cd10 cc10), sl10⟩) (g10 : PySem.W.codeIn K cd10 "reduced" = true) (k10 : PySem.W.keepIn K (.ref f10) = true)
    (a11 : PySem.W.nsIn K mainGlobals "is_thick" = some (some (.ref f11))) (l11 : K.lookup f11 = some ⟨oc11, od11, .func (PySem.W.fnOf "is_thick" "is_thick" (defArgs st_is_thick) (defBody st_is_thick) (defScope st_is_thick) .none kV11 dc11 pm11 an11 cd11 cc11), sl11⟩) (g11 : PySem.W.codeIn K cd11 "is_thick" = true) (k11 : PySem.W.keepIn K (.ref f11) = true)
    (a12 : PySem.W.nsIn K mainGlobals "out_of" = some (some (.ref f12))) (l12 : K.lookup f12 = some ⟨oc12, od12, .func (PySem.W.fnOf "out_of" "out_of" (defArgs st_out_of) (defBody st_out_of) (defScope st_out_of) .none kV12 dc12 pm12 an12 cd12 cc12), sl12⟩) (g12 : PySem.W.codeIn K cd12 "out_of" = true) (k12 : PySem.W.keepIn K (.ref f12) = true)
    (a13 : PySem.W.nsIn K mainGlobals "put_in" = some (some (.ref f13))) (l13 : K.lookup f13 = some ⟨oc13, od13, .func (PySem.W.fnOf "put_in" "put_in" (defArgs st_put_in) (defBody st_put_in) (defScope st_put_in) .none kV13 dc13 pm13 an13 cd13 cc13), sl13⟩) (g13 : PySem.W.codeIn K cd13 "put_in" = true) (k13 : PySem.W.keepIn K (.ref f13) = true)
    (a14 : PySem.W.nsIn K mainGlobals "out_steps" = some (some (.ref f14))) (l14 : K.lookup f14 = some ⟨oc14, od14, .func (PySem.W.fnOf "out_steps" "out_steps" (defArgs st_out_steps) (defBody st_out_steps) (defScope st_out_steps) .none kV14 dc14 pm14 an14 cd14 cc14), sl14⟩) (g14 : PySem.W.codeIn K cd14 "out_steps" = true) (k14 : PySem.W.keepIn K (.ref f14) = true)
    (a15 : PySem.W.nsIn K mainGlobals "ring_step" = some (some (.ref f15))) (l15 : K.lookup f15 = some ⟨oc15, od15, .func (PySem.W.fnOf "ring_step" "ring_step" (defArgs st_ring_step) (defBody st_ring_step) (defScope st_ring_step) .none kV15 dc15 pm15 an15 cd15 cc15), sl15⟩) (g15 : PySem.W.codeIn K cd15 "ring_step" = true) (k15 : PySem.W.keepIn K (.ref f15) = true)
    (a16 : PySem.W.nsIn K mainGlobals "_law_reduced" = some (some (.ref f16))) (l16 : K.lookup f16 = some ⟨oc16, od16, .func (PySem.W.fnOf "_law_reduced" "_law_reduced" (defArgs st__law_reduced) (defBody st__law_reduced) (defScope st__law_reduced) .none kV16 dc16 pm16 an16 cd16 cc16), sl16⟩) (g16 : PySem.W.codeIn K cd16 "_law_reduced" = true) (k16 : PySem.W.keepIn K (.ref f16) = true)
    (a17 : PySem.W.nsIn K mainGlobals "_law_some" = some (some (.ref f17))) (l17 : K.lookup f17 = some ⟨oc17, od17, .func (PySem.W.fnOf "_law_some" "_law_some" (defArgs st__law_some) (defBody st__law_some) (defScope st__law_some) .none kV17 dc17 pm17 an17 cd17 cc17), sl17⟩) (g17 : PySem.W.codeIn K cd17 "_law_some" = true) (k17 : PySem.W.keepIn K (.ref f17) = true)
    (a18 : PySem.W.nsIn K mainGlobals "_law_turns_of" = some (some (.ref f18))) (l18 : K.lookup f18 = some ⟨oc18, od18, .func (PySem.W.fnOf "_law_turns_of" "_law_turns_of" (defArgs st__law_turns_of) (defBody st__law_turns_of) (defScope st__law_turns_of) .none kV18 dc18 pm18 an18 cd18 cc18), sl18⟩) (g18 : PySem.W.codeIn K cd18 "_law_turns_of" = true) (k18 : PySem.W.keepIn K (.ref f18) = true)
    (a19 : PySem.W.nsIn K mainGlobals "_law_thick" = some (some (.ref f19))) (l19 : K.lookup f19 = some ⟨oc19, od19, .func (PySem.W.fnOf "_law_thick" "_law_thick" (defArgs st__law_thick) (defBody st__law_thick) (defScope st__law_thick) .none kV19 dc19 pm19 an19 cd19 cc19), sl19⟩) (g19 : PySem.W.codeIn K cd19 "_law_thick" = true) (k19 : PySem.W.keepIn K (.ref f19) = true)
    (a20 : PySem.W.nsIn K mainGlobals "times" = some (some (.ref f20))) (l20 : K.lookup f20 = some ⟨oc20, od20, .func (PySem.W.fnOf "times" "times" (defArgs st_times) (defBody st_times) (defScope st_times) .none kV20 dc20 pm20 an20 cd20 cc20), sl20⟩) (g20 : PySem.W.codeIn K cd20 "times" = true) (k20 : PySem.W.keepIn K (.ref f20) = true)
    (a21 : PySem.W.nsIn K mainGlobals "power" = some (some (.ref f21))) (l21 : K.lookup f21 = some ⟨oc21, od21, .func (PySem.W.fnOf "power" "power" (defArgs st_power) (defBody st_power) (defScope st_power) .none kV21 dc21 pm21 an21 cd21 cc21), sl21⟩) (g21 : PySem.W.codeIn K cd21 "power" = true) (k21 : PySem.W.keepIn K (.ref f21) = true)
    (a22 : PySem.W.nsIn K mainGlobals "is_turn" = some (some (.ref f22))) (l22 : K.lookup f22 = some ⟨oc22, od22, .func (PySem.W.fnOf "is_turn" "is_turn" (defArgs st_is_turn) (defBody st_is_turn) (defScope st_is_turn) .none kV22 dc22 pm22 an22 cd22 cc22), sl22⟩) (g22 : PySem.W.codeIn K cd22 "is_turn" = true) (k22 : PySem.W.keepIn K (.ref f22) = true)
    (a23 : PySem.W.nsIn K mainGlobals "turns_of" = some (some (.ref f23))) (l23 : K.lookup f23 = some ⟨oc23, od23, .func (PySem.W.fnOf "turns_of" "turns_of" (defArgs st_turns_of) (defBody st_turns_of) (defScope st_turns_of) .none kV23 dc23 pm23 an23 cd23 cc23), sl23⟩) (g23 : PySem.W.codeIn K cd23 "turns_of" = true) (k23 : PySem.W.keepIn K (.ref f23) = true)
    (a24 : PySem.W.nsIn K mainGlobals "next_step" = some (some (.ref f24))) (l24 : K.lookup f24 = some ⟨oc24, od24, .func (PySem.W.fnOf "next_step" "next_step" (defArgs st_next_step) (defBody st_next_step) (defScope st_next_step) .none kV24 dc24 pm24 an24 cd24 cc24), sl24⟩) (g24 : PySem.W.codeIn K cd24 "next_step" = true) (k24 : PySem.W.keepIn K (.ref f24) = true)
    (a25 : PySem.W.nsIn K mainGlobals "_law_drawn" = some (some (.ref f25))) (l25 : K.lookup f25 = some ⟨oc25, od25, .func (PySem.W.fnOf "_law_drawn" "_law_drawn" (defArgs st__law_drawn) (defBody st__law_drawn) (defScope st__law_drawn) .none kV25 dc25 pm25 an25 cd25 cc25), sl25⟩) (g25 : PySem.W.codeIn K cd25 "_law_drawn" = true) (k25 : PySem.W.keepIn K (.ref f25) = true)
    (a26 : PySem.W.nsIn K mainGlobals "_law_middle" = some (some (.ref f26))) (l26 : K.lookup f26 = some ⟨oc26, od26, .func (PySem.W.fnOf "_law_middle" "_law_middle" (defArgs st__law_middle) (defBody st__law_middle) (defScope st__law_middle) .none kV26 dc26 pm26 an26 cd26 cc26), sl26⟩) (g26 : PySem.W.codeIn K cd26 "_law_middle" = true) (k26 : PySem.W.keepIn K (.ref f26) = true)
    (a27 : PySem.W.nsIn K mainGlobals "_law_made" = some (some (.ref f27))) (l27 : K.lookup f27 = some ⟨oc27, od27, .func (PySem.W.fnOf "_law_made" "_law_made" (defArgs st__law_made) (defBody st__law_made) (defScope st__law_made) .none kV27 dc27 pm27 an27 cd27 cc27), sl27⟩) (g27 : PySem.W.codeIn K cd27 "_law_made" = true) (k27 : PySem.W.keepIn K (.ref f27) = true)
    (a28 : PySem.W.nsIn K mainGlobals "thick" = some (some (.ref f28))) (l28 : K.lookup f28 = some ⟨oc28, od28, .func (PySem.W.fnOf "thick" "thick" (defArgs st_thick) (defBody st_thick) (defScope st_thick) .none kV28 dc28 pm28 an28 cd28 cc28), sl28⟩) (g28 : PySem.W.codeIn K cd28 "thick" = true) (k28 : PySem.W.keepIn K (.ref f28) = true)
    (a29 : PySem.W.nsIn K mainGlobals "ringed" = some (some (.ref f29))) (l29 : K.lookup f29 = some ⟨oc29, od29, .func (PySem.W.fnOf "ringed" "ringed" (defArgs st_ringed) (defBody st_ringed) (defScope st_ringed) .none kV29 dc29 pm29 an29 cd29 cc29), sl29⟩) (g29 : PySem.W.codeIn K cd29 "ringed" = true) (k29 : PySem.W.keepIn K (.ref f29) = true)
    (a30 : PySem.W.nsIn K mainGlobals "_law_thin" = some (some (.ref f30))) (l30 : K.lookup f30 = some ⟨oc30, od30, .func (PySem.W.fnOf "_law_thin" "_law_thin" (defArgs st__law_thin) (defBody st__law_thin) (defScope st__law_thin) .none kV30 dc30 pm30 an30 cd30 cc30), sl30⟩) (g30 : PySem.W.codeIn K cd30 "_law_thin" = true) (k30 : PySem.W.keepIn K (.ref f30) = true)
    (a31 : PySem.W.nsIn K mainGlobals "behind" = some (some (.ref f31))) (l31 : K.lookup f31 = some ⟨oc31, od31, .func (PySem.W.fnOf "behind" "behind" (defArgs st_behind) (defBody st_behind) (defScope st_behind) .none kV31 dc31 pm31 an31 cd31 cc31), sl31⟩) (g31 : PySem.W.codeIn K cd31 "behind" = true) (k31 : PySem.W.keepIn K (.ref f31) = true)
    (a32 : PySem.W.nsIn K mainGlobals "shortened" = some (some (.ref f32))) (l32 : K.lookup f32 = some ⟨oc32, od32, .func (PySem.W.fnOf "shortened" "shortened" (defArgs st_shortened) (defBody st_shortened) (defScope st_shortened) .none kV32 dc32 pm32 an32 cd32 cc32), sl32⟩) (g32 : PySem.W.codeIn K cd32 "shortened" = true) (k32 : PySem.W.keepIn K (.ref f32) = true)
    (a33 : PySem.W.nsIn K mainGlobals "judged" = some (some (.ref f33))) (l33 : K.lookup f33 = some ⟨oc33, od33, .func (PySem.W.fnOf "judged" "judged" (defArgs st_judged) (defBody st_judged) (defScope st_judged) .none kV33 dc33 pm33 an33 cd33 cc33), sl33⟩) (g33 : PySem.W.codeIn K cd33 "judged" = true) (k33 : PySem.W.keepIn K (.ref f33) = true)
    (a34 : PySem.W.nsIn K mainGlobals "_law_nothing" = some (some (.ref f34))) (l34 : K.lookup f34 = some ⟨oc34, od34, .func (PySem.W.fnOf "_law_nothing" "_law_nothing" (defArgs st__law_nothing) (defBody st__law_nothing) (defScope st__law_nothing) .none kV34 dc34 pm34 an34 cd34 cc34), sl34⟩) (g34 : PySem.W.codeIn K cd34 "_law_nothing" = true) (k34 : PySem.W.keepIn K (.ref f34) = true)
    (a35 : PySem.W.nsIn K mainGlobals "_law_same" = some (some (.ref f35))) (l35 : K.lookup f35 = some ⟨oc35, od35, .func (PySem.W.fnOf "_law_same" "_law_same" (defArgs st__law_same) (defBody st__law_same) (defScope st__law_same) .none kV35 dc35 pm35 an35 cd35 cc35), sl35⟩) (g35 : PySem.W.codeIn K cd35 "_law_same" = true) (k35 : PySem.W.keepIn K (.ref f35) = true)
    (a36 : PySem.W.nsIn K mainGlobals "_law_roots_right" = some (some (.ref f36))) (l36 : K.lookup f36 = some ⟨oc36, od36, .func (PySem.W.fnOf "_law_roots_right" "_law_roots_right" (defArgs st__law_roots_right) (defBody st__law_roots_right) (defScope st__law_roots_right) .none kV36 dc36 pm36 an36 cd36 cc36), sl36⟩) (g36 : PySem.W.codeIn K cd36 "_law_roots_right" = true) (k36 : PySem.W.keepIn K (.ref f36) = true)
    (a37 : PySem.W.nsIn K mainGlobals "law" = some (some (.ref f37))) (l37 : K.lookup f37 = some ⟨oc37, od37, .func (PySem.W.fnOf "law" "law" (defArgs st_law) (defBody st_law) (defScope st_law) .none kV37 dc37 pm37 an37 cd37 cc37), sl37⟩) (g37 : PySem.W.codeIn K cd37 "law" = true) (k37 : PySem.W.keepIn K (.ref f37) = true)
    (z0 : PySem.W.nsIn K mainGlobals "abs" = some none)
    (z1 : PySem.W.nsIn K mainGlobals "any" = some none)
    (z2 : PySem.W.nsIn K mainGlobals "enumerate" = some none)
    (z3 : PySem.W.nsIn K mainGlobals "int" = some none)
    (z4 : PySem.W.nsIn K mainGlobals "len" = some none)
    (z5 : PySem.W.nsIn K mainGlobals "list" = some none)
    (z6 : PySem.W.nsIn K mainGlobals "max" = some none)
    (z7 : PySem.W.nsIn K mainGlobals "min" = some none)
    (z8 : PySem.W.nsIn K mainGlobals "range" = some none)
    (z9 : PySem.W.nsIn K mainGlobals "sorted" = some none)
    (z10 : PySem.W.nsIn K mainGlobals "str" = some none)
    (z11 : PySem.W.nsIn K mainGlobals "tuple" = some none)
    {u0 : Value} (v0 : PySem.W.nsIn K mainGlobals "MOST_LETTERS" = some (some u0)) (r0 : RelV (.int 2000) u0)
    {u1 : Value} (v1 : PySem.W.nsIn K mainGlobals "SMALL" = some (some u1)) (r1 : RelV (.str "abcdef") u1)
    {A_NoThin : Addr}
    {A_RingError : Addr}
    {I_NoThin N_NoThin : Addr} {nm_NoThin qn_NoThin : Str} {bs_NoThin : List Value} {sn_NoThin : List Str} {su_NoThin : List Value} {ab_NoThin : Bool} {co_NoThin : Option Bool} {dd_NoThin : Option Addr} {m0_NoThin m1_NoThin m2_NoThin m3_NoThin m5_NoThin : Option Value} {xod_NoThin xan_NoThin : Option Addr} {xsl_NoThin : Array (Option Value)} {xoc_NoThin xkV_NoThin xdc_NoThin xpm_NoThin xcd_NoThin xcc_NoThin : Value}
    (ka_NoThin : PySem.W.nsIn K mainGlobals "NoThin" = some (some (.ref A_NoThin)))
    (ka_RingError : PySem.W.nsIn K mainGlobals "RingError" = some (some (.ref A_RingError)))
    (kr_RingError : PySem.W.readsIn K A_RingError (.type "type") = true)
    (ks_RingError : PySem.W.specialIn K (.ref A_RingError) "__getattribute__" = some (some (.builtin "type.__getattribute__")))
    (ki_RingError : PySem.W.findCls K (.ref A_RingError) (.type "type") "__init__" = some (.val (.builtin "ValueError.__init__")))
    (xL_NoThin : K.lookup A_NoThin = some (excClassObj nm_NoThin qn_NoThin A_NoThin N_NoThin bs_NoThin [.ref A_RingError, .type "ValueError", .type "Exception", .type "BaseException", .type "object"] true sn_NoThin su_NoThin ab_NoThin co_NoThin dd_NoThin m0_NoThin m1_NoThin m2_NoThin m3_NoThin m5_NoThin "ValueError.__new__"))
    (xs_NoThin : PySem.W.findIn K (.ref A_NoThin) "__setattr__" = some (some (.builtin "object.__setattr__")))
    (xe_NoThin : PySem.W.subIn K (.ref A_NoThin) (.type "BaseException") = some true)
    (xt_NoThin : PySem.W.typeIn K (.ref A_NoThin) = some (.type "type"))
    (xk_NoThin : PySem.W.keepIn K (.ref A_NoThin) = true)
    (xi_NoThin : PySem.W.findIn K (.ref A_NoThin) "__init__" = some (some (.ref I_NoThin)))
    (xj_NoThin : PySem.W.typeIn K (.ref I_NoThin) = some (.type "function"))
    (xl_NoThin : K.lookup I_NoThin = some ⟨xoc_NoThin, xod_NoThin, .func (PySem.W.fnOf "__init__" "NoThin.__init__" (defArgs st_NoThin) (defBody st_NoThin) (defScope st_NoThin) .none xkV_NoThin xdc_NoThin xpm_NoThin xan_NoThin xcd_NoThin xcc_NoThin), xsl_NoThin⟩)
    (xg_NoThin : PySem.W.codeIn K xcd_NoThin "NoThin.__init__" = true)
    (xq_NoThin : PySem.W.keepIn K (.ref I_NoThin) = true)
    (xf_NoThin_turn : PySem.W.findIn K (.ref A_NoThin) "turn" = some none)
    (xf_NoThin_other : PySem.W.findIn K (.ref A_NoThin) "other" = some none)
    (xf_NoThin_piece : PySem.W.findIn K (.ref A_NoThin) "piece" = some none)
    : ∃ fd : FuncData, (∀ (s : Shared) (v : Value), BindsTo s fd ⟨[v], []⟩ [("_law_script", v)]) ∧ ∀ base : Heap, K.In base → base.Ns mainGlobals mg → FnG l.prog w K mg base 10 fa fd ["_law_script"] (spF (GB.ct0 K mg) 1 F_law) := by
  have e := hfa.symm.trans (PySem.W.mg_of X G a37)
  cases e
  have F0 := fun_mk (st := st_back_of) l0 g0 k0
  have b0 := F0.binds (ps := p_back_of) fun _ _ _ _ _ _ us hl => match us, hl with | [_], _ => rfl
  have F1 := fun_mk (st := st_turns) l1 g1 k1
  have b1 := F1.binds (ps := p_turns) fun _ _ _ _ _ _ us hl => match us, hl with | [_], _ => rfl
  have F2 := fun_mk (st := st_rooted) l2 g2 k2
  have b2 := F2.binds (ps := p_rooted) fun _ _ _ _ _ _ us hl => match us, hl with | [_], _ => rfl
  have F3 := fun_mk (st := st_shared) l3 g3 k3
  have b3 := F3.binds (ps := p_shared) fun _ _ _ _ _ _ us hl => match us, hl with | [_, _], _ => rfl
  have F4 := fun_mk (st := st_half_of) l4 g4 k4
  have b4 := F4.binds (ps := p_half_of) fun _ _ _ _ _ _ us hl => match us, hl with | [_], _ => rfl
  have F5 := fun_mk (st := st__law_feed) l5 g5 k5
  have b5 := F5.binds (ps := p__law_feed) fun _ _ _ _ _ _ us hl => match us, hl with | [_], _ => rfl
  have F6 := fun_mk (st := st__law_draw) l6 g6 k6
  have b6 := F6.binds (ps := p__law_draw) fun _ _ _ _ _ _ us hl => match us, hl with | [_, _], _ => rfl
  have F7 := fun_mk (st := st__law_back) l7 g7 k7
  have b7 := F7.binds (ps := p__law_back) fun _ _ _ _ _ _ us hl => match us, hl with | [_], _ => rfl
  have F8 := fun_mk (st := st__law_share) l8 g8 k8
  have b8 := F8.binds (ps := p__law_share) fun _ _ _ _ _ _ us hl => match us, hl with | [_, _], _ => rfl
  have F9 := fun_mk (st := st_back) l9 g9 k9
  have b9 := F9.binds (ps := p_back) fun _ _ _ _ _ _ us hl => match us, hl with | [_], _ => rfl
  have F10 := fun_mk (st := st_reduced) l10 g10 k10
  have b10 := F10.binds (ps := p_reduced) fun _ _ _ _ _ _ us hl => match us, hl with | [_], _ => rfl
  have F11 := fun_mk (st := st_is_thick) l11 g11 k11
  have b11 := F11.binds (ps := p_is_thick) fun _ _ _ _ _ _ us hl => match us, hl with | [_, _], _ => rfl
  have F12 := fun_mk (st := st_out_of) l12 g12 k12
  have b12 := F12.binds (ps := p_out_of) fun _ _ _ _ _ _ us hl => match us, hl with | [_, _], _ => rfl
  have F13 := fun_mk (st := st_put_in) l13 g13 k13
  have b13 := F13.binds (ps := p_put_in) fun _ _ _ _ _ _ us hl => match us, hl with | [_, _, _], _ => rfl
  have F14 := fun_mk (st := st_out_steps) l14 g14 k14
  have b14 := F14.binds (ps := p_out_steps) fun _ _ _ _ _ _ us hl => match us, hl with | [_], _ => rfl
  have F15 := fun_mk (st := st_ring_step) l15 g15 k15
  have b15 := F15.binds (ps := p_ring_step) fun _ _ _ _ _ _ us hl => match us, hl with | [_, _], _ => rfl
  have F16 := fun_mk (st := st__law_reduced) l16 g16 k16
  have b16 := F16.binds (ps := p__law_reduced) fun _ _ _ _ _ _ us hl => match us, hl with | [_], _ => rfl
  have F17 := fun_mk (st := st__law_some) l17 g17 k17
  have b17 := F17.binds (ps := p__law_some) fun _ _ _ _ _ _ us hl => match us, hl with | [_, _, _], _ => rfl
  have F18 := fun_mk (st := st__law_turns_of) l18 g18 k18
  have b18 := F18.binds (ps := p__law_turns_of) fun _ _ _ _ _ _ us hl => match us, hl with | [_], _ => rfl
  have F19 := fun_mk (st := st__law_thick) l19 g19 k19
  have b19 := F19.binds (ps := p__law_thick) fun _ _ _ _ _ _ us hl => match us, hl with | [_], _ => rfl
  have F20 := fun_mk (st := st_times) l20 g20 k20
  have b20 := F20.binds (ps := p_times) fun _ _ _ _ _ _ us hl => match us, hl with | [_, _], _ => rfl
  have F21 := fun_mk (st := st_power) l21 g21 k21
  have b21 := F21.binds (ps := p_power) fun _ _ _ _ _ _ us hl => match us, hl with | [_, _], _ => rfl
  have F22 := fun_mk (st := st_is_turn) l22 g22 k22
  have b22 := F22.binds (ps := p_is_turn) fun _ _ _ _ _ _ us hl => match us, hl with | [_, _], _ => rfl
  have F23 := fun_mk (st := st_turns_of) l23 g23 k23
  have b23 := F23.binds (ps := p_turns_of) fun _ _ _ _ _ _ us hl => match us, hl with | [_], _ => rfl
  have F24 := fun_mk (st := st_next_step) l24 g24 k24
  have b24 := F24.binds (ps := p_next_step) fun _ _ _ _ _ _ us hl => match us, hl with | [_, _], _ => rfl
  have F25 := fun_mk (st := st__law_drawn) l25 g25 k25
  have b25 := F25.binds (ps := p__law_drawn) fun _ _ _ _ _ _ us hl => match us, hl with | [_, _, _], _ => rfl
  have F26 := fun_mk (st := st__law_middle) l26 g26 k26
  have b26 := F26.binds (ps := p__law_middle) fun _ _ _ _ _ _ us hl => match us, hl with | [_], _ => rfl
  have F27 := fun_mk (st := st__law_made) l27 g27 k27
  have b27 := F27.binds (ps := p__law_made) fun _ _ _ _ _ _ us hl => match us, hl with | [_, _, _], _ => rfl
  have F28 := fun_mk (st := st_thick) l28 g28 k28
  have b28 := F28.binds (ps := p_thick) fun _ _ _ _ _ _ us hl => match us, hl with | [_], _ => rfl
  have F29 := fun_mk (st := st_ringed) l29 g29 k29
  have b29 := F29.binds (ps := p_ringed) fun _ _ _ _ _ _ us hl => match us, hl with | [_, _, _, _, _], _ => rfl
  have F30 := fun_mk (st := st__law_thin) l30 g30 k30
  have b30 := F30.binds (ps := p__law_thin) fun _ _ _ _ _ _ us hl => match us, hl with | [_], _ => rfl
  have F31 := fun_mk (st := st_behind) l31 g31 k31
  have b31 := F31.binds (ps := p_behind) fun _ _ _ _ _ _ us hl => match us, hl with | [_, _, _], _ => rfl
  have F32 := fun_mk (st := st_shortened) l32 g32 k32
  have b32 := F32.binds (ps := p_shortened) fun _ _ _ _ _ _ us hl => match us, hl with | [_, _], _ => rfl
  have F33 := fun_mk (st := st_judged) l33 g33 k33
  have b33 := F33.binds (ps := p_judged) fun _ _ _ _ _ _ us hl => match us, hl with | [_, _], _ => rfl
  have F34 := fun_mk (st := st__law_nothing) l34 g34 k34
  have b34 := F34.binds (ps := p__law_nothing) fun _ _ _ _ _ _ us hl => match us, hl with | [_, _], _ => rfl
  have F35 := fun_mk (st := st__law_same) l35 g35 k35
  have b35 := F35.binds (ps := p__law_same) fun _ _ _ _ _ _ us hl => match us, hl with | [_, _, _], _ => rfl
  have F36 := fun_mk (st := st__law_roots_right) l36 g36 k36
  have b36 := F36.binds (ps := p__law_roots_right) fun _ _ _ _ _ _ us hl => match us, hl with | [_, _], _ => rfl
  have F37 := fun_mk (st := st_law) l37 g37 k37
  have T : Top K mg := {
    d_back_of := ⟨_, _, F0, PySem.W.mg_of X G a0, b0⟩
    d_turns := ⟨_, _, F1, PySem.W.mg_of X G a1, b1⟩
    d_rooted := ⟨_, _, F2, PySem.W.mg_of X G a2, b2⟩
    d_shared := ⟨_, _, F3, PySem.W.mg_of X G a3, b3⟩
    d_half_of := ⟨_, _, F4, PySem.W.mg_of X G a4, b4⟩
    d__law_feed := ⟨_, _, F5, PySem.W.mg_of X G a5, b5⟩
    d__law_draw := ⟨_, _, F6, PySem.W.mg_of X G a6, b6⟩
    d__law_back := ⟨_, _, F7, PySem.W.mg_of X G a7, b7⟩
    d__law_share := ⟨_, _, F8, PySem.W.mg_of X G a8, b8⟩
    d_back := ⟨_, _, F9, PySem.W.mg_of X G a9, b9⟩
    d_reduced := ⟨_, _, F10, PySem.W.mg_of X G a10, b10⟩
    d_is_thick := ⟨_, _, F11, PySem.W.mg_of X G a11, b11⟩
    d_out_of := ⟨_, _, F12, PySem.W.mg_of X G a12, b12⟩
    d_put_in := ⟨_, _, F13, PySem.W.mg_of X G a13, b13⟩
    d_out_steps := ⟨_, _, F14, PySem.W.mg_of X G a14, b14⟩
    d_ring_step := ⟨_, _, F15, PySem.W.mg_of X G a15, b15⟩
    d__law_reduced := ⟨_, _, F16, PySem.W.mg_of X G a16, b16⟩
    d__law_some := ⟨_, _, F17, PySem.W.mg_of X G a17, b17⟩
    d__law_turns_of := ⟨_, _, F18, PySem.W.mg_of X G a18, b18⟩
    d__law_thick := ⟨_, _, F19, PySem.W.mg_of X G a19, b19⟩
    d_times := ⟨_, _, F20, PySem.W.mg_of X G a20, b20⟩
    d_power := ⟨_, _, F21, PySem.W.mg_of X G a21, b21⟩
    d_is_turn := ⟨_, _, F22, PySem.W.mg_of X G a22, b22⟩
    d_turns_of := ⟨_, _, F23, PySem.W.mg_of X G a23, b23⟩
    d_next_step := ⟨_, _, F24, PySem.W.mg_of X G a24, b24⟩
    d__law_drawn := ⟨_, _, F25, PySem.W.mg_of X G a25, b25⟩
    d__law_middle := ⟨_, _, F26, PySem.W.mg_of X G a26, b26⟩
    d__law_made := ⟨_, _, F27, PySem.W.mg_of X G a27, b27⟩
    d_thick := ⟨_, _, F28, PySem.W.mg_of X G a28, b28⟩
    d_ringed := ⟨_, _, F29, PySem.W.mg_of X G a29, b29⟩
    d__law_thin := ⟨_, _, F30, PySem.W.mg_of X G a30, b30⟩
    d_behind := ⟨_, _, F31, PySem.W.mg_of X G a31, b31⟩
    d_shortened := ⟨_, _, F32, PySem.W.mg_of X G a32, b32⟩
    d_judged := ⟨_, _, F33, PySem.W.mg_of X G a33, b33⟩
    d__law_nothing := ⟨_, _, F34, PySem.W.mg_of X G a34, b34⟩
    d__law_same := ⟨_, _, F35, PySem.W.mg_of X G a35, b35⟩
    d__law_roots_right := ⟨_, _, F36, PySem.W.mg_of X G a36, b36⟩
    z_abs := PySem.W.mg_none_of X G z0
    z_any := PySem.W.mg_none_of X G z1
    z_enumerate := PySem.W.mg_none_of X G z2
    z_int := PySem.W.mg_none_of X G z3
    z_len := PySem.W.mg_none_of X G z4
    z_list := PySem.W.mg_none_of X G z5
    z_max := PySem.W.mg_none_of X G z6
    z_min := PySem.W.mg_none_of X G z7
    z_range := PySem.W.mg_none_of X G z8
    z_sorted := PySem.W.mg_none_of X G z9
    z_str := PySem.W.mg_none_of X G z10
    z_tuple := PySem.W.mg_none_of X G z11
    c_MOST_LETTERS := ⟨_, PySem.W.mg_of X G v0, r0⟩
    c_SMALL := ⟨_, PySem.W.mg_of X G v1, r1⟩
    b_RingError := ⟨A_RingError, PySem.W.mg_of X G ka_RingError, kr_RingError, ks_RingError, ki_RingError⟩
    x_NoThin := ⟨A_NoThin, I_NoThin, _, PySem.W.mg_of X G ka_NoThin, ⟨⟨nm_NoThin, qn_NoThin, N_NoThin, bs_NoThin, _, sn_NoThin, su_NoThin, ab_NoThin, co_NoThin, dd_NoThin, m0_NoThin, m1_NoThin, m2_NoThin, m3_NoThin, m5_NoThin, xL_NoThin, by show PySem.HandSPX.refsVE [.type "ValueError", .type "Exception", .type "BaseException", .type "object"] = true; decide +kernel⟩, xs_NoThin, xe_NoThin, xt_NoThin, xk_NoThin⟩, xi_NoThin, xj_NoThin, fun f hf => by simp only [List.mem_cons, List.not_mem_nil, or_false] at hf; rcases hf with rfl | rfl | rfl <;> assumption, fun_mk (st := st_NoThin) xl_NoThin xg_NoThin xq_NoThin, (fun_mk (st := st_NoThin) xl_NoThin xg_NoThin xq_NoThin).binds (ps := n_NoThin) fun _ _ _ _ _ _ us hl => match us, hl with | [_, _, _, _], _ => rfl⟩
  }
  refine ⟨PySem.W.fnOf "law" "law" (defArgs st_law) (defBody st_law) (defScope st_law) .none kV37 dc37 pm37 an37 cd37 cc37, fun s v => .of_eq rfl, fun base _ _ => ?_⟩
  exact ok_all (P := l.prog) (w := w) (base := base) F37 T
end W_k91
namespace W_k91
open PySem PySem.Spec PyProof.Rows L2 GB
theorem back_of_eq {c : Nat} (h : isL c = true) : F_back_of [.fz (.str [c])] = .ok (.fz (.str [bk c])) [.fz (.str [c])] := by
  have h := isL_iff.mp h
  rw [F_back_of_eq]
  simp [b_back_of, fUpper, fLower, upL, lowL]
  by_cases z : 97 ≤ c ∧ c ≤ 102
  · have z1 : c = 97 ∨ c = 98 ∨ c = 99 ∨ c = 100 ∨ c = 101 ∨ c = 102 := by omega
    have z2 : c < 128 := by omega
    simp [z1, z2, bk, z, up1]
    omega
  · have z1 : ¬ (c = 97 ∨ c = 98 ∨ c = 99 ∨ c = 100 ∨ c = 101 ∨ c = 102) := by omega
    have z2 : c < 128 := by omega
    simp [z1, z2, bk, z, lo1]
    omega
theorem back_eq {w : List Nat} (h : W w) (hl : w.length ≤ 1000000) : F_back [.fz (.str w)] = .ok (.fz (.str (bkw w))) [.fz (.str w)] := by
  rw [F_back_eq]
  have hb : big w.length = true := big_of (by omega)
  have lc : cmpL (gNm 1) eYes ce_back_1 [1] (w.reverse.map sgD) [some (.fz (.str w)), none] [] = .ok ((bkw w).map sgD) [some (.fz (.str w)), none] := by
    rw [cmpL_one (fun d => match d with | .str [c] => .str [bk c] | d => d) (by simp; omega)]
    · unfold bkw
      rw [← List.map_reverse, List.map_map, List.map_map]
      rfl
    · intro d hd
      obtain ⟨c, hc, rfl⟩ := List.mem_map.mp hd
      have hc := h c (List.mem_reverse.mp hc)
      simp [cturn, ce_back_1, back_of_eq hc, sgD]
  have it : itemsOf (.fz (.str w.reverse)) = some (w.reverse.map sgD) := rfl
  have hj := join_sg (cs := bkw w) (by rw [bkw_len]; omega)
  have rv : qRev [.fz (.str w)] = some (.fz (.str w.reverse)) := by simp [qRev, s_orP, fRevS, hb]
  simp [b_back, rv, it, lc, hj, -List.map_reverse]
theorem reduced_turn {c : Nat} (hc : isL c = true) {t : List Nat} (ht : W t) (hl : t.length < 16777216) {x0 : Option S} :
    fb_reduced_1 [x0, some (.ol (t.reverse.map sgD)), some (.fz (.str [c]))] = .nx [x0, some (.ol ((step t c).reverse.map sgD)), some (.fz (.str [c]))] := by
  have bo := back_of_eq hc
  cases t with
  | nil => simp [fb_reduced_1, GB.step, sgD]
  | cons x t =>
    have e : ((x :: t).reverse.map sgD).getLast? = some (.str [x]) := by simp [sgD]
    have e2 : ((x :: t).reverse.map sgD).dropLast = t.reverse.map sgD := by simp
    have e3 : ((x :: t).reverse.map sgD).length = t.length + 1 := by simp
    rw [List.length_cons] at hl
    have e4 : (GB.step (x :: t) c).reverse.map sgD = if x = bk c then t.reverse.map sgD else (x :: t).reverse.map sgD ++ [sgD c] := by
      unfold GB.step
      dsimp only
      split
      · rfl
      · simp
    rw [e4]
    generalize (x :: t).reverse.map sgD = L at *
    by_cases z : x = bk c
    · subst z
      simp [fb_reduced_1, e3, e, e2, bo]
    · simp [fb_reduced_1, e3, e, bo, z, hl]
      rfl
theorem reduced_eq {w : List Nat} (h : W w) (hl : w.length ≤ 1000000) : F_reduced [.fz (.str w)] = .ok (.fz (.str (red w))) [.fz (.str w)] := by
  obtain ⟨r', y, x2, h2, rfl⟩ := forL_inv (fg := gNm 2) (f := fb_reduced_1) (ds := w.map sgD) (r := [some (.fz (.str w)), some (.ol []), none])
    (fun i r => ∃ x2, sf x2 ∧ r = [some (.fz (.str w)), some (.ol ((run [] (w.take i)).reverse.map sgD)), x2]) ⟨none, sf_n, by simp [GB.run]⟩ (by
      rintro i d r hd ⟨x2, h2, rfl⟩
      rw [List.getElem?_map] at hd
      cases e : w[i]? with
      | none => rw [e] at hd; cases hd
      | some c =>
        rw [e] at hd; cases hd
        have hi : i < w.length := lt_of_at e
        have hr := run_len (w.take i) []
        have hc := h c (List.mem_of_getElem? e)
        have e1 : run [] (w.take (i + 1)) = GB.step (run [] (w.take i)) c := by
          rw [List.take_add_one, e, run_app]; rfl
        refine ⟨[some (.fz (.str w)), some (.ol ((run [] (w.take i)).reverse.map sgD)), some (.fz (.str [c]))], ?_, _, .inl (reduced_turn hc (run_w .nil (h.take i)) (by rw [List.length_take] at hr; simp at hr; omega)), _, sf_f, by rw [e1]⟩
        rcases h2 with rfl | ⟨d, rfl⟩ <;> simp [sgD])
  rw [List.length_map, List.take_length] at y
  have lp : (fFor (eCons (eVar 0) eNil) mkSeq (gNm 2) fb_reduced_1) [some (.fz (.str w)), some (.ol []), none] = _ := (for_lfz (i := 0) (d := .str w) (ds := w.map sgD) rfl rfl rfl).trans y
  have hj := join_sg (cs := red w) (by have := red_len w; omega)
  rw [F_reduced_eq]
  unfold red at hj ⊢
  simp only [s_runF, b_reduced]
  simp [-s_fFor, lp, -List.map_reverse, hj]
theorem times_eq {u v : List Nat} (hu : W u) (hv : W v) (hl : u.length + v.length ≤ 1000000) : F_times [.fz (.str u), .fz (.str v)] = .ok (.fz (.str (red (u ++ v)))) [.fz (.str u), .fz (.str v)] := by
  rw [F_times_eq]
  have hb : big (u.length + v.length) = true := big_of (by omega)
  have hr := reduced_eq (hu.app hv) (by rw [List.length_append]; exact hl)
  simp [b_times, hb, hr]
theorem pow_pos {w u v : List Nat} {n m : Int} (z : 0 ≤ n) (fa : fAbs (.fz (.int n)) = some (.fz (.int m))) (mm : qMul [.fz (.str w), .fz (.int m)] = some (.fz (.str u))) (g1 : F_reduced [.fz (.str u)] = .ok (.fz (.str v)) [.fz (.str u)]) :
    F_power [.fz (.str w), .fz (.int n)] = .ok (.fz (.str v)) [.fz (.str w), .fz (.int n)] := by
  rw [F_power_eq]
  simp only [s_runF, b_power]
  simp [-s_qMulS, -s_fAbs, z, fa, mm, g1]
theorem pow_neg {w b u v : List Nat} {n m : Int} (z : ¬ 0 ≤ n) (hb : F_back [.fz (.str w)] = .ok (.fz (.str b)) [.fz (.str w)]) (fa : fAbs (.fz (.int n)) = some (.fz (.int m))) (mm : qMul [.fz (.str b), .fz (.int m)] = some (.fz (.str u))) (g1 : F_reduced [.fz (.str u)] = .ok (.fz (.str v)) [.fz (.str u)]) :
    F_power [.fz (.str w), .fz (.int n)] = .ok (.fz (.str v)) [.fz (.str w), .fz (.int n)] := by
  rw [F_power_eq]
  simp only [s_runF, b_power]
  simp [-s_qMulS, -s_fAbs, z, hb, fa, mm, g1]
theorem rep_eq {u : List Nat} (hu : W u) (hl : u.length ≤ 10000) {k : Nat} (hk : k ≤ 40) : F_reduced [.fz (.str (rep u k))] = .ok (.fz (.str (red (rep u k)))) [.fz (.str (rep u k))] ∧ qMul [.fz (.str u), .fz (.int (k : Nat))] = some (.fz (.str (rep u k))) := by
  have : u.length * k ≤ 10000 * 40 := Nat.mul_le_mul hl hk
  refine ⟨reduced_eq (rep_w hu _) ?_, mulS_n (by omega) (by omega)⟩
  unfold rep
  rw [rep_len, Nat.mul_comm]; omega
theorem abs_eq (n : Int) : fAbs (.fz (.int n)) = some (.fz (.int (n.natAbs : Nat))) := by
  rw [s_fAbs]
  congr 3
  split <;> omega
theorem power_eq {w : List Nat} (h : W w) (hl : w.length ≤ 10000) {n : Int} (h1 : -40 ≤ n) (h2 : n ≤ 40) :
    F_power [.fz (.str w), .fz (.int n)] = .ok (.fz (.str (red (rep (if 0 ≤ n then w else bkw w) n.natAbs)))) [.fz (.str w), .fz (.int n)] := by
  by_cases z : 0 ≤ n
  · rw [if_pos z]
    obtain ⟨g1, g2⟩ := rep_eq h hl (k := n.natAbs) (by omega)
    exact pow_pos z (abs_eq n) g2 g1
  · rw [if_neg z]
    obtain ⟨g1, g2⟩ := rep_eq h.bkw (by rw [bkw_len]; exact hl) (k := n.natAbs) (by omega)
    exact pow_neg z (back_eq h (by omega)) (abs_eq n) g2 g1
theorem turns_turn {w : List Nat} (hl : w.length ≤ 1000000) (k : Nat) : cturn (gNm 1) eYes ce_turns_1 [1] (.int (k : Nat)) [some (.fz (.str w)), none] = some ([.str (rot w k)], [some (.fz (.str w)), none]) := by
  have s1 := sl_to (w := w) (by omega) k
  have s2 := sl_from (w := w) (by omega) k
  have q : big ((w.drop k).length + (w.take k).length) = true := big_of (by rw [List.length_drop, List.length_take]; omega)
  simp [cturn, ce_turns_1, s1, s2, q, rot, -List.length_take, -List.length_drop]
theorem turns_eq {w : List Nat} (hl : w.length ≤ 1000000) : F_turns [.fz (.str w)] = .ok (.ol ((turnsL w).map D.str)) [.fz (.str w)] := by
  have hb : big w.length = true := big_of (by omega)
  have lc : cmpL (gNm 1) eYes ce_turns_1 [1] (upFrom 0 (max 1 w.length)) [some (.fz (.str w)), none] [] = .ok ((turnsL w).map D.str) [some (.fz (.str w)), none] := by
    rw [cmpL_one (fun d => match d with | .int k => .str (rot w k.toNat) | d => d) (by rw [upFrom_len]; omega)]
    · unfold turnsL upFrom
      rw [List.map_map, List.map_map]
      simp
    · intro d hd
      unfold upFrom at hd
      obtain ⟨k, hk, rfl⟩ := List.mem_map.mp hd
      rw [Int.zero_add]
      exact turns_turn hl k
  have mx : (if (w.length : Int) > 1 then (w.length : Int) else 1) = ((max 1 w.length : Nat) : Int) := by split <;> omega
  have el : eLc (eCons (eCall qMax (eCons (eC (.int 1)) (eCons (e1 (p1 fLen) (eVar 0)) eNil))) eNil) mkR1 (gNm 1) eYes ce_turns_1 [1] [some (.fz (.str w)), none] = _ :=
    lc_fz (d := .int ((max 1 w.length : Nat) : Int)) (r1 := [some (.fz (.str w)), none]) (by simp [hb, mx]) (mkR1_n (by omega)) (by simp) lc
  rw [F_turns_eq]
  simp only [s_runF, b_turns]
  simp [-s_eLc, el]
theorem rooted_run {w t u : List Nat} {s n q : Int} (hb : fLen (.fz (.str w)) = some (.fz (.int n))) (s1 : fSl (.fz (.str w)) (.fz .non) (.fz (.int s)) = some (.fz (.str t))) (dv : fDivI n s = some (.fz (.int q))) (mm : qMul [.fz (.str t), .fz (.int q)] = some (.fz (.str u))) :
    cturn (gNm 2) ct_rooted_1 ce_rooted_1 [2] (.int s) [some (.fz (.str w)), none, none] = some (if decide (u = w) then [.int s] else [], [some (.fz (.str w)), none, none]) := by
  by_cases p : u = w
  · simp [cturn, ct_rooted_1, ce_rooted_1, -s_qMulS, -s_lenS, hb, s1, dv, mm, p]
  · simp [cturn, ct_rooted_1, ce_rooted_1, -s_qMulS, -s_lenS, hb, s1, dv, mm, p]
theorem len_w {w : List Nat} (hl : w.length ≤ 1000000) : fLen (.fz (.str w)) = some (.fz (.int (w.length : Nat))) := by
  rw [s_lenS]
  exact if_pos (big_of (by omega))
theorem rooted_turn {w : List Nat} (hl : w.length ≤ 1000000) {s : Nat} (h1 : 1 ≤ s) (h2 : s ≤ w.length) : cturn (gNm 2) ct_rooted_1 ce_rooted_1 [2] (.int (s : Nat)) [some (.fz (.str w)), none, none] = some (if per w s then [.int (s : Nat)] else [], [some (.fz (.str w)), none, none]) := by
  refine rooted_run (len_w hl) (sl_to (by omega) s) (div_n h1 (by omega)) (mulS_n (Nat.le_trans (Nat.div_le_self _ _) hl) ?_)
  have : (w.take s).length * (w.length / s) ≤ s * (w.length / s) := Nat.mul_le_mul (by rw [List.length_take]; omega) (Nat.le_refl _)
  have := Nat.mul_div_le w.length s
  omega
theorem sizes_flat (p : Nat → Bool) : ∀ l : List Nat, (l.map fun k : Nat => D.int (1 + (k : Int))).flatMap (fun d => match d with | .int i => if p i.toNat then [D.int i] else [] | _ => []) = ((l.map (· + 1)).filter p).map fun k : Nat => D.int (k : Int)
  | [] => rfl
  | k :: l => by
    rw [List.map_cons, List.flatMap_cons, sizes_flat p l, List.map_cons, List.filter_cons]
    have e : (1 + (k : Int)).toNat = k + 1 := by omega
    show (if p (1 + (k : Int)).toNat then [D.int (1 + (k : Int))] else []) ++ _ = _
    rw [e]
    by_cases h : p (k + 1) = true
    · rw [if_pos h, if_pos h, List.map_cons]
      have : (1 + (k : Int)) = ((k + 1 : Nat) : Int) := by omega
      rw [this]; rfl
    · rw [if_neg h, if_neg h]; rfl
def rootD (w : List Nat) : D := .tup [.str (w.take (rootS w)), .int ((w.length / rootS w : Nat) : Nat)]
theorem rooted_fin {w t : List Nat} {L : List D} {s n q : Int} (el : eLc (eCons (eC (.int 1)) (eCons (e2 (p2 fAdd) (e1 (p1 fLen) (eVar 0)) (eC (.int 1))) eNil)) mkR2 (gNm 2) ct_rooted_1 ce_rooted_1 [2] [some (.fz (.str w)), none, none] = .ok (.val (.ol (.int s :: L))) [some (.fz (.str w)), none, none])
    (hb : fLen (.fz (.str w)) = some (.fz (.int n))) (s1 : fSl (.fz (.str w)) (.fz .non) (.fz (.int s)) = some (.fz (.str t))) (dv : fDivI n s = some (.fz (.int q))) : F_rooted [.fz (.str w)] = .ok (.fz (.tup [.str t, .int q])) [.fz (.str w)] := by
  rw [F_rooted_eq]
  simp only [s_runF, b_rooted]
  simp [-s_eLc, -s_lenS, el, hb, s1, dv]
theorem rooted_eq {w : List Nat} (h0 : w ≠ []) (hl : w.length ≤ 1000000) : F_rooted [.fz (.str w)] = .ok (.fz (rootD w)) [.fz (.str w)] := by
  have hb := len_w hl
  have mk : mkR2 [.fz (.int 1), .fz (.int ((w.length : Int) + 1))] = some (upFrom 1 w.length) := by
    rw [mkR2_i (by omega) (by omega) (by omega) (by omega)]
    congr 2
    omega
  have lc : cmpL (gNm 2) ct_rooted_1 ce_rooted_1 [2] (upFrom 1 w.length) [some (.fz (.str w)), none, none] [] = .ok ((sizesL w).map fun k : Nat => D.int (k : Int)) [some (.fz (.str w)), none, none] := by
    rw [cmpL_each (fun d => match d with | .int i => if per w i.toNat then [D.int i] else [] | _ => []) (by rw [upFrom_len, List.length_nil]; omega)]
    · rw [List.nil_append]
      unfold upFrom sizesL
      rw [sizes_flat]
    · intro d hd
      unfold upFrom at hd
      obtain ⟨k, hk, rfl⟩ := List.mem_map.mp hd
      have hk := List.mem_range.mp hk
      have e : (1 + (k : Int)) = ((k + 1 : Nat) : Int) := by omega
      rw [e, rooted_turn hl (s := k + 1) (by omega) (by omega)]
      show _ = some (if per w ((k + 1 : Nat) : Int).toNat then _ else _, _)
      rw [Int.toNat_natCast]
  have el := lc_vals (fs := eCons (eC (.int 1)) (eCons (e2 (p2 fAdd) (e1 (p1 fLen) (eVar 0)) (eC (.int 1))) eNil)) (r := [some (.fz (.str w)), none, none]) (r1 := [some (.fz (.str w)), none, none]) (vs := [2]) [.int 1, .int ((w.length : Int) + 1)] (by simp [hb, -s_lenS]) mk (by simp) lc
  obtain ⟨s, l, e, h1, h2, _⟩ := sizesL_cons h0
  have er : rootS w = s := by unfold rootS; rw [e]; rfl
  rw [e, List.map_cons] at el
  unfold rootD
  rw [er]
  exact rooted_fin el hb (sl_to (by omega) s) (div_n h1.1 (by omega))
theorem tput_turn {l : List (List Nat)} {t : List Nat} {x0 x2 : Option S} (hl : l.length < 16777216) : fb_turns_of_1 [x0, some (.od (dT l)), x2, some (.fz (.str t))] = .nx [x0, some (.od (dT (addO l t))), x2, some (.fz (.str t))] := by
  have hm : mPut (.od (dT l)) [.bl true, .str t] = some (.od (dT (addO l t)), .non) := by
    show (if decide ((dT l).length < 16777216) then some (S.od (putD (dT l) (.inr ⟨t.toArray⟩) (.bl true)), D.non) else none) = _
    rw [if_pos (decide_eq_true (by unfold dT; rw [List.length_map]; exact hl)), put_dT]
  simp [fb_turns_of_1, hm]
theorem tput_for {x0 x2 : Option S} : ∀ {ts l : List (List Nat)} {x3 : Option S}, sf x3 → l.length + ts.length < 16777216 → ∃ x3', sf x3' ∧ forL (gNm 3) fb_turns_of_1 (ts.map D.str) [x0, some (.od (dT l)), x2, x3] = .nx [x0, some (.od (dT (addAll l ts))), x2, x3']
  | [], l, x3, h3, _ => ⟨x3, h3, rfl⟩
  | t :: ts, l, x3, h3, hl => by
    rw [List.length_cons] at hl
    obtain ⟨x3', h3', y⟩ := tput_for (x0 := x0) (x2 := x2) (ts := ts) (l := addO l t) (x3 := some (.fz (.str t))) sf_f (by have := addO_len l t; omega)
    refine ⟨x3', h3', ?_⟩
    have e := tput_turn (l := l) (t := t) (x0 := x0) (x2 := x2) (by omega)
    rw [List.map_cons, forL]
    have g : gNm 3 (.str t) [x0, some (.od (dT l)), x2, x3] = some [x0, some (.od (dT l)), x2, some (.fz (.str t))] := by
      rcases h3 with rfl | ⟨z, rfl⟩ <;> simp
    rw [g]
    dsimp only
    rw [e]
    exact y
theorem tring_run {r b : List Nat} {t1 t2 : List D} {x0 x1 x3 x1' x3' : Option S} (e1' : F_turns [.fz (.str r)] = .ok (.ol t1) [.fz (.str r)]) (e2' : F_back [.fz (.str r)] = .ok (.fz (.str b)) [.fz (.str r)]) (e3' : F_turns [.fz (.str b)] = .ok (.ol t2) [.fz (.str b)]) (hl : t1.length + t2.length ≤ 16777216)
    (y : forL (gNm 3) fb_turns_of_1 (t1 ++ t2) [x0, x1, some (.fz (.str r)), x3] = .nx [x0, x1', some (.fz (.str r)), x3']) : fb_turns_of_2 [x0, x1, some (.fz (.str r)), x3] = .nx [x0, x1', some (.fz (.str r)), x3'] := by
  rw [← y]
  unfold fb_turns_of_2
  refine for_ol (es := t1 ++ t2) ?_ rfl
  have ad : fAdd (.ol t1) (.ol t2) = some (.ol (t1 ++ t2)) := by
    show (if big (t1.length + t2.length) then some (S.ol (t1 ++ t2)) else none) = _
    rw [if_pos (big_of hl)]
  simp [e1', e2', e3', ad]
theorem tring_turn {r : List Nat} (hr : W r) (hl : r.length ≤ 1000) {l : List (List Nat)} (hll : l.length ≤ 100000) {x0 x3 : Option S} (h3 : sf x3) : ∃ x3', sf x3' ∧
    fb_turns_of_2 [x0, some (.od (dT l)), some (.fz (.str r)), x3] = .nx [x0, some (.od (dT (addAll (addAll l (turnsL r)) (turnsL (bkw r))))), some (.fz (.str r)), x3'] := by
  have l1 := turnsL_len r
  have l2 := turnsL_len (bkw r)
  rw [bkw_len] at l2
  obtain ⟨x3', h3', y⟩ := tput_for (x0 := x0) (x2 := some (.fz (.str r))) (ts := turnsL r ++ turnsL (bkw r)) (l := l) h3 (by rw [List.length_append]; omega)
  refine ⟨x3', h3', tring_run (turns_eq (by omega)) (back_eq hr (by omega)) (turns_eq (by rw [bkw_len]; omega)) (by rw [List.length_map, List.length_map]; omega) ?_⟩
  rw [← List.map_append, y]
  unfold addAll
  rw [List.foldl_append]
theorem tof_for {x0 : Option S} : ∀ {rs l : List (List Nat)} {x2 x3 : Option S}, sf x2 → sf x3 → (∀ r ∈ rs, W r ∧ r.length ≤ 1000) → l.length + rs.length * 2002 ≤ 100000 → ∃ x2' x3',
    forL (gNm 2) fb_turns_of_2 (rs.map D.str) [x0, some (.od (dT l)), x2, x3] = .nx [x0, some (.od (dT (rs.foldl (fun l r => addAll (addAll l (turnsL r)) (turnsL (bkw r))) l))), x2', x3']
  | [], l, x2, x3, _, _, _, _ => ⟨x2, x3, rfl⟩
  | r :: rs, l, x2, x3, h2, h3, hr, hl => by
    rw [List.length_cons] at hl
    obtain ⟨hw, hrl⟩ := hr r (List.mem_cons_self ..)
    obtain ⟨x3', h3', y⟩ := tring_turn hw hrl (l := l) (by omega) (x0 := x0) h3
    have n1 := addAll_len (turnsL r) l
    have n2 := addAll_len (turnsL (bkw r)) (addAll l (turnsL r))
    rw [turnsL_len] at n1 n2
    rw [bkw_len] at n2
    obtain ⟨a, b, y2⟩ := tof_for (x0 := x0) (rs := rs) (l := addAll (addAll l (turnsL r)) (turnsL (bkw r))) (x2 := some (.fz (.str r))) (x3 := x3') sf_f h3' (fun r hr' => hr r (List.mem_cons_of_mem _ hr')) (by omega)
    refine ⟨a, b, ?_⟩
    have g : gNm 2 (.str r) [x0, some (.od (dT l)), x2, x3] = some [x0, some (.od (dT l)), some (.fz (.str r)), x3] := by
      rcases h2 with rfl | ⟨z, rfl⟩ <;> simp
    rw [List.map_cons, forL, g]
    dsimp only
    rw [y]
    exact y2
theorem turns_of_eq {rs : List (List Nat)} (hr : ∀ r ∈ rs, W r ∧ r.length ≤ 1000) (hl : rs.length ≤ 40) : F_turns_of [.fz (ringsT rs)] = .ok (.ol ((knownL rs).map D.str)) [.fz (ringsT rs)] := by
  obtain ⟨a, b, y⟩ := tof_for (x0 := some (.fz (ringsT rs))) (rs := rs) (l := []) (x2 := none) (x3 := none) sf_n sf_n hr (by simp; omega)
  have lp : fFor (eCons (eVar 0) eNil) mkSeq (gNm 2) fb_turns_of_2 [some (.fz (ringsT rs)), some (.od []), none, none] = _ := (for_lfz (i := 0) (d := ringsT rs) (ds := rs.map D.str) rfl rfl rfl).trans y
  have kk := keys_dT (turnsO rs)
  unfold turnsO at kk
  have so := srtT (ws := turnsO rs)
  unfold turnsO at so
  rw [F_turns_of_eq]
  simp [b_turns_of, lp, kk, so, -s_fFor, eDic0, knownL, turnsO]
theorem share_test {a b : List Nat} {k : Nat} (ha : a.length ≤ 1000000) (hb : b.length ≤ 1000000) (hk : k ≤ lcp a b) : wt_shared_1 [some (.fz (.str a)), some (.fz (.str b)), some (.fz (.int (k : Nat)))] = .ok (decide (k < lcp a b)) [some (.fz (.str a)), some (.fz (.str b)), some (.fz (.int (k : Nat)))] := by
  have g1 : big a.length = true := big_of (by omega)
  have g2 : big b.length = true := big_of (by omega)
  obtain ⟨l1, l2⟩ := lcp_le a b
  by_cases c : k < lcp a b
  · have e := lcp_at a b k c
    have h1 : a[k]? = some (a[k]'(by omega)) := List.getElem?_eq_getElem (by omega)
    have a1 : atI a (k : Int) = some (a[k]'(by omega)) := by rw [atI_n]; exact h1
    have a2 : atI b (k : Int) = some (a[k]'(by omega)) := by rw [atI_n, ← e]; exact h1
    generalize a[k]'(by omega) = x at *
    by_cases z : (b.length : Int) < (a.length : Int)
    · have q : (k : Int) < (b.length : Int) := by omega
      simp [wt_shared_1, g1, g2, z, q, a1, a2, c]
    · have q : (k : Int) < (a.length : Int) := by omega
      simp [wt_shared_1, g1, g2, z, q, a1, a2, c]
  · have ek : k = lcp a b := by omega
    by_cases c1 : k < a.length ∧ k < b.length
    · have ne := lcp_stop a b (by omega) (by omega)
      rw [← ek] at ne
      have h1 : a[k]? = some (a[k]'(by omega)) := List.getElem?_eq_getElem (by omega)
      have h2 : b[k]? = some (b[k]'(by omega)) := List.getElem?_eq_getElem (by omega)
      have a1 : atI a (k : Int) = some (a[k]'(by omega)) := by rw [atI_n]; exact h1
      have a2 : atI b (k : Int) = some (b[k]'(by omega)) := by rw [atI_n]; exact h2
      rw [h1, h2] at ne
      have ne : ¬ (a[k]'(by omega)) = (b[k]'(by omega)) := fun z => ne (by rw [z])
      generalize a[k]'(by omega) = x at *
      generalize b[k]'(by omega) = y at *
      by_cases z : (b.length : Int) < (a.length : Int)
      · have q : (k : Int) < (b.length : Int) := by omega
        simp [wt_shared_1, g1, g2, z, q, a1, a2, c, ne]
      · have q : (k : Int) < (a.length : Int) := by omega
        simp [wt_shared_1, g1, g2, z, q, a1, a2, c, ne]
    · by_cases z : (b.length : Int) < (a.length : Int)
      · have q : ¬ (k : Int) < (b.length : Int) := by omega
        simp [wt_shared_1, g1, g2, z, q, c]
      · have q : ¬ (k : Int) < (a.length : Int) := by omega
        simp [wt_shared_1, g1, g2, z, q, c]
theorem share_step {a b : List Nat} {k : Nat} : wb_shared_1 [some (.fz (.str a)), some (.fz (.str b)), some (.fz (.int (k : Nat)))] = .nx [some (.fz (.str a)), some (.fz (.str b)), some (.fz (.int ((k + 1 : Nat) : Int)))] := by
  simp [wb_shared_1]
theorem shared_eq {a b : List Nat} (ha : a.length ≤ 1000000) (hb : b.length ≤ 1000000) : F_shared [.fz (.str a), .fz (.str b)] = .ok (.fz (.str (a.take (lcp a b)))) [.fz (.str a), .fz (.str b)] := by
  obtain ⟨r', y, rfl⟩ := fWhile_go (ft := wt_shared_1) (f := wb_shared_1) (fun n r => ∃ k, k + n = lcp a b ∧ r = [some (.fz (.str a)), some (.fz (.str b)), some (.fz (.int (k : Nat)))]) (fun r => r = [some (.fz (.str a)), some (.fz (.str b)), some (.fz (.int ((lcp a b : Nat) : Int)))]) (by
    rintro n r ⟨k, hk, rfl⟩
    have tt := share_test ha hb (k := k) (by omega)
    by_cases c : k < lcp a b
    · rw [decide_eq_true c] at tt
      exact .inr ⟨_, _, n - 1, tt, .inl share_step, by omega, k + 1, by omega, rfl⟩
    · rw [decide_eq_false c] at tt
      exact .inl ⟨_, tt, by rw [show k = lcp a b from by omega]⟩) (lcp a b) [some (.fz (.str a)), some (.fz (.str b)), some (.fz (.int 0))] ⟨0, by omega, rfl⟩
  have s1 := sl_to (w := a) (by omega) (lcp a b)
  rw [F_shared_eq]
  simp [b_shared, y, s1]
theorem ithick_eq {a b : List Nat} (ha : a.length ≤ 1000000) (hb : b.length ≤ 1000000) : F_is_thick [.fz (.str a), .fz (.str b)] = .ok (.fz (.bl (thickB a b))) [.fz (.str a), .fz (.str b)] := by
  have sh := shared_eq ha hb
  have hl : (a.take (lcp a b)).length = lcp a b := by rw [List.length_take]; have := (lcp_le a b).1; omega
  have g1 : big a.length = true := big_of (by omega)
  have g2 : big (a.take (lcp a b)).length = true := big_of (by rw [hl]; have := (lcp_le a b).1; omega)
  have e6 : ((a.take (lcp a b)).length : Int) = (lcp a b : Nat) := by rw [hl]
  rw [F_is_thick_eq]; unfold thickB
  by_cases c : a = b
  · simp [b_is_thick, c]
  · by_cases d : a.length ≤ 6 * lcp a b
    · have d' : (a.length : Int) ≤ 6 * (lcp a b : Int) := by omega
      simp [b_is_thick, c, sh, g1, g2, e6, d, d', -List.length_take]
    · have d' : ¬ (a.length : Int) ≤ 6 * (lcp a b : Int) := by omega
      simp [b_is_thick, c, sh, g1, g2, e6, d, d', -List.length_take]
theorem tk_lc1 {a : List Nat} (ha : a.length ≤ 1000000) {bs : List (List Nat)} (hb : ∀ b ∈ bs, b.length ≤ 1000000) (hl : bs.length ≤ 1000000) {x0 x1 x2 x5 : Option S} : eLc (eCons (eVar 4) eNil) mkSeq (gNm 6) eYes ce_thick_1 [6] [x0, x1, x2, some (.fz (.str a)), some (.ol (bs.map D.str)), x5, none] =
    .ok (.val (.ol ((bs.map (thickB a)).map D.bl))) [x0, x1, x2, some (.fz (.str a)), some (.ol (bs.map D.str)), x5, none] := by
  have lc : cmpL (gNm 6) eYes ce_thick_1 [6] (bs.map D.str) [x0, x1, x2, some (.fz (.str a)), some (.lk (bs.map D.str)), x5, none] [] = .ok ((bs.map (thickB a)).map D.bl) [x0, x1, x2, some (.fz (.str a)), some (.lk (bs.map D.str)), x5, none] := by
    have := cmpL_one (fg := gNm 6) (ft := eYes) (fe := ce_thick_1) (vs := [6]) (r0 := [x0, x1, x2, some (.fz (.str a)), some (.lk (bs.map D.str)), x5, none]) (fun d => match d with | .str b => D.bl (thickB a b) | d => d) (ds := bs.map D.str) (by rw [List.length_map]; omega) (fun d hd => by
      obtain ⟨b, hb', rfl⟩ := List.mem_map.mp hd
      have e := ithick_eq ha (hb b hb')
      simp [cturn, ce_thick_1, e])
    rw [this, List.map_map, List.map_map]
    rfl
  exact lc_gen (os := [.loc 4]) (ss := [.lk (bs.map D.str)]) (r1 := [x0, x1, x2, some (.fz (.str a)), some (.ol (bs.map D.str)), x5, none]) (r2 := [x0, x1, x2, some (.fz (.str a)), some (.lk (bs.map D.str)), x5, none]) (u := [(4, .ol (bs.map D.str))]) (by simp) (by simp) rfl (by simp) lc
theorem tk_lc2 {a : List Nat} (ha : a.length ≤ 1000000) {bs : List (List Nat)} (hb : ∀ b ∈ bs, b.length ≤ 1000000) (hl : bs.length ≤ 1000000) {x0 x2 x4 x5 : Option S} : eLc (eCons (eVar 1) eNil) mkSeq (gNm 6) ct_thick_2 ce_thick_2 [6] [x0, some (.lk (bs.map D.str)), x2, some (.fz (.str a)), x4, x5, none] =
    .ok (.val (.ol ((bs.filter (thickB a)).map D.str))) [x0, some (.lk (bs.map D.str)), x2, some (.fz (.str a)), x4, x5, none] := by
  have lc : cmpL (gNm 6) ct_thick_2 ce_thick_2 [6] (bs.map D.str) [x0, some (.lk (bs.map D.str)), x2, some (.fz (.str a)), x4, x5, none] [] = .ok ((bs.filter (thickB a)).map D.str) [x0, some (.lk (bs.map D.str)), x2, some (.fz (.str a)), x4, x5, none] := by
    have := cmpL_each (fg := gNm 6) (ft := ct_thick_2) (fe := ce_thick_2) (vs := [6]) (r0 := [x0, some (.lk (bs.map D.str)), x2, some (.fz (.str a)), x4, x5, none]) (fun d => match d with | .str b => if thickB a b then [D.str b] else [] | _ => []) (ds := bs.map D.str) (acc := []) (by rw [List.length_map]; simp; omega) (fun d hd => by
      obtain ⟨b, hb', rfl⟩ := List.mem_map.mp hd
      have e := ithick_eq ha (hb b hb')
      cases c : thickB a b with
      | true => rw [c] at e; simp [cturn, ct_thick_2, ce_thick_2, e, c]
      | false => rw [c] at e; simp [cturn, ct_thick_2, ce_thick_2, e, c])
    rw [this, List.nil_append]
    congr 1
    generalize bs = l
    induction l with
    | nil => rfl
    | cons b l ih =>
      rw [List.map_cons, List.flatMap_cons, ih, List.filter_cons]
      dsimp only
      cases thickB a b <;> rfl
  exact lc_gen (os := [.loc 1]) (ss := [.lk (bs.map D.str)]) (r1 := [x0, some (.lk (bs.map D.str)), x2, some (.fz (.str a)), x4, x5, none]) (r2 := [x0, some (.lk (bs.map D.str)), x2, some (.fz (.str a)), x4, x5, none]) (u := []) (by simp) (by simp) rfl (by simp) lc
theorem tk_run0 {L B : List D} {pi lo : Int} {a : List Nat} {bl : List D} {x0 x4 x5 : Option S} (h4 : nh x4) (h5 : nh x5) (mx : (if 1 < pi then pi - 1 else 0) = lo) (sl : fSl (.lk L) (.fz (.int lo)) (.fz (.int (pi + 2))) = some (.ol B))
    (l1 : ∀ x0 x1 x2 x5, eLc (eCons (eVar 4) eNil) mkSeq (gNm 6) eYes ce_thick_1 [6] [x0, x1, x2, some (.fz (.str a)), some (.ol B), x5, none] = .ok (.val (.ol bl)) [x0, x1, x2, some (.fz (.str a)), some (.ol B), x5, none])
    (an : fAny (.ol bl) = some (.fz (.bl false))) :
    fb_thick_3 [x0, some (.lk L), some (.fz (.int pi)), some (.fz (.str a)), x4, x5, none] = .nx [x0, some (.lk L), some (.fz (.int pi)), some (.fz (.str a)), some (.ol B), x5, none] := by
  rcases h4 with rfl | ⟨z, rfl, hz⟩ <;> simp [fb_thick_3, mx, sl, l1, an, -s_eLc, *]
theorem tk_run1 {L B F : List D} {pi lo : Int} {a c s : List Nat} {bl : List D} {x0 x4 x5 : Option S} (h4 : nh x4) (h5 : nh x5) (mx : (if 1 < pi then pi - 1 else 0) = lo) (sl : fSl (.lk L) (.fz (.int lo)) (.fz (.int (pi + 2))) = some (.ol B))
    (l1 : ∀ x0 x1 x2 x5, eLc (eCons (eVar 4) eNil) mkSeq (gNm 6) eYes ce_thick_1 [6] [x0, x1, x2, some (.fz (.str a)), some (.ol B), x5, none] = .ok (.val (.ol bl)) [x0, x1, x2, some (.fz (.str a)), some (.ol B), x5, none])
    (an : fAny (.ol bl) = some (.fz (.bl true)))
    (l2 : ∀ x0 x2 x4 x5, eLc (eCons (eVar 1) eNil) mkSeq (gNm 6) ct_thick_2 ce_thick_2 [6] [x0, some (.lk L), x2, some (.fz (.str a)), x4, x5, none] = .ok (.val (.ol (.str c :: F))) [x0, some (.lk L), x2, some (.fz (.str a)), x4, x5, none])
    (sh : F_shared [.fz (.str a), .fz (.str c)] = .ok (.fz (.str s)) [.fz (.str a), .fz (.str c)]) :
    fb_thick_3 [x0, some (.lk L), some (.fz (.int pi)), some (.fz (.str a)), x4, x5, none] = .rt (.fz (.tup [.str a, .str c, .str s])) [x0, some (.lk L), some (.fz (.int pi)), some (.fz (.str a)), some (.ol B), some (.ol (.str c :: F)), none] := by
  rcases h4 with rfl | ⟨z, rfl, hz⟩ <;> rcases h5 with rfl | ⟨z', rfl, hz'⟩ <;> simp [fb_thick_3, mx, sl, l1, an, l2, sh, -s_eLc, *]
theorem tk_turn {l : List (List Nat)} (hs : l.Pairwise (· ≤ ·)) (hn : l.Nodup) (hw : ∀ b ∈ l, b.length ≤ 1000000) (hl : l.length ≤ 1000000) {i : Nat} {a : List Nat} (ha : l[i]? = some a) {x0 x4 x5 : Option S} (h4 : nh x4) (h5 : nh x5) : ∃ r2, (∃ x2 x3 x4 x5, sf x2 ∧ sf x3 ∧ nh x4 ∧ nh x5 ∧ r2 = [x0, some (.lk (l.map D.str)), x2, x3, x4, x5, none]) ∧
    fb_thick_3 [x0, some (.lk (l.map D.str)), some (.fz (.int (i : Nat))), some (.fz (.str a)), x4, x5, none] = (match thickAt l a with | none => Fl.nx r2 | some v => .rt v r2) := by
  have hal := hw a (List.mem_of_getElem? ha)
  have sl := sl_nnK (l.map D.str) (i - 1) (i + 2)
  rw [← List.map_take, ← List.map_drop, show (((i + 2 : Nat) : Int)) = (i : Int) + 2 from by omega] at sl
  have bm : ∀ b ∈ (l.take (i + 2)).drop (i - 1), b.length ≤ 1000000 := fun b hb => hw b (List.mem_of_mem_take (List.mem_of_mem_drop hb))
  have bl : ((l.take (i + 2)).drop (i - 1)).length ≤ 1000000 := by rw [List.length_drop, List.length_take]; omega
  have l1 := fun x0 x1 x2 x5 => tk_lc1 hal bm bl (x0 := x0) (x1 := x1) (x2 := x2) (x5 := x5)
  have an := any_bls (bs := ((l.take (i + 2)).drop (i - 1)).map (thickB a))
  have e9 : (((l.take (i + 2)).drop (i - 1)).map (thickB a)).any id = l.any (thickB a) := by
    rw [List.any_map]; exact beside hs hn ha
  rw [e9] at an
  unfold thickAt
  cases c : l.find? (thickB a) with
  | none =>
    have z : l.any (thickB a) = false := by
      rw [← Bool.not_eq_true, List.any_eq_true]
      rintro ⟨x, hx, h⟩
      exact List.find?_eq_none.mp c x hx h
    rw [z] at an
    exact ⟨_, ⟨_, _, _, _, sf_f, sf_f, .inr ⟨_, rfl, rfl⟩, h5, rfl⟩, tk_run0 h4 h5 mx_run sl l1 an⟩
  | some b =>
    have z : l.any (thickB a) = true := List.any_eq_true.mpr ⟨b, List.mem_of_find?_eq_some c, List.find?_some c⟩
    rw [z] at an
    have hb := hw b (List.mem_of_find?_eq_some c)
    obtain ⟨F, hF⟩ : ∃ F, l.filter (thickB a) = b :: F := by
      have h := List.head?_filter (p := thickB a) (l := l)
      rw [c] at h
      cases e : l.filter (thickB a) with
      | nil => rw [e] at h; cases h
      | cons x F => rw [e] at h; cases h; exact ⟨F, rfl⟩
    have l2 := fun x0 x2 x4 x5 => tk_lc2 hal hw hl (x0 := x0) (x2 := x2) (x4 := x4) (x5 := x5)
    rw [hF] at l2
    exact ⟨_, ⟨_, _, _, _, sf_f, sf_f, .inr ⟨_, rfl, rfl⟩, .inr ⟨_, rfl, rfl⟩, rfl⟩, tk_run1 h4 h5 mx_run sl l1 an l2 (shared_eq hal hb)⟩
theorem thick_eq {rs : List (List Nat)} (hr : ∀ r ∈ rs, W r ∧ r.length ≤ 1000) (hl : rs.length ≤ 40) : F_thick [.fz (ringsT rs)] = .ok (outS (thickD (knownL rs))) [.fz (ringsT rs)] := by
  obtain ⟨k1, k2, k3, k4⟩ := knownL_ok hr hl
  have tt := turns_of_eq hr hl
  have hw : ∀ b ∈ knownL rs, b.length ≤ 1000000 := fun b hb => by have := (k3 b hb).2; omega
  generalize knownL rs = l at *
  obtain ⟨r2, ⟨x2, x3, x4, x5, h2, h3, h4, h5, rfl⟩, y⟩ := forL_idx (fg := gTp 2 (gsCons (gNm 2) (gsCons (gNm 3) gsNil))) (f := fb_thick_3) (P := fun r => ∃ x2 x3 x4 x5, sf x2 ∧ sf x3 ∧ nh x4 ∧ nh x5 ∧ r = [some (.fz (ringsT rs)), some (.lk (l.map D.str)), x2, x3, x4, x5, none])
    (h := rowS l) (ds := (l.map D.str).zipIdx.map fun z => D.tup [.int (z.2 : Nat), z.1]) (r := [some (.fz (ringsT rs)), some (.lk (l.map D.str)), none, none, none, none, none]) 0 ⟨none, none, none, none, sf_n, sf_n, .inl rfl, .inl rfl, rfl⟩ (by
      rintro i d r hd ⟨x2, x3, x4, x5, h2, h3, h4, h5, rfl⟩
      rw [List.getElem?_map, List.getElem?_zipIdx, List.getElem?_map] at hd
      cases e : l[i]? with
      | none => rw [e] at hd; cases hd
      | some a =>
        rw [e] at hd
        have hd := Option.some.inj hd
        subst hd
        obtain ⟨r2, p2, y⟩ := tk_turn k1 k2 hw (by omega) e (x0 := some (.fz (ringsT rs))) h4 h5
        refine ⟨[some (.fz (ringsT rs)), some (.lk (l.map D.str)), some (.fz (.int (i : Nat))), some (.fz (.str a)), x4, x5, none], ?_, r2, p2, ?_⟩
        · rcases h2 with rfl | ⟨z, rfl⟩ <;> rcases h3 with rfl | ⟨z, rfl⟩ <;> simp
        · rw [Nat.zero_add, rowS_at e]; exact y)
  rw [List.length_map, List.length_zipIdx, List.length_map] at y
  have lp := for_gen (fs := eCons (eVar 1) eNil) (mk := mkEnum) (fg := gTp 2 (gsCons (gNm 2) (gsCons (gNm 3) gsNil))) (f := fb_thick_3) (r := [some (.fz (ringsT rs)), some (.ol (l.map D.str)), none, none, none, none, none]) (os := [.loc 1]) (ss := [.lk (l.map D.str)]) (r1 := [some (.fz (ringsT rs)), some (.ol (l.map D.str)), none, none, none, none, none]) (r2 := [some (.fz (ringsT rs)), some (.lk (l.map D.str)), none, none, none, none, none]) (u := [(1, .ol (l.map D.str))]) (by simp) (by simp) (show mkEnum [.lk (l.map D.str)] = _ from rfl)
  rw [y] at lp
  rw [F_thick_eq]; unfold thickD
  cases c : firstN (rowS l) 0 l.length with
  | none =>
    rw [c] at lp
    simp [b_thick, tt, lp, -s_fFor, mapFl, outS]
  | some v =>
    rw [c] at lp
    simp [b_thick, tt, lp, -s_fFor, mapFl, outS]
theorem feed_eq (ns : List Int) : ∃ k, Feed k ∧ F__law_feed [.fz (.scr (ns.map D.int))] = .ok (.od k) [.fz (.scr (ns.map D.int))] := by
  have fs : fSl (.fz (.scr (ns.map D.int))) (.fz .non) (.fz (.int 63)) = some (.ol ((ns.take 63).map D.int)) := by
    show (asLs (.fz (.scr (ns.map D.int)))).map (fun ds => S.ol (GB.cutD ds none (some 63))) = _
    rw [← cut63]; rfl
  have hf : ∀ n : Nat, fAdd (.ol ((ns.take 63).map D.int)) (.ol (List.replicate n [D.int 0]).flatten) = some (.ol ((ns.take 63 ++ List.replicate n 0).map D.int)) ∨ ¬ n ≤ 1 := by
    intro n
    by_cases hn : n ≤ 1
    · left
      show (if big (((ns.take 63).map D.int).length + ((List.replicate n [D.int 0]).flatten).length) then some (S.ol (((ns.take 63).map D.int) ++ (List.replicate n [D.int 0]).flatten)) else none) = _
      have hl : (ns.take 63).length ≤ 63 := List.length_take_le 63 ns
      rw [if_pos (big_of (by rw [List.length_map, rep_len, List.length_singleton]; omega))]
      have : (List.replicate n [D.int 0]).flatten = (List.replicate n (0 : Int)).map D.int := by
        match n with
        | 0 => rfl
        | 1 => rfl
        | n + 2 => omega
      rw [this, List.map_append]
    · exact .inr hn
  rw [F__law_feed_eq]
  by_cases he : ns = []
  · subst he
    refine ⟨fd [0] 0 0 0, ⟨_, _, _, _, by simp, rfl⟩, ?_⟩
    have h1 := (hf 1).resolve_right (by omega)
    simp at h1 fs
    simp [b__law_feed, eDisp, eKVs, fs, fList, asQ, asLs, asL, fInt1, h1, GB.pairD, keyD]
    rfl
  · have hl : ¬ ns.length = 0 := fun z => he (List.length_eq_zero_iff.mp z)
    have h1 := (hf 0).resolve_right (by omega)
    refine ⟨fd (ns.take 63) 0 0 0, ⟨_, _, _, _, by rw [List.length_take]; omega, rfl⟩, ?_⟩
    simp only [List.replicate_zero, List.append_nil, List.flatten_nil] at h1
    simp [b__law_feed, eDisp, eKVs, fs, fList, asQ, asLs, asL, fInt1, hl, he, GB.pairD, keyD, -List.map_take]
    rw [h1]
    simp [-List.map_take, GB.pairD, keyD]
    rfl
theorem draw_key (cells : List Int) (a b c many : Int) (h0 : 0 < cells.length) (h1 : 0 < many) (h2 : many < 1073741824) (P : FR → Prop) (hP : ∀ x a' b' c', P (.ok (.fz (.int (x % many))) [.bd (fd cells a' b' c'), .fz (.int many)])) :
    P (F__law_draw [.bd (fd cells a b c), .fz (.int many)]) := by
  rw [F__law_draw_eq]
  by_cases hb : b = 0
  · subst hb
    obtain ⟨x, hx, hm⟩ := atI_mod (l := cells.map D.int) (by simpa using h0) a
    rw [List.length_map] at hx
    obtain ⟨y, hy, rfl⟩ := List.mem_map.mp hm
    by_cases z1 : y < 1000000000000000000
    · simp [b__law_draw, h0, h1, h2, fModI, fDivI, fPowI, hx, z1]
      exact hP _ _ _ _
    · simp [b__law_draw, h0, h1, h2, fModI, fDivI, fPowI, hx, z1]
      exact hP _ _ _ _
  · simp [b__law_draw, h0, h1, h2, fModI, fDivI, fPowI, hb]
    exact hP _ _ _ _
theorem draw_eq {k : List (Key × D)} (t : Feed k) {many : Int} (h1 : 0 < many) (h2 : many < 1073741824) : ∃ v k', 0 ≤ v ∧ v < many ∧ Feed k' ∧ F__law_draw [.bd k, .fz (.int many)] = .ok (.fz (.int v)) [.bd k', .fz (.int many)] := by
  obtain ⟨cells, a, b, c, h0, rfl⟩ := t
  refine draw_key cells a b c many h0 h1 h2 (fun z => ∃ v k', 0 ≤ v ∧ v < many ∧ Feed k' ∧ z = .ok (.fz (.int v)) [.bd k', .fz (.int many)]) fun x a' b' c' => ?_
  exact ⟨_, _, Int.emod_nonneg _ (by omega), Int.emod_lt_of_pos _ h1, ⟨cells, a', b', c', h0, rfl⟩, rfl⟩
theorem dr {k : List (Key × D)} (t : Feed k) {m : Nat} (h : 0 < m) (h2 : m < 1000) : ∃ n k', n < m ∧ Feed k' ∧ F__law_draw [.bd k, .fz (.int (m : Nat))] = .ok (.fz (.int (n : Nat))) [.bd k', .fz (.int (m : Nat))] := by
  obtain ⟨v, k2, h0, hv, t2, y2⟩ := draw_eq t (many := (m : Int)) (by omega) (by omega)
  obtain ⟨n, rfl⟩ := Int.eq_ofNat_of_zero_le h0
  exact ⟨n, k2, by omega, t2, y2⟩
theorem law_back_turn {c : Nat} (hc : isL c = true) {x0 : Option S} {u : List Nat} (hl : u.length < 1000001) : fb__law_back_1 [x0, some (.fz (.str u)), some (.fz (.str [c]))] = .nx [x0, some (.fz (.str (bk c :: u))), some (.fz (.str [c]))] := by
  have h := isL_iff.mp hc
  have hb : big (1 + u.length) = true := big_of (by omega)
  by_cases z : 97 ≤ c ∧ c ≤ 102
  · have z1 : c = 97 ∨ c = 98 ∨ c = 99 ∨ c = 100 ∨ c = 101 ∨ c = 102 := by omega
    have z2 : c < 128 := by omega
    have z3 : up1 c = c - 32 := by unfold up1; rw [if_pos ⟨z.1, by omega⟩]
    simp [fb__law_back_1, fLower, fUpper, upL, lowL, z1, z2, z3, bk, z, hb]
  · have z1 : ¬ (c = 97 ∨ c = 98 ∨ c = 99 ∨ c = 100 ∨ c = 101 ∨ c = 102) := by omega
    have z2 : c < 128 := by omega
    have z3 : lo1 c = c + 32 := by unfold lo1; rw [if_pos (by omega)]
    simp [fb__law_back_1, fLower, fUpper, upL, lowL, z1, z2, z3, bk, z, hb]
theorem law_back_eq {w : List Nat} (h : W w) (hl : w.length ≤ 1000000) : F__law_back [.fz (.str w)] = .ok (.fz (.str (bkw w))) [.fz (.str w)] := by
  obtain ⟨r', y, x2, h2, rfl⟩ := forL_inv (fg := gNm 2) (f := fb__law_back_1) (ds := w.map sgD) (r := [some (.fz (.str w)), some (.fz (.str [])), none])
    (fun i r => ∃ x2, sf x2 ∧ r = [some (.fz (.str w)), some (.fz (.str (bkw (w.take i)))), x2]) ⟨none, sf_n, rfl⟩ (by
      rintro i d r hd ⟨x2, h2, rfl⟩
      rw [List.getElem?_map] at hd
      cases e : w[i]? with
      | none => rw [e] at hd; cases hd
      | some c =>
        rw [e] at hd; cases hd
        have hc := h c (List.mem_of_getElem? e)
        have e1 : bkw (w.take (i + 1)) = bk c :: bkw (w.take i) := by
          rw [List.take_add_one, e, bkw_app]; rfl
        refine ⟨[some (.fz (.str w)), some (.fz (.str (bkw (w.take i)))), some (.fz (.str [c]))], ?_, _, .inl (law_back_turn hc (by rw [bkw_len, List.length_take]; omega)), _, sf_f, by rw [e1]⟩
        rcases h2 with rfl | ⟨d, rfl⟩ <;> simp [sgD])
  rw [List.length_map, List.take_length] at y
  have lp : (fFor (eCons (eVar 0) eNil) mkSeq (gNm 2) fb__law_back_1) [some (.fz (.str w)), some (.fz (.str [])), none] = _ := (for_lfz (i := 0) (d := .str w) (ds := w.map sgD) rfl rfl rfl).trans y
  rw [F__law_back_eq]
  simp only [s_runF, b__law_back]
  simp [-s_fFor, lp]
/-- one look of the slow way -/
theorem wt_red {w : List Nat} (hb : w.length ≤ 1000000) {at' : Nat} : wt__law_reduced_1 [some (.fz (.str w)), some (.fz (.int (at' : Nat)))] = .ok (decide (at' + 1 < w.length)) [some (.fz (.str w)), some (.fz (.int (at' : Nat)))] := by
  have hb2 : big w.length = true := big_of (by omega)
  simp [wt__law_reduced_1, hb2]
  omega
theorem wb_red {w : List Nat} (hw : W w) (hb : w.length ≤ 1000000) {at' x y : Nat} (e1' : w[at']? = some x) (e2' : w[at' + 1]? = some y) : wb__law_reduced_1 [some (.fz (.str w)), some (.fz (.int (at' : Nat)))] =
    .nx (if y = bk x then [some (.fz (.str (w.take at' ++ w.drop (at' + 2)))), some (.fz (.int ((at' - 1 : Nat) : Nat)))] else [some (.fz (.str w)), some (.fz (.int ((at' + 1 : Nat) : Nat)))]) := by
  have hb2 : big w.length = true := big_of (by omega)
  have hx := hw x (List.mem_of_getElem? e1')
  have lb := law_back_eq (w := [x]) (W.cons hx .nil) (by simp)
  have lb' : F__law_back [.fz (.str [x])] = .ok (.fz (.str [bk x])) [.fz (.str [x])] := lb
  have c1 : ((at' : Int) + 1) = ((at' + 1 : Nat) : Int) := by omega
  have c2 : ((at' : Int) + 2) = ((at' + 2 : Nat) : Int) := by omega
  have i1 : atI w (at' : Int) = some x := by rw [atI_n]; exact e1'
  have i2 : atI w ((at' + 1 : Nat) : Int) = some y := by rw [atI_n]; exact e2'
  have s1 := sl_to (w := w) (by omega) at'
  have s2 := sl_from (w := w) (by omega) (at' + 2)
  have hb3 : big ((w.take at').length + (w.drop (at' + 2)).length) = true := big_of (by rw [List.length_take, List.length_drop]; omega)
  have mx : (if (at' : Int) - 1 > 0 then (at' : Int) - 1 else 0) = ((at' - 1 : Nat) : Int) := by split <;> omega
  rw [← c1] at i2
  rw [← c2] at s2
  by_cases z : y = bk x
  · rw [if_pos z]
    subst z
    simp only [wb__law_reduced_1]
    simp [hb2, i1, i2, lb', s1, s2, hb3, -List.length_take, -List.length_drop]
    split <;> omega
  · rw [if_neg z]
    simp [wb__law_reduced_1, hb2, i1, i2, lb', z]
theorem red_while (fin : List Nat) : ∀ k r, (∃ (s v : List Nat) (at' : Nat), r = [some (.fz (.str (s.reverse ++ v))), some (.fz (.int (at' : Nat)))] ∧ W (s.reverse ++ v) ∧ (s.reverse ++ v).length ≤ 1000000 ∧ ((s = [] ∧ v = [] ∧ at' = 0) ∨ s.length = at' + 1) ∧ run s v = fin ∧ 2 * (s.reverse ++ v).length + 1 < k + at') →
    ∃ r', fWhile wt__law_reduced_1 wb__law_reduced_1 r = .nx r' ∧ ∃ at' : Nat, r' = [some (.fz (.str fin.reverse)), some (.fz (.int (at' : Nat)))] := by
  refine fWhile_go _ _ ?_
  rintro k r ⟨s, v, at', rfl, hW, hl, hs, hf, hk⟩
  have wt := wt_red hl (at' := at')
  rcases hs with ⟨rfl, rfl, rfl⟩ | hs
  · refine .inl ⟨_, by rw [wt]; rfl, 0, ?_⟩
    rw [← hf]; rfl
  · cases s with
    | nil => simp at hs
    | cons x s =>
      have hs : s.length = at' := by simpa using hs
      have len : ((x :: s).reverse ++ v).length = at' + 1 + v.length := by simp [hs]; omega
      cases v with
      | nil =>
        have nd : decide (at' + 1 < ((x :: s).reverse ++ []).length) = false := by rw [len]; simp
        rw [nd] at wt
        refine .inl ⟨_, wt, at', ?_⟩
        rw [← hf, List.append_nil]; rfl
      | cons y v =>
        have g1 : ((x :: s).reverse ++ y :: v)[at']? = some x := by
          rw [List.reverse_cons, List.append_assoc, List.getElem?_append_right (by simp [hs])]
          simp [hs]
        have g2 : ((x :: s).reverse ++ y :: v)[at' + 1]? = some y := by
          rw [List.getElem?_append_right (by simp [hs])]
          simp [hs]
        have wb := wb_red hW hl g1 g2
        have hx : isL x = true := hW x (List.mem_of_getElem? g1)
        have hy : isL y = true := hW y (List.mem_of_getElem? g2)
        have hwt : wt__law_reduced_1 [some (.fz (.str ((x :: s).reverse ++ y :: v))), some (.fz (.int (at' : Nat)))] = .ok true [some (.fz (.str ((x :: s).reverse ++ y :: v))), some (.fz (.int (at' : Nat)))] := by
          rw [wt, len]; simp
        rw [len, List.length_cons] at hk
        rw [len, List.length_cons] at hl
        by_cases z : y = bk x
        · rw [if_pos z] at wb
          have zx : x = bk y := by rw [z, bk_bk hx]
          have t1 : ((x :: s).reverse ++ y :: v).take at' = s.reverse := by
            rw [List.reverse_cons, List.append_assoc, List.take_append_of_le_length (by simp [hs])]
            rw [List.take_of_length_le (by simp [hs])]
          have t2 : ((x :: s).reverse ++ y :: v).drop (at' + 2) = v := by
            have : (x :: s).reverse ++ y :: v = ((x :: s).reverse ++ [y]) ++ v := by simp
            rw [this, List.drop_append_of_le_length (by simp [hs])]
            rw [List.drop_eq_nil_of_le (by simp [hs])]; rfl
          rw [t1, t2] at wb
          have hf' : run s v = fin := by
            rw [← hf]
            show run s v = run (GB.step (x :: s) y) v
            unfold GB.step
            dsimp only
            rw [if_pos zx]
          have hW' : W (s.reverse ++ v) := by
            intro c hc
            refine hW c ?_
            rcases List.mem_append.mp hc with q | q
            · exact List.mem_append_left _ (by simp at q ⊢; exact .inl q)
            · exact List.mem_append_right _ (List.mem_cons_of_mem _ q)
          by_cases z0 : at' = 0
          · subst z0
            have s0 : s = [] := List.length_eq_zero_iff.mp hs
            subst s0
            cases v with
            | nil => exact .inr ⟨_, _, k - 1, hwt, .inl wb, by omega, [], [], 0, rfl, .nil, by simp, .inl ⟨rfl, rfl, rfl⟩, hf', by simp at hk ⊢; omega⟩
            | cons c v => exact .inr ⟨_, _, k - 1, hwt, .inl wb, by omega, [c], v, 0, rfl, hW', by simp at hl ⊢; omega, .inr rfl, hf', by simp at hk ⊢; omega⟩
          · exact .inr ⟨_, _, k - 1, hwt, .inl wb, by omega, s, v, at' - 1, rfl, hW', by simp [hs]; omega, .inr (by omega), hf', by simp [hs]; omega⟩
        · rw [if_neg z] at wb
          have zx : ¬ x = bk y := fun q => z (by rw [q, bk_bk hy])
          have hf' : run (y :: x :: s) v = fin := by
            rw [← hf]
            show run _ v = run (GB.step (x :: s) y) v
            unfold GB.step
            dsimp only
            rw [if_neg zx]
          have e : (x :: s).reverse ++ y :: v = (y :: x :: s).reverse ++ v := by simp
          refine .inr ⟨_, _, k - 1, hwt, .inl wb, by omega, y :: x :: s, v, at' + 1, by rw [e], by rw [← e]; exact hW, by rw [← e, len, List.length_cons]; exact hl, .inr (by simp [hs]), hf', by rw [← e, len, List.length_cons]; omega⟩
theorem law_reduced_eq {w : List Nat} (h : W w) (hl : w.length ≤ 1000000) : F__law_reduced [.fz (.str w)] = .ok (.fz (.str (red w))) [.fz (.str w)] := by
  have st : ∃ (s v : List Nat), w = s.reverse ++ v ∧ ((s = [] ∧ v = [] ∧ (0 : Nat) = 0) ∨ s.length = 0 + 1) ∧ run s v = run [] w := by
    cases w with
    | nil => exact ⟨[], [], rfl, .inl ⟨rfl, rfl, rfl⟩, rfl⟩
    | cons c v => exact ⟨[c], v, rfl, .inr rfl, rfl⟩
  obtain ⟨s, v, e, h1, h2⟩ := st
  obtain ⟨r', y, at', rfl⟩ := red_while (run [] w) (2 * w.length + 2) _ ⟨s, v, 0, rfl, e ▸ h, e ▸ hl, h1, h2, by rw [← e]; omega⟩
  rw [← e] at y
  have y : fWhile wt__law_reduced_1 wb__law_reduced_1 [some (.fz (.str w)), some (.fz (.int 0))] = _ := y
  rw [F__law_reduced_eq]; unfold red
  simp only [s_runF, b__law_reduced]
  simp [y]
theorem some_turn {k : List (Key × D)} (t : Feed k) {m : Nat} (h1 : 1 ≤ m) (h6 : m ≤ 6) {mo d : D} : ∃ k' c, Feed k' ∧ c ∈ sgn m ∧
    cturn (gNm 4) eYes ce__law_some_1 [4] d [some (.bd k), some (.fz (.int (m : Nat))), some (.fz mo), some (.fz (.str (sgn m))), none] = some ([sgD c], [some (.bd k'), some (.fz (.int (m : Nat))), some (.fz mo), some (.fz (.str (sgn m))), none]) := by
  obtain ⟨v, k', h0, hv, t', y⟩ := draw_eq t (many := 2 * (m : Int)) (by omega) (by omega)
  obtain ⟨n, rfl⟩ := Int.eq_ofNat_of_zero_le h0
  have hl := sgn_len h6
  have hn : n < (sgn m).length := by omega
  have a1 : atI (sgn m) (n : Int) = some (sgn m)[n] := by rw [atI_n]; exact List.getElem?_eq_getElem hn
  have hb : big (sgn m).length = true := big_of (by omega)
  refine ⟨k', (sgn m)[n], t', List.getElem_mem hn, ?_⟩
  simp [cturn, ce__law_some_1, y, a1, hb, sgD]
theorem some_eqM {k : List (Key × D)} (t : Feed k) {m mo : Nat} (h1 : 1 ≤ m) (h6 : m ≤ 6) (hmo : mo ≤ 1000) : ∃ k' w, Feed k' ∧ (∀ c ∈ w, c ∈ sgn m) ∧ w.length ≤ mo ∧
    F__law_some [.bd k, .fz (.int (m : Nat)), .fz (.int (mo : Nat))] = .ok (.fz (.str w)) [.bd k', .fz (.int (m : Nat)), .fz (.int (mo : Nat))] := by
  obtain ⟨v, k1, h0, hv, t1, y⟩ := draw_eq t (many := (mo : Int) + 1) (by omega) (by omega)
  obtain ⟨n, rfl⟩ := Int.eq_ofNat_of_zero_le h0
  obtain ⟨r', acc, yc, k2, cs, t2, hw, hlen, rfl, rfl⟩ := cmpL_go (fg := gNm 4) (ft := eYes) (fe := ce__law_some_1) (vs := [4]) (fun i r acc => ∃ k cs, Feed k ∧ (∀ c ∈ cs, c ∈ sgn m) ∧ cs.length = i ∧ acc = cs.map sgD ∧ r = [some (.bd k), some (.fz (.int (m : Nat))), some (.fz (.int (mo : Nat))), some (.fz (.str (sgn m))), none])
    (ds := upFrom 0 n) (acc := []) (r := [some (.bd k1), some (.fz (.int (m : Nat))), some (.fz (.int (mo : Nat))), some (.fz (.str (sgn m))), none]) 0 (by rw [upFrom_len]; simp; omega) ⟨k1, [], t1, (fun c hc => nomatch hc), rfl, rfl, rfl⟩ (by
      rintro i d r acc hd ⟨k, cs, t, hw, hl, rfl, rfl⟩
      obtain ⟨k', c, t', hc, y⟩ := some_turn t h1 h6 (mo := .int (mo : Nat)) (d := d)
      exact ⟨_, _, y, k', cs ++ [c], t', fun x hx => (List.mem_append.mp hx).elim (hw x) fun z => by rw [List.mem_singleton] at z; subst z; exact hc, by rw [List.length_append, hl]; rfl, by simp, rfl⟩)
  rw [upFrom_len, Nat.zero_add] at hlen
  refine ⟨k2, cs, t2, hw, by omega, ?_⟩
  have hj := join_sg (cs := cs) (by omega)
  have e1' : fSl (.fz (.str [97, 98, 99, 100, 101, 102])) (.fz .non) (.fz (.int (m : Nat))) = some (.fz (.str ([97, 98, 99, 100, 101, 102].take m))) := sl_to (by simp) m
  have e2' : fSl (.fz (.str [65, 66, 67, 68, 69, 70])) (.fz .non) (.fz (.int (m : Nat))) = some (.fz (.str ([65, 66, 67, 68, 69, 70].take m))) := sl_to (by simp) m
  have ea : fAdd (.fz (.str ([97, 98, 99, 100, 101, 102].take m))) (.fz (.str ([65, 66, 67, 68, 69, 70].take m))) = some (.fz (.str (sgn m))) := by
    rw [s_addS, if_pos (big_of (by simp; omega))]; rfl
  have lc : eLc (eCons (eFn F__law_draw (eCons (eVar 0) (eCons (e2 (p2 fAdd) (eVar 2) (eC (.int 1))) eNil))) eNil) mkR1 (gNm 4) eYes ce__law_some_1 [4] [some (.bd k), some (.fz (.int (m : Nat))), some (.fz (.int (mo : Nat))), some (.fz (.str (sgn m))), none] = _ :=
    lc_fz (d := .int (n : Nat)) (r1 := [some (.bd k1), some (.fz (.int (m : Nat))), some (.fz (.int (mo : Nat))), some (.fz (.str (sgn m))), none]) (by simp [y]) (mkR1_n (by omega)) (by simp) yc
  rw [F__law_some_eq]
  simp only [s_runF, b__law_some]
  simp [-s_eLc, e1', e2', ea, lc, hj, -s_addS]
theorem some_eq {k : List (Key × D)} (t : Feed k) {m mo : Nat} (h1 : 1 ≤ m) (h6 : m ≤ 6) (hmo : mo ≤ 1000) : ∃ k' w, Feed k' ∧ W w ∧ w.length ≤ mo ∧
    F__law_some [.bd k, .fz (.int (m : Nat)), .fz (.int (mo : Nat))] = .ok (.fz (.str w)) [.bd k', .fz (.int (m : Nat)), .fz (.int (mo : Nat))] := by
  obtain ⟨k', w, t', h, hl, y⟩ := some_eqM t h1 h6 hmo
  exact ⟨k', w, t', fun c hc => sgn_w m c (h c hc), hl, y⟩
theorem drawn_turn {k : List (Key × D)} (t : Feed k) {m : Nat} (h1 : 1 ≤ m) (h6 : m ≤ 6) {w : List Nat} (hw : W w) (hl : w.length ≤ 1000) {x2 x3 x5 x6 x7 x8 : Option S} (s6 : sf x6) (s7 : sf x7) :
    ∃ k' w' y6 y7, Feed k' ∧ W w' ∧ w'.length = w.length + 2 ∧ sf y6 ∧ sf y7 ∧ fb__law_drawn_1 [some (.bd k), some (.fz (.int (m : Nat))), x2, x3, some (.fz (.str w)), x5, x6, x7, x8] =
      .nx [some (.bd k'), some (.fz (.int (m : Nat))), x2, x3, some (.fz (.str w')), x5, y6, y7, x8] := by
  obtain ⟨v1, k1, g1, l1, t1, y1⟩ := draw_eq t (many := (w.length : Int) + 1) (by omega) (by omega)
  obtain ⟨a, rfl⟩ := Int.eq_ofNat_of_zero_le g1
  obtain ⟨v2, k2, g2, l2, t2, y2⟩ := draw_eq t1 (many := (m : Int)) (by omega) (by omega)
  obtain ⟨b, rfl⟩ := Int.eq_ofNat_of_zero_le g2
  obtain ⟨v3, k3, g3, l3, t3, y3⟩ := draw_eq t2 (many := 2) (by omega) (by omega)
  have hb : big w.length = true := big_of (by omega)
  have hbm : b < 6 := by omega
  have ab : atI [97, 98, 99, 100, 101, 102] (b : Int) = some (97 + b) := by
    rw [atI_n]
    have : ∀ j, j < 6 → [97, 98, 99, 100, 101, 102][j]? = some (97 + j) := by decide
    exact this b hbm
  have up : fUpper (.fz (.str [97 + b])) = some (.fz (.str [65 + b])) := by
    have z1 : 97 + b < 128 := by omega
    have z2 : up1 (97 + b) = 65 + b := by unfold up1; rw [if_pos (by omega)]; omega
    simp [fUpper, upL, z1, z2]
  have s1 := sl_to (w := w) (by omega) a
  have s2 := sl_from (w := w) (by omega) a
  have fin : ∀ c, isL c = true → F__law_back [.fz (.str [c])] = .ok (.fz (.str [bk c])) [.fz (.str [c])] ∧ W (w.take a ++ [c] ++ [bk c] ++ w.drop a) ∧ (w.take a ++ [c] ++ [bk c] ++ w.drop a).length = w.length + 2 := fun c hc =>
    ⟨law_back_eq (w := [c]) (W.cons hc .nil) (by simp), (((hw.take a).app (.cons hc .nil)).app (.cons (bk_isL hc) .nil)).app (hw.drop a), by simp; omega⟩
  have q1 : big ((w.take a).length + 1) = true := big_of (by rw [List.length_take]; omega)
  have q2 : big ((w.take a).length + 1 + 1) = true := big_of (by rw [List.length_take]; omega)
  have q3 : big ((w.take a).length + 1 + 1 + (w.drop a).length) = true := big_of (by rw [List.length_take, List.length_drop]; omega)
  have hv3 : v3 = 0 ∨ v3 = 1 := by omega
  rcases hv3 with rfl | rfl
  · obtain ⟨f1, f2, f3⟩ := fin (97 + b) (isL_iff.mpr (by omega))
    refine ⟨k3, _, some (.fz (.int (a : Nat))), some (.fz (.str [97 + b])), t3, f2, f3, sf_f, sf_f, ?_⟩
    rcases s6 with rfl | ⟨d, rfl⟩ <;> rcases s7 with rfl | ⟨d', rfl⟩ <;>
      simp [fb__law_drawn_1, hb, y1, y2, y3, ab, up, f1, s1, s2, q1, q2, q3, -List.length_take, -List.length_drop, -List.append_assoc, show big 6 = true from rfl] <;> simp
  · obtain ⟨f1, f2, f3⟩ := fin (65 + b) (isL_iff.mpr (by omega))
    refine ⟨k3, _, some (.fz (.int (a : Nat))), some (.fz (.str [65 + b])), t3, f2, f3, sf_f, sf_f, ?_⟩
    rcases s6 with rfl | ⟨d, rfl⟩ <;> rcases s7 with rfl | ⟨d', rfl⟩ <;>
      simp [fb__law_drawn_1, hb, y1, y2, y3, ab, up, f1, s1, s2, q1, q2, q3, -List.length_take, -List.length_drop, -List.append_assoc, show big 6 = true from rfl] <;> simp
theorem drawn_for {k : List (Key × D)} (t : Feed k) {m : Nat} (h1 : 1 ≤ m) (h6 : m ≤ 6) {w : List Nat} (hw : W w) (hl : w.length ≤ 100) {n : Nat} (hn : n ≤ 100) {x2 x3 : Option S} : ∃ r', forL (gNm 5) fb__law_drawn_1 (upFrom 0 n) [some (.bd k), some (.fz (.int (m : Nat))), x2, x3, some (.fz (.str w)), none, none, none, none] = .nx r' ∧
    ∃ k' w' y5 y6 y7, Feed k' ∧ W w' ∧ w'.length = w.length + 2 * n ∧ r' = [some (.bd k'), some (.fz (.int (m : Nat))), x2, x3, some (.fz (.str w')), y5, y6, y7, none] := by
  obtain ⟨r', y, k', w', y5, y6, y7, s5, s6, s7, t', hw', hl', e⟩ := forL_inv (fg := gNm 5) (f := fb__law_drawn_1) (ds := upFrom 0 n) (fun i r => ∃ k' w' y5 y6 y7, sf y5 ∧ sf y6 ∧ sf y7 ∧ Feed k' ∧ W w' ∧ w'.length = w.length + 2 * i ∧ r = [some (.bd k'), some (.fz (.int (m : Nat))), x2, x3, some (.fz (.str w')), y5, y6, y7, none])
    (r := [some (.bd k), some (.fz (.int (m : Nat))), x2, x3, some (.fz (.str w)), none, none, none, none]) ⟨k, w, none, none, none, sf_n, sf_n, sf_n, t, hw, rfl, rfl⟩ (by
      rintro i d r hd ⟨k', w', y5, y6, y7, s5, s6, s7, t', hw', hl', rfl⟩
      obtain ⟨hi, rfl⟩ := upFrom_get hd
      obtain ⟨k2, w2, z6, z7, t2, hw2, hl2, u6, u7, y⟩ := drawn_turn t' h1 h6 hw' (by omega) (x2 := x2) (x3 := x3) (x5 := some (.fz (.int (0 + (i : Nat))))) (x8 := none) s6 s7
      refine ⟨_, ?_, _, .inl y, k2, w2, _, z6, z7, sf_f, u6, u7, t2, hw2, by omega, rfl⟩
      rcases s5 with rfl | ⟨d, rfl⟩ <;> simp)
  rw [upFrom_len] at hl'
  exact ⟨r', y, k', w', y5, y6, y7, t', hw', hl', e⟩
theorem drawn3 {k k1 k2 k3 k4 : List (Key × D)} {m mo v2 : Int} {w o u : List Nat} (y1 : F__law_draw [.bd k, .fz (.int 4)] = .ok (.fz (.int 3)) [.bd k1, .fz (.int 4)]) (y2 : F__law_some [.bd k1, .fz (.int m), .fz (.int (mo / 4))] = .ok (.fz (.str w)) [.bd k2, .fz (.int m), .fz (.int (mo / 4))])
    (y3 : F__law_some [.bd k2, .fz (.int m), .fz (.int (mo / 4))] = .ok (.fz (.str o)) [.bd k3, .fz (.int m), .fz (.int (mo / 4))]) (y4 : F__law_draw [.bd k3, .fz (.int 3)] = .ok (.fz (.int v2)) [.bd k4, .fz (.int 3)]) (mm : qMul [.fz (.str w), .fz (.int (1 + v2))] = some (.fz (.str u))) (q1 : big (u.length + o.length) = true) :
    F__law_drawn [.bd k, .fz (.int m), .fz (.int mo)] = .ok (.fz (.str (u ++ o))) [.bd k4, .fz (.int m), .fz (.int mo)] := by
  rw [F__law_drawn_eq]
  simp only [s_runF, b__law_drawn]
  simp [-s_fFor, -s_qMulS, y1, y2, y3, y4, fDivI, mm, q1]
theorem drawn_eq {k : List (Key × D)} (t : Feed k) {m mo : Nat} (h1 : 1 ≤ m) (h6 : m ≤ 6) (hm1 : 4 ≤ mo) (hmo : mo ≤ 40) : ∃ k' w, Feed k' ∧ W w ∧ w.length ≤ mo ∧
    F__law_drawn [.bd k, .fz (.int (m : Nat)), .fz (.int (mo : Nat))] = .ok (.fz (.str w)) [.bd k', .fz (.int (m : Nat)), .fz (.int (mo : Nat))] := by
  obtain ⟨v, k1, g1, l1, t1, y1⟩ := draw_eq t (many := 4) (by omega) (by omega)
  have c4 : (mo : Int) / 4 = ((mo / 4 : Nat) : Int) := by omega
  have hv : v = 0 ∨ v = 1 ∨ v = 2 ∨ v = 3 := by omega
  have big' : ∀ n, n ≤ 1000 → big n = true := fun n h => big_of (by omega)
  rcases hv with rfl | rfl | rfl | rfl
  · obtain ⟨k2, w, t2, hw, hl, y2⟩ := some_eq t1 h1 h6 (mo := mo) (by omega)
    obtain ⟨k3, o, t3, ho, hlo, y3⟩ := some_eq t2 h1 h6 (mo := mo / 4) (by omega)
    refine ⟨k3, w, t3, hw, by omega, ?_⟩
    rw [F__law_drawn_eq]
    simp only [s_runF, b__law_drawn]
    rw [← c4] at y3
    simp [-s_fFor, y1, y2, y3, fDivI]
  · obtain ⟨k2, w, t2, hw, hl, y2⟩ := some_eq t1 h1 h6 (mo := mo / 4) (by omega)
    obtain ⟨v2, k3, g3, l3, t3, y3⟩ := draw_eq t2 (many := ((mo / 4 : Nat) : Int)) (by omega) (by omega)
    obtain ⟨n, rfl⟩ := Int.eq_ofNat_of_zero_le g3
    obtain ⟨r', yf, k4, w4, z5, z6, z7, t4, hw4, hl4, rfl⟩ := drawn_for t3 h1 h6 hw (by omega) (n := 1 + n) (by omega) (x2 := some (.fz (.int (mo : Nat)))) (x3 := some (.fz (.int 1)))
    obtain ⟨k5, o, t5, ho, hlo, y5⟩ := some_eq t4 h1 h6 (mo := mo / 4) (by omega)
    rw [← c4] at y2 y3 y5
    have lp : fFor (eCons (e2 (p2 fAdd) (eC (.int 1)) (eFn F__law_draw (eCons (eVar 0) (eCons (e2 (p2 (fInts fDivI)) (eVar 2) (eC (.int 4))) eNil)))) eNil) mkR1 (gNm 5) fb__law_drawn_1 [some (.bd k2), some (.fz (.int (m : Nat))), some (.fz (.int (mo : Nat))), some (.fz (.int 1)), some (.fz (.str w)), none, none, none, none] = _ :=
      (for_r1 (n := 1 + n) (by simp [y3, fDivI]) (by omega)).trans yf
    refine ⟨k5, w4, t5, hw4, by omega, ?_⟩
    rw [F__law_drawn_eq]
    simp only [s_runF, b__law_drawn]
    simp [-s_fFor, y1, y2, y5, fDivI, lp]
  · obtain ⟨k2, w, t2, hw, hl, y2⟩ := some_eq t1 h1 h6 (mo := mo / 4) (by omega)
    obtain ⟨k3, o, t3, ho, hlo, y3⟩ := some_eq t2 h1 h6 (mo := mo / 4) (by omega)
    have hb := law_back_eq ho (by omega)
    refine ⟨k3, o ++ w ++ bkw o, t3, (ho.app hw).app ho.bkw, by simp [bkw_len]; omega, ?_⟩
    have q1 := big' (o.length + w.length) (by omega)
    have q2 := big' (o.length + w.length + (bkw o).length) (by rw [bkw_len]; omega)
    rw [← c4] at y2 y3
    rw [F__law_drawn_eq]
    simp only [s_runF, b__law_drawn]
    simp [-s_fFor, y1, y2, y3, fDivI, hb, q1, q2]
  · obtain ⟨k2, w, t2, hw, hl, y2⟩ := some_eq t1 h1 h6 (mo := mo / 4) (by omega)
    obtain ⟨k3, o, t3, ho, hlo, y3⟩ := some_eq t2 h1 h6 (mo := mo / 4) (by omega)
    obtain ⟨v2, k4, g4, l4, t4, y4⟩ := draw_eq t3 (many := 3) (by omega) (by omega)
    have hr : (rep w (1 + v2).toNat).length ≤ 3 * (mo / 4) := by
      unfold rep; rw [rep_len]
      exact Nat.mul_le_mul (by omega) hl
    have mm : qMul [.fz (.str w), .fz (.int (1 + v2))] = some (.fz (.str (rep w (1 + v2).toNat))) := by
      have : w.length * (1 + v2).toNat ≤ 10 * 3 := Nat.mul_le_mul (by omega) (by omega)
      exact mulS_k (by omega) (by omega) (by omega)
    rw [← c4] at y2 y3
    exact ⟨k4, rep w (1 + v2).toNat ++ o, t4, (rep_w hw _).app ho, by rw [List.length_append]; omega, drawn3 y1 y2 y3 y4 mm (big' _ (by omega))⟩
theorem lmid_turn {w s : List Nat} (h : W s) (hl : s.length ≤ 1000000) : wt__law_middle_1 [some (.fz (.str w)), some (.fz (.str s))] = .ok (endsUndo s 0) [some (.fz (.str w)), some (.fz (.str s))] ∧
    (endsUndo s 0 = true → wb__law_middle_1 [some (.fz (.str w)), some (.fz (.str s))] = .nx [some (.fz (.str w)), some (.fz (.str ((s.take (s.length - 1)).drop 1)))]) := by
  have hb : big s.length = true := big_of (by omega)
  unfold endsUndo
  by_cases c : 1 < s.length
  · have g1 : 0 < s.length := by omega
    have g2 : s.length - 1 < s.length := by omega
    have a1 : s[0]? = some s[0] := List.getElem?_eq_getElem g1
    have a2 : atI s ((s.length : Int) - 1) = some s[s.length - 1] := by
      rw [show (s.length : Int) - 1 = ((s.length - 1 : Nat) : Int) from by omega, atI_n]
      exact List.getElem?_eq_getElem g2
    have bo := law_back_eq (w := [s[s.length - 1]]) (W.cons (h _ (List.getElem_mem g2)) .nil) (by simp)
    have bo : F__law_back [.fz (.str [s[s.length - 1]])] = .ok (.fz (.str [bk s[s.length - 1]])) [.fz (.str [s[s.length - 1]])] := bo
    have c' : (1 : Int) < (s.length : Int) := by omega
    have s2 := sl_nn (w := s) (by omega) 1 (s.length - 1)
    have e : ((s.length - 1 : Nat) : Int) = (s.length : Int) - 1 := by omega
    rw [e] at s2
    have s2 : fSl (.fz (.str s)) (.fz (.int 1)) (.fz (.int ((s.length : Int) - 1))) = _ := s2
    rw [List.getElem?_eq_getElem (show s.length - 1 - 0 < s.length from by omega), a1]
    constructor
    · simp [wt__law_middle_1, hb, a1, a2, bo, c, c']
    · intro _
      simp [wb__law_middle_1, hb, a1, a2, s2, -List.length_take, -List.length_drop, -List.drop_one]
  · have c' : ¬ (1 : Int) < (s.length : Int) := by omega
    have c2 : ¬ 2 * 0 + 1 < s.length := by omega
    constructor
    · simp [wt__law_middle_1, hb, c, c', c2]
    · intro z
      rw [decide_eq_false c2] at z
      cases z
theorem undo_mid {s : List Nat} {k : Nat} (h : 2 * k ≤ s.length) : endsUndo (midK s k) 0 = endsUndo s k := by
  unfold endsUndo
  rw [midK_len]
  by_cases c : 2 * k + 1 < s.length
  · have c2 : 2 * 0 + 1 < s.length - 2 * k := by omega
    rw [midK_at (by omega), midK_at (by omega)]
    have e : k + (s.length - 2 * k - 1 - 0) = s.length - 1 - k := by omega
    rw [e, decide_eq_true c, decide_eq_true c2, Nat.add_zero]
  · have c2 : ¬ 2 * 0 + 1 < s.length - 2 * k := by omega
    rw [decide_eq_false c, decide_eq_false c2]; rfl
theorem lmid_while {w s : List Nat} (h : W s) (hl : s.length ≤ 1000000) : ∀ n r, (∃ k : Nat, r = [some (.fz (.str w)), some (.fz (.str (midK s k)))] ∧ coreK s n k = coreN s ∧ n + k = s.length ∧ 2 * k ≤ s.length) →
    ∃ r', fWhile wt__law_middle_1 wb__law_middle_1 r = .nx r' ∧ r' = [some (.fz (.str w)), some (.fz (.str (midK s (coreN s))))] := by
  refine fWhile_go _ _ ?_
  rintro n r ⟨k, rfl, hk, hn, h2⟩
  obtain ⟨wt, wb⟩ := lmid_turn (w := w) (midK_w h k) (by rw [midK_len]; omega)
  rw [undo_mid h2] at wt wb
  cases c : endsUndo s k with
  | false =>
    rw [c] at wt
    refine .inl ⟨_, wt, ?_⟩
    have : coreK s n k = k := by
      cases n with
      | zero => rfl
      | succ n => unfold coreK; rw [c]; rfl
    rw [← hk, this]
  | true =>
    rw [c] at wt
    have lt := endsUndo_lt c
    cases n with
    | zero => omega
    | succ n =>
      have wb := wb c
      rw [midK_succ] at wb
      refine .inr ⟨_, _, n, wt, .inl wb, Nat.lt_succ_self _, k + 1, rfl, ?_, by omega, by omega⟩
      rw [← hk]
      conv => rhs; unfold coreK
      rw [c]; rfl
theorem lmid_eq {w : List Nat} (h : W w) (hl : w.length ≤ 1000000) : F__law_middle [.fz (.str w)] = .ok (.fz (.str (midK (red w) (coreN (red w))))) [.fz (.str w)] := by
  have r1 := law_reduced_eq h hl
  have rl := red_len w
  have rw' := red_w h
  generalize red w = s at *
  have m0 : midK s 0 = s := by unfold midK; simp
  obtain ⟨r', y, rfl⟩ := lmid_while (w := w) rw' (by omega) s.length _ ⟨0, rfl, rfl, rfl, by omega⟩
  rw [m0] at y
  rw [F__law_middle_eq]
  simp only [s_runF, b__law_middle]
  simp [r1, y]
theorem lt_run {w s1 s2 t : List Nat} {k : Int} {l : List (List Nat)} {x0 x2 x5 : Option S} (h5 : sf x5) (e1' : fSl (.fz (.str w)) (.fz (.int k)) (.fz .non) = some (.fz (.str s1))) (e2' : fSl (.fz (.str w)) (.fz .non) (.fz (.int k)) = some (.fz (.str s2))) (e3' : fAdd (.fz (.str s1)) (.fz (.str s2)) = some (.fz (.str t))) (hl : l.length < 16777216) :
    fb__law_turns_of_1 [x0, some (.ol (l.map D.str)), x2, some (.fz (.str w)), some (.fz (.int k)), x5] = .nx [x0, some (.ol ((addO l t).map D.str)), x2, some (.fz (.str w)), some (.fz (.int k)), some (.fz (.str t))] := by
  have i := notIn_ws l t
  have hl' : (l.map D.str).length < 16777216 := by rw [List.length_map]; exact hl
  unfold addO
  by_cases c : t ∈ l
  · rw [decide_eq_true c] at i
    rw [if_pos c]
    generalize l.map D.str = L at *
    rcases h5 with rfl | ⟨z, rfl⟩ <;> simp [fb__law_turns_of_1, e1', e2', e3', i, -s_addS]
  · rw [decide_eq_false c] at i
    rw [if_neg c, List.map_append]
    generalize l.map D.str = L at *
    rcases h5 with rfl | ⟨z, rfl⟩ <;> simp [fb__law_turns_of_1, e1', e2', e3', i, -s_addS, hl']
theorem lt_for {w : List Nat} (hw : w.length ≤ 1000) {x0 x2 : Option S} : ∀ (ks : List Nat) {l : List (List Nat)} {x4 x5 : Option S}, (∀ k ∈ ks, k ≤ w.length) → sf x4 → sf x5 → l.length + ks.length < 16777216 → ∃ x4' x5', sf x4' ∧ sf x5' ∧
    forL (gNm 4) fb__law_turns_of_1 (ks.map fun k => D.int (k : Nat)) [x0, some (.ol (l.map D.str)), x2, some (.fz (.str w)), x4, x5] = .nx [x0, some (.ol ((addAll l (ks.map (rot w))).map D.str)), x2, some (.fz (.str w)), x4', x5']
  | [], l, x4, x5, _, h4, h5, _ => ⟨x4, x5, h4, h5, rfl⟩
  | k :: ks, l, x4, x5, hk, h4, h5, hl => by
    rw [List.length_cons] at hl
    obtain ⟨a, b, ha, hb, y⟩ := lt_for hw (x0 := x0) (x2 := x2) ks (l := addO l (rot w k)) (x4 := some (.fz (.int (k : Nat)))) (x5 := some (.fz (.str (rot w k)))) (fun k hk' => hk k (List.mem_cons_of_mem _ hk')) sf_f sf_f (by have := addO_len l (rot w k); omega)
    refine ⟨a, b, ha, hb, ?_⟩
    have s1 := sl_from (w := w) (by omega) k
    have s2 := sl_to (w := w) (by omega) k
    have ad : fAdd (.fz (.str (w.drop k))) (.fz (.str (w.take k))) = some (.fz (.str (rot w k))) := by
      rw [s_addS, if_pos (big_of (by rw [List.length_drop, List.length_take]; omega))]; rfl
    have e := lt_run (x0 := x0) (x2 := x2) h5 s1 s2 ad (l := l) (by omega)
    have g : gNm 4 (.int (k : Nat)) [x0, some (.ol (l.map D.str)), x2, some (.fz (.str w)), x4, x5] = some [x0, some (.ol (l.map D.str)), x2, some (.fz (.str w)), some (.fz (.int (k : Nat))), x5] := by
      rcases h4 with rfl | ⟨z, rfl⟩ <;> simp
    rw [List.map_cons, forL, g]
    dsimp only
    rw [e]
    exact y
theorem lt_word {w : List Nat} (hw : w.length ≤ 1000) (h1 : w ≠ []) {l : List (List Nat)} (hl : l.length ≤ 100000) {x0 x2 x4 x5 : Option S} (h4 : sf x4) (h5 : sf x5) : ∃ x4' x5', sf x4' ∧ sf x5' ∧
    fb__law_turns_of_2 [x0, some (.ol (l.map D.str)), x2, some (.fz (.str w)), x4, x5] = .nx [x0, some (.ol ((addAll l (turnsL w)).map D.str)), x2, some (.fz (.str w)), x4', x5'] := by
  obtain ⟨a, b, ha, hb, y⟩ := lt_for hw (x0 := x0) (x2 := x2) (List.range w.length) (l := l) (fun k hk => by rw [List.mem_range] at hk; omega) h4 h5 (by rw [List.length_range]; omega)
  refine ⟨a, b, ha, hb, ?_⟩
  have e1' : max 1 w.length = w.length := by
    have : 0 < w.length := List.length_pos_iff.mpr h1
    omega
  have e2' : turnsL w = (List.range w.length).map (rot w) := by unfold turnsL; rw [e1']
  rw [e2', ← y]
  have e3' : (List.range w.length).map (fun k => D.int ((k : Nat) : Int)) = upFrom 0 w.length := by
    have := upFrom_map (lo := 0) (n := w.length)
    simp only [Nat.zero_add] at this
    exact this.symm
  rw [e3']
  refine for_r1 (n := w.length) ?_ (by omega)
  simp [big_of (show w.length ≤ 16777216 by omega)]
theorem lt_ring {r : List Nat} (hr : W r) (hl : r.length ≤ 1000) (h1 : r ≠ []) {l : List (List Nat)} (hll : l.length ≤ 50000) {x0 x3 x4 x5 : Option S} (h3 : sf x3) (h4 : sf x4) (h5 : sf x5) : ∃ x3' x4' x5', sf x3' ∧ sf x4' ∧ sf x5' ∧
    fb__law_turns_of_3 [x0, some (.ol (l.map D.str)), some (.fz (.str r)), x3, x4, x5] = .nx [x0, some (.ol ((addAll (addAll l (turnsL r)) (turnsL (bkw r))).map D.str)), some (.fz (.str r)), x3', x4', x5'] := by
  have n1 := addAll_len (turnsL r) l
  rw [turnsL_len] at n1
  obtain ⟨a4, a5, g4, g5, y1⟩ := lt_word hl h1 (l := l) (by omega) (x0 := x0) (x2 := some (.fz (.str r))) h4 h5
  obtain ⟨b4, b5, k4, k5, y2⟩ := lt_word (w := bkw r) (by rw [bkw_len]; exact hl) (fun z => h1 (by have := congrArg List.length z; rw [bkw_len] at this; exact List.length_eq_zero_iff.mp this)) (l := addAll l (turnsL r)) (by omega) (x0 := x0) (x2 := some (.fz (.str r))) g4 g5
  refine ⟨some (.fz (.str (bkw r))), b4, b5, sf_f, k4, k5, ?_⟩
  have lp : forL (gNm 3) fb__law_turns_of_2 [.str r, .str (bkw r)] [x0, some (.ol (l.map D.str)), some (.fz (.str r)), x3, x4, x5] = .nx [x0, some (.ol ((addAll (addAll l (turnsL r)) (turnsL (bkw r))).map D.str)), some (.fz (.str r)), some (.fz (.str (bkw r))), b4, b5] := by
    have g : gNm 3 (.str r) [x0, some (.ol (l.map D.str)), some (.fz (.str r)), x3, x4, x5] = some [x0, some (.ol (l.map D.str)), some (.fz (.str r)), some (.fz (.str r)), x4, x5] := by
      rcases h3 with rfl | ⟨z, rfl⟩ <;> simp
    rw [forL, g]
    dsimp only
    rw [y1]
    dsimp only
    have g2 : gNm 3 (.str (bkw r)) [x0, some (.ol ((addAll l (turnsL r)).map D.str)), some (.fz (.str r)), some (.fz (.str r)), a4, a5] = some [x0, some (.ol ((addAll l (turnsL r)).map D.str)), some (.fz (.str r)), some (.fz (.str (bkw r))), a4, a5] := by simp
    rw [forL, g2]
    dsimp only
    rw [y2]
    rfl
  rw [← lp]
  have lb := law_back_eq hr (by omega)
  refine for_fz (d := .tup [.str r, .str (bkw r)]) ?_ rfl
  simp [lb]
theorem lt_rings {x0 : Option S} : ∀ {rs l : List (List Nat)} {x2 x3 x4 x5 : Option S}, sf x2 → sf x3 → sf x4 → sf x5 → (∀ r ∈ rs, W r ∧ r.length ≤ 1000 ∧ r ≠ []) → l.length + rs.length * 2002 ≤ 50000 → ∃ x2' x3' x4' x5',
    forL (gNm 2) fb__law_turns_of_3 (rs.map D.str) [x0, some (.ol (l.map D.str)), x2, x3, x4, x5] = .nx [x0, some (.ol ((rs.foldl (fun l r => addAll (addAll l (turnsL r)) (turnsL (bkw r))) l).map D.str)), x2', x3', x4', x5']
  | [], l, x2, x3, x4, x5, _, _, _, _, _, _ => ⟨x2, x3, x4, x5, rfl⟩
  | r :: rs, l, x2, x3, x4, x5, h2, h3, h4, h5, hr, hl => by
    rw [List.length_cons] at hl
    obtain ⟨hw, hrl, hne⟩ := hr r (List.mem_cons_self ..)
    obtain ⟨a3, a4, a5, g3, g4, g5, y⟩ := lt_ring hw hrl hne (l := l) (by omega) (x0 := x0) h3 h4 h5
    have n1 := addAll_len (turnsL r) l
    have n2 := addAll_len (turnsL (bkw r)) (addAll l (turnsL r))
    rw [turnsL_len] at n1 n2
    rw [bkw_len] at n2
    obtain ⟨b2, b3, b4, b5, y2⟩ := lt_rings (x0 := x0) (rs := rs) (l := addAll (addAll l (turnsL r)) (turnsL (bkw r))) (x2 := some (.fz (.str r))) sf_f g3 g4 g5 (fun r hr' => hr r (List.mem_cons_of_mem _ hr')) (by omega)
    refine ⟨b2, b3, b4, b5, ?_⟩
    have g : gNm 2 (.str r) [x0, some (.ol (l.map D.str)), x2, x3, x4, x5] = some [x0, some (.ol (l.map D.str)), some (.fz (.str r)), x3, x4, x5] := by
      rcases h2 with rfl | ⟨z, rfl⟩ <;> simp
    rw [List.map_cons, forL, g]
    dsimp only
    rw [y]
    exact y2
theorem lturns_br {rs : List (List Nat)} (h : okRs rs) : F__law_turns_of [.br (rs.map D.str)] = .ok (.ol ((knownL rs).map D.str)) [.br (rs.map D.str)] := by
  obtain ⟨a, b, c, d, y⟩ := lt_rings (x0 := some (.lk (rs.map D.str))) (rs := rs) (l := []) (x2 := none) (x3 := none) (x4 := none) (x5 := none) sf_n sf_n sf_n sf_n h.1 (by have := h.2; simp; omega)
  have lp := for_gen (fs := eCons (eVar 0) eNil) (mk := mkSeq) (fg := gNm 2) (f := fb__law_turns_of_3) (r := [some (.br (rs.map D.str)), some (.ol []), none, none, none, none]) (r1 := [some (.br (rs.map D.str)), some (.ol []), none, none, none, none]) (os := [.loc 0]) (ss := [.lk (rs.map D.str)]) (r2 := [some (.lk (rs.map D.str)), some (.ol []), none, none, none, none]) (u := [(0, .br (rs.map D.str))]) (by simp) (by simp) rfl
  rw [List.map_nil] at y
  rw [y] at lp
  have so := srtT (ws := turnsO rs)
  unfold turnsO at so
  rw [F__law_turns_of_eq]; unfold knownL turnsO
  simp [b__law_turns_of, lp, so, -s_fFor, mapFl]
theorem lshare_test {a b : List Nat} {k : Nat} (ha : a.length ≤ 1000000) (hb : b.length ≤ 1000000) (hk : k ≤ lcp a b) : wt__law_share_1 [some (.fz (.str a)), some (.fz (.str b)), some (.fz (.int (k : Nat)))] = .ok (decide (k < lcp a b)) [some (.fz (.str a)), some (.fz (.str b)), some (.fz (.int (k : Nat)))] := by
  have g1 : big a.length = true := big_of (by omega)
  have g2 : big b.length = true := big_of (by omega)
  obtain ⟨l1, l2⟩ := lcp_le a b
  have s1 := sl_to (w := a) (by omega) (k + 1)
  have s2 := sl_to (w := b) (by omega) (k + 1)
  rw [show (((k + 1 : Nat) : Int)) = (k : Int) + 1 from by omega] at s1 s2
  by_cases c1 : k < a.length ∧ k < b.length
  · have tl := take_lcp c1.1 c1.2 hk
    by_cases c : k < lcp a b
    · have e := tl.mpr c
      by_cases z : (b.length : Int) < (a.length : Int)
      · have q : (k : Int) < (b.length : Int) := by omega
        simp [wt__law_share_1, g1, g2, z, q, s1, s2, c, e]
      · have q : (k : Int) < (a.length : Int) := by omega
        simp [wt__law_share_1, g1, g2, z, q, s1, s2, c, e]
    · have e : ¬ a.take (k + 1) = b.take (k + 1) := fun h => c (tl.mp h)
      by_cases z : (b.length : Int) < (a.length : Int)
      · have q : (k : Int) < (b.length : Int) := by omega
        simp [wt__law_share_1, g1, g2, z, q, s1, s2, c, e]
      · have q : (k : Int) < (a.length : Int) := by omega
        simp [wt__law_share_1, g1, g2, z, q, s1, s2, c, e]
  · have c : ¬ k < lcp a b := by omega
    by_cases z : (b.length : Int) < (a.length : Int)
    · have q : ¬ (k : Int) < (b.length : Int) := by omega
      simp [wt__law_share_1, g1, g2, z, q, c]
    · have q : ¬ (k : Int) < (a.length : Int) := by omega
      simp [wt__law_share_1, g1, g2, z, q, c]
theorem lshare_eq {a b : List Nat} (ha : a.length ≤ 1000000) (hb : b.length ≤ 1000000) : F__law_share [.fz (.str a), .fz (.str b)] = .ok (.fz (.str (a.take (lcp a b)))) [.fz (.str a), .fz (.str b)] := by
  have st : ∀ k : Nat, wb__law_share_1 [some (.fz (.str a)), some (.fz (.str b)), some (.fz (.int (k : Nat)))] = .nx [some (.fz (.str a)), some (.fz (.str b)), some (.fz (.int ((k + 1 : Nat) : Int)))] := fun k => by simp [wb__law_share_1]
  obtain ⟨r', y, rfl⟩ := fWhile_go (ft := wt__law_share_1) (f := wb__law_share_1) (fun n r => ∃ k, k + n = lcp a b ∧ r = [some (.fz (.str a)), some (.fz (.str b)), some (.fz (.int (k : Nat)))]) (fun r => r = [some (.fz (.str a)), some (.fz (.str b)), some (.fz (.int ((lcp a b : Nat) : Int)))]) (by
    rintro n r ⟨k, hk, rfl⟩
    have tt := lshare_test ha hb (k := k) (by omega)
    by_cases c : k < lcp a b
    · rw [decide_eq_true c] at tt
      exact .inr ⟨_, _, n - 1, tt, .inl (st k), by omega, k + 1, by omega, rfl⟩
    · rw [decide_eq_false c] at tt
      exact .inl ⟨_, tt, by rw [show k = lcp a b from by omega]⟩) (lcp a b) [some (.fz (.str a)), some (.fz (.str b)), some (.fz (.int 0))] ⟨0, by omega, rfl⟩
  have s1 := sl_to (w := a) (by omega) (lcp a b)
  rw [F__law_share_eq]
  simp [b__law_share, y, s1]
theorem lthick_run {a b s : List Nat} {la ls : Int} {X : S} {x3 : Option S} (h3 : sf x3) (sh : F__law_share [.fz (.str a), .fz (.str b)] = .ok (.fz (.str s)) [.fz (.str a), .fz (.str b)]) (f1 : fLen (.fz (.str s)) = some (.fz (.int ls))) (f2 : fLen (.fz (.str a)) = some (.fz (.int la))) :
    fb__law_thick_1 [some X, some (.fz (.str a)), some (.fz (.str b)), x3] = (match (if decide (a ≠ b) && decide (la ≤ ls * 6) then some (S.fz (.tup [.str a, .str b, .str s])) else none) with | none => Fl.nx [some X, some (.fz (.str a)), some (.fz (.str b)), some (.fz (.str s))] | some v => .rt v [some X, some (.fz (.str a)), some (.fz (.str b)), some (.fz (.str s))]) := by
  by_cases c : a = b
  · subst c
    rcases h3 with rfl | ⟨z, rfl⟩ <;> simp [fb__law_thick_1, sh]
  · have c2 : ¬ b = a := fun z => c z.symm
    by_cases d : la ≤ ls * 6
    · rcases h3 with rfl | ⟨z, rfl⟩ <;> simp [fb__law_thick_1, c, c2, sh, f1, f2, d, -s_lenS]
    · rcases h3 with rfl | ⟨z, rfl⟩ <;> simp [fb__law_thick_1, c, c2, sh, f1, f2, d, -s_lenS]
theorem lthick_in {a b : List Nat} (ha : a.length ≤ 1000000) (hb : b.length ≤ 1000000) {X : S} {x3 : Option S} (h3 : sf x3) : ∃ x3', sf x3' ∧
    fb__law_thick_1 [some X, some (.fz (.str a)), some (.fz (.str b)), x3] = (match (if thickB a b then some (S.fz (pieceD a b)) else none) with | none => Fl.nx [some X, some (.fz (.str a)), some (.fz (.str b)), x3'] | some v => .rt v [some X, some (.fz (.str a)), some (.fz (.str b)), x3']) := by
  have sh := lshare_eq ha hb
  have hl : (a.take (lcp a b)).length = lcp a b := by rw [List.length_take]; have := (lcp_le a b).1; omega
  have f1 : fLen (.fz (.str (a.take (lcp a b)))) = some (.fz (.int ((lcp a b : Nat) : Int))) := by
    rw [s_lenS, hl]; exact if_pos (big_of (by have := (lcp_le a b).1; omega))
  have f2 : fLen (.fz (.str a)) = some (.fz (.int (a.length : Int))) := by
    rw [s_lenS]; exact if_pos (big_of (by omega))
  have h := lthick_run (X := X) h3 sh f1 f2
  have e : (decide (a ≠ b) && decide ((a.length : Int) ≤ ((lcp a b : Nat) : Int) * 6)) = thickB a b := by
    unfold thickB
    congr 1
    exact decide_eq_decide.mpr (by omega)
  rw [e] at h
  exact ⟨_, sf_f, h⟩
theorem lthick_row {l : List (List Nat)} (hw : ∀ b ∈ l, b.length ≤ 1000000) {a : List Nat} (ha : a.length ≤ 1000000) {X : S} (hX : Held X (l.map D.str)) {x2 x3 : Option S} (h2 : sf x2) (h3 : sf x3) : ∃ r2, (∃ x1 x2 x3, sf x1 ∧ sf x2 ∧ sf x3 ∧ r2 = [some X, x1, x2, x3]) ∧
    fb__law_thick_2 [some X, some (.fz (.str a)), x2, x3] = (match thickAt l a with | none => Fl.nx r2 | some v => .rt v r2) := by
  obtain ⟨r2, ⟨y2, y3, g2, g3, rfl⟩, y⟩ := forL_idx (fg := gNm 2) (f := fb__law_thick_1) (P := fun r => ∃ x2 x3, sf x2 ∧ sf x3 ∧ r = [some X, some (.fz (.str a)), x2, x3])
    (h := pickS l (thickB a) fun b => S.fz (pieceD a b)) (ds := l.map D.str) (r := [some X, some (.fz (.str a)), x2, x3]) 0 ⟨x2, x3, h2, h3, rfl⟩ (by
      rintro i d r hd ⟨x2, x3, h2, h3, rfl⟩
      rw [List.getElem?_map] at hd
      cases e : l[i]? with
      | none => rw [e] at hd; cases hd
      | some b =>
        rw [e] at hd; cases hd
        obtain ⟨x3', h3', y⟩ := lthick_in ha (hw b (List.mem_of_getElem? e)) (X := X) h3
        refine ⟨[some X, some (.fz (.str a)), some (.fz (.str b)), x3], ?_, _, ⟨some (.fz (.str b)), x3', sf_f, h3', rfl⟩, ?_⟩
        · rcases h2 with rfl | ⟨z, rfl⟩ <;> simp
        · rw [Nat.zero_add, pickS_at e]; exact y)
  rw [List.length_map, firstN_find (m := l) (k := 0) (fun i x h => by rw [Nat.zero_add]; exact h)] at y
  obtain ⟨la, mk⟩ := held_lock hX (r := [some X, some (.fz (.str a)), x2, x3]) rfl
  have lp := for_gen (fs := eCons (eVar 0) eNil) (fg := gNm 2) (f := fb__law_thick_1) (r := [some X, some (.fz (.str a)), x2, x3]) (r1 := [some X, some (.fz (.str a)), x2, x3]) (os := [.loc 0]) (by simp) la mk
  rw [y] at lp
  refine ⟨_, ⟨some (.fz (.str a)), y2, y3, sf_f, g2, g3, rfl⟩, ?_⟩
  show fFor _ _ _ _ _ = _
  rw [lp]
  unfold thickAt
  cases (l.find? (thickB a)).map fun b => S.fz (pieceD a b) <;> rfl
theorem lthick_go {l : List (List Nat)} (hw : ∀ b ∈ l, b.length ≤ 1000000) {X : S} (hX : Held X (l.map D.str)) : ∃ r2, (∃ x1 x2 x3, sf x1 ∧ sf x2 ∧ sf x3 ∧ r2 = [some X, x1, x2, x3]) ∧
    forL (gNm 1) fb__law_thick_2 (l.map D.str) [some X, none, none, none] = (match thickD l with | none => Fl.nx r2 | some v => .rt v r2) := by
  obtain ⟨r2, p2, y⟩ := forL_idx (fg := gNm 1) (f := fb__law_thick_2) (P := fun r => ∃ x1 x2 x3, sf x1 ∧ sf x2 ∧ sf x3 ∧ r = [some X, x1, x2, x3])
    (h := rowS l) (ds := l.map D.str) (r := [some X, none, none, none]) 0 ⟨none, none, none, sf_n, sf_n, sf_n, rfl⟩ (by
      rintro i d r hd ⟨x1, x2, x3, h1, h2, h3, rfl⟩
      rw [List.getElem?_map] at hd
      cases e : l[i]? with
      | none => rw [e] at hd; cases hd
      | some a =>
        rw [e] at hd; cases hd
        obtain ⟨r2, p2, y⟩ := lthick_row hw (hw a (List.mem_of_getElem? e)) hX h2 h3
        refine ⟨[some X, some (.fz (.str a)), x2, x3], ?_, r2, p2, ?_⟩
        · rcases h1 with rfl | ⟨z, rfl⟩ <;> simp
        · rw [Nat.zero_add, rowS_at e]; exact y)
  rw [List.length_map] at y
  exact ⟨r2, p2, y⟩
theorem lthick_fz {l : List (List Nat)} (hw : ∀ b ∈ l, b.length ≤ 1000000) : F__law_thick [.fz (.lst (l.map D.str))] = .ok (outS (thickD l)) [.fz (.lst (l.map D.str))] := by
  obtain ⟨r2, ⟨x1, x2, x3, h1, h2, h3, rfl⟩, y⟩ := lthick_go hw (X := .fz (.lst (l.map D.str))) (.inr rfl)
  have lp := for_gen (fs := eCons (eVar 0) eNil) (mk := mkSeq) (fg := gNm 1) (f := fb__law_thick_2) (r := [some (.fz (.lst (l.map D.str))), none, none, none]) (r1 := [some (.fz (.lst (l.map D.str))), none, none, none]) (os := [.loc 0]) (ss := [.fz (.lst (l.map D.str))]) (r2 := [some (.fz (.lst (l.map D.str))), none, none, none]) (u := []) (by simp) (by simp) rfl
  rw [y] at lp
  rw [F__law_thick_eq]
  cases c : thickD l with
  | none => rw [c] at lp; simp [b__law_thick, lp, -s_fFor, mapFl, outS]
  | some v => rw [c] at lp; simp [b__law_thick, lp, -s_fFor, mapFl, outS]
def goodC (rs : List (List Nat)) : Prop := (∀ r ∈ rs, W r ∧ r.length ≤ 60 ∧ CR r) ∧ rs.length ≤ 6
noncomputable def th_0 : Rho → Fl :=
  (fSet 1 (eFn F__law_draw (eCons (eVar 0) (eCons (eC (.int 6)) eNil))))
noncomputable def th_1 : Rho → Fl :=
  (fSet 2 (eTup eNil))
noncomputable def th_2 : Rho → Fl :=
  (fIf (eBl (e2 (p2 fEq) (eVar 1) (eC (.int 0)))) (fSeq (fSet 3 (eLc (eCons (eC (.str [97, 98, 99, 100, 101])) eNil) mkSeq (gNm 8) eYes ce__law_thin_2 [8]))
  (fSet 2 (eSl (e1 (p1 fTupU) (e2 (p2 fAdd) (eVar 3) (eLst (eCons (e2 qMul (eC (.str [97, 98, 65, 66])) (e2 (p2 fAdd) (eC (.int 2)) (eFn F__law_draw (eCons (eVar 0) (eCons (eC (.int 2)) eNil))))) eNil)))) (some (eFn F__law_draw (eCons (eVar 0) (eCons (eC (.int 7)) eNil)))) none)))
  fNil)
noncomputable def th_3 : Rho → Fl :=
  (fIf (eBl (e2 (p2 fEq) (eVar 1) (eC (.int 1)))) (fSet 2 (eSl (eTup (eCons (e2 qMul (eC (.str [97])) (e2 (p2 fAdd) (eC (.int 1)) (eFn F__law_draw (eCons (eVar 0) (eCons (eC (.int 9)) eNil))))) (eCons (e2 qMul (eC (.str [66])) (e2 (p2 fAdd) (eC (.int 1)) (eFn F__law_draw (eCons (eVar 0) (eCons (eC (.int 9)) eNil))))) eNil))) (some (eFn F__law_draw (eCons (eVar 0) (eCons (eC (.int 2)) eNil)))) none))
  fNil)
noncomputable def th_4 : Rho → Fl :=
  (fIf (eBl (e2 (p2 fEq) (eVar 1) (eC (.int 2)))) (fSet 2 (eTup (eCons (e2 qMul (eFn F__law_middle (eCons (eFn F__law_some (eCons (eVar 0) (eCons (eC (.int 3)) (eCons (eC (.int 3)) eNil)))) eNil)) (e2 (p2 fAdd) (eC (.int 7)) (eFn F__law_draw (eCons (eVar 0) (eCons (eC (.int 4)) eNil))))) eNil)))
  fNil)
noncomputable def th_5 : Rho → Fl :=
  (fIf (eBl (e2 (p2 fEq) (eVar 1) (eC (.int 3)))) (fSet 2 (eTup (eCons (e2 qMul (eC (.str [97])) (e2 (p2 fAdd) (eC (.int 7)) (eFn F__law_draw (eCons (eVar 0) (eCons (eC (.int 3)) eNil))))) (eCons (e2 qMul (eC (.str [98])) (e2 (p2 fAdd) (eC (.int 7)) (eFn F__law_draw (eCons (eVar 0) (eCons (eC (.int 3)) eNil))))) (eCons (e2 qMul (eC (.str [97, 98])) (e2 (p2 fAdd) (eC (.int 4)) (eFn F__law_draw (eCons (eVar 0) (eCons (eC (.int 3)) eNil))))) eNil)))))
  fNil)
noncomputable def th_6 : Rho → Fl :=
  (fIf (eBl (e2 qGt (eVar 1) (eC (.int 3)))) (fSeq (fSet 2 (eTup (eCons (e2 qIx (eLst (eCons (eC (.str [97, 98, 65, 66, 99, 100, 67, 68])) (eCons (eC (.str [97, 98, 99, 100, 65, 66, 67, 68])) (eCons (eC (.str [97, 97, 98, 98, 99, 99, 100, 100])) (eCons (eC (.str [97, 98, 99, 65, 66, 100, 67, 68])) eNil))))) (eFn F__law_draw (eCons (eVar 0) (eCons (eC (.int 4)) eNil)))) (eCons (e2 qMul (eC (.str [101])) (e2 (p2 fAdd) (eC (.int 1)) (eFn F__law_draw (eCons (eVar 0) (eCons (eC (.int 5)) eNil))))) eNil))))
  (fSet 2 (eSl (eVar 2) none (some (e2 (p2 fAdd) (eC (.int 1)) (eFn F__law_draw (eCons (eVar 0) (eCons (eC (.int 2)) eNil))))))))
  fNil)
noncomputable def th_7 : Rho → Fl :=
  (fSet 4 (eLst eNil))
noncomputable def th_8 : Rho → Fl :=
  (fFor (eCons (eVar 2) eNil) mkSeq (gNm 5) fb__law_thin_1)
noncomputable def th_9 : Rho → Fl :=
  (fSet 7 (eAnd (e2 qNotIn (eC (.str [])) (eVar 4)) (e2 (p2 fIs) (eFn F__law_thick (eCons (eFn F__law_turns_of (eCons (eVar 4) eNil)) eNil)) (eC .non))))
noncomputable def th_10 : Rho → Fl :=
  (fRet (eIf (eTru (eVar 7)) (e1 (p1 fTupU) (eVar 4)) (eTup eNil)))
theorem thin_cut : b__law_thin = (fSeq th_0 (fSeq th_1 (fSeq th_2 (fSeq th_3 (fSeq th_4 (fSeq th_5 (fSeq th_6 (fSeq th_7 (fSeq th_8 (fSeq th_9 th_10)))))))))) := rfl
def Z (k : List (Key × D)) (v : Int) (rs : List (List Nat)) (x3 x8 : Option S) : Rho := [some (.bd k), some (.fz (.int v)), some (.fz (ringsT rs)), x3, none, none, none, none, x8]
theorem skip2 {k : List (Key × D)} {v : Int} {rs : List (List Nat)} {x3 x8 : Option S} (h : v ≠ 0) : th_2 (Z k v rs x3 x8) = .nx (Z k v rs x3 x8) := by simp [th_2, Z, h]
theorem skip3 {k : List (Key × D)} {v : Int} {rs : List (List Nat)} {x3 x8 : Option S} (h : v ≠ 1) : th_3 (Z k v rs x3 x8) = .nx (Z k v rs x3 x8) := by simp [th_3, Z, h]
theorem skip4 {k : List (Key × D)} {v : Int} {rs : List (List Nat)} {x3 x8 : Option S} (h : v ≠ 2) : th_4 (Z k v rs x3 x8) = .nx (Z k v rs x3 x8) := by simp [th_4, Z, h]
theorem skip5 {k : List (Key × D)} {v : Int} {rs : List (List Nat)} {x3 x8 : Option S} (h : v ≠ 3) : th_5 (Z k v rs x3 x8) = .nx (Z k v rs x3 x8) := by simp [th_5, Z, h]
theorem skip6 {k : List (Key × D)} {v : Int} {rs : List (List Nat)} {x3 x8 : Option S} (h : v ≤ 3) : th_6 (Z k v rs x3 x8) = .nx (Z k v rs x3 x8) := by
  have h : ¬ 3 < v := by omega
  simp [th_6, Z, h]
theorem pow_run {k k' : List (Key × D)} {c : Nat} {v : Int} {w : List Nat} {x1 x2 x3 x4 x5 x6 x7 : Option S} (y : F__law_draw [.bd k, .fz (.int 3)] = .ok (.fz (.int v)) [.bd k', .fz (.int 3)]) (m : qMul [.fz (.str [c]), .fz (.int (7 + v))] = some (.fz (.str w))) :
    cturn (gNm 8) eYes ce__law_thin_2 [8] (.str [c]) [some (.bd k), x1, x2, x3, x4, x5, x6, x7, none] = some ([.str w], [some (.bd k'), x1, x2, x3, x4, x5, x6, x7, none]) := by
  simp [cturn, ce__law_thin_2, y, m, -s_qMulS]
theorem pow_turn {k : List (Key × D)} (t : Feed k) {c : Nat} (hc : isL c = true) {x1 x2 x3 x4 x5 x6 x7 : Option S} : ∃ k' w, Feed k' ∧ (W w ∧ w.length ≤ 60 ∧ CR w) ∧
    cturn (gNm 8) eYes ce__law_thin_2 [8] (.str [c]) [some (.bd k), x1, x2, x3, x4, x5, x6, x7, none] = some ([.str w], [some (.bd k'), x1, x2, x3, x4, x5, x6, x7, none]) := by
  obtain ⟨v, k', h0, hv, t', y⟩ := draw_eq t (many := 3) (by omega) (by omega)
  obtain ⟨n, rfl⟩ := Int.eq_ofNat_of_zero_le h0
  have m := (mul_d (w := [c]) (by simp) n (by omega) 7).resolve_right (by omega)
  have r := rep_ok (W1 hc) (n := 7 + n) (B := 60) (by simp; omega)
  exact ⟨k', _, t', ⟨r.1, r.2, cr_rep (W1 hc) (cr_one hc) _⟩, pow_run y m⟩
theorem pow_lc {k : List (Key × D)} (t : Feed k) {x1 x2 x3 x4 x5 x6 x7 : Option S} : ∃ (k' : List (Key × D)) (ws : List (List Nat)), Feed k' ∧ (∀ w ∈ ws, W w ∧ w.length ≤ 60 ∧ CR w) ∧ ws.length = 5 ∧
    eLc (eCons (eC (.str [97, 98, 99, 100, 101])) eNil) mkSeq (gNm 8) eYes ce__law_thin_2 [8] [some (.bd k), x1, x2, x3, x4, x5, x6, x7, none] = .ok (.val (.ol (ws.map D.str))) [some (.bd k'), x1, x2, x3, x4, x5, x6, x7, none] := by
  obtain ⟨r', acc, y, k', ws, t', hw, hl, rfl, rfl⟩ := cmpL_go (fg := gNm 8) (ft := eYes) (fe := ce__law_thin_2) (vs := [8]) (fun i r acc => ∃ (k : List (Key × D)) (ws : List (List Nat)), Feed k ∧ (∀ w ∈ ws, W w ∧ w.length ≤ 60 ∧ CR w) ∧ ws.length = i ∧ acc = ws.map D.str ∧ r = [some (.bd k), x1, x2, x3, x4, x5, x6, x7, none])
    (ds := [97, 98, 99, 100, 101].map sgD) (acc := []) (r := [some (.bd k), x1, x2, x3, x4, x5, x6, x7, none]) 0 (by simp) ⟨k, [], t, (fun _ h => nomatch h), rfl, rfl, rfl⟩ (by
      rintro i d r acc hd ⟨k, ws, t, hw, hl, rfl, rfl⟩
      have hd' : d ∈ [97, 98, 99, 100, 101].map sgD := List.mem_of_getElem? hd
      obtain ⟨c, hc, rfl⟩ := List.mem_map.mp hd'
      obtain ⟨k', w, t', g1, y⟩ := pow_turn t (c := c) (isL_iff.mpr (by simp at hc; omega)) (x1 := x1) (x2 := x2) (x3 := x3) (x4 := x4) (x5 := x5) (x6 := x6) (x7 := x7)
      exact ⟨_, _, y, k', ws ++ [w], t', fun u hu => (List.mem_append.mp hu).elim (hw u) fun z => by rw [List.mem_singleton] at z; subst z; exact g1, by rw [List.length_append, hl]; rfl, by simp, rfl⟩)
  exact ⟨k', ws, t', hw, hl, lc_fz (d := .str [97, 98, 99, 100, 101]) (r1 := [some (.bd k), x1, x2, x3, x4, x5, x6, x7, none]) rfl rfl (by simp) y⟩
theorem p0_run {k k1 k2 k3 : List (Key × D)} {P : List D} {a b : Int} {u : List Nat} {Q : List D} {rs : List (List Nat)} (l1 : eLc (eCons (eC (.str [97, 98, 99, 100, 101])) eNil) mkSeq (gNm 8) eYes ce__law_thin_2 [8] [some (.bd k), some (.fz (.int 0)), some (.fz (ringsT rs)), none, none, none, none, none, none] = .ok (.val (.ol P)) [some (.bd k1), some (.fz (.int 0)), some (.fz (ringsT rs)), none, none, none, none, none, none])
    (d1 : F__law_draw [.bd k1, .fz (.int 2)] = .ok (.fz (.int a)) [.bd k2, .fz (.int 2)]) (m1 : qMul [.fz (.str [97, 98, 65, 66]), .fz (.int (2 + a))] = some (.fz (.str u))) (ad : fAdd (.ol P) (.ol [.str u]) = some (.ol (P ++ [.str u])))
    (d2 : F__law_draw [.bd k2, .fz (.int 7)] = .ok (.fz (.int b)) [.bd k3, .fz (.int 7)]) (sl : fSl (.fz (.tup (P ++ [.str u]))) (.fz (.int b)) (.fz .non) = some (.fz (.tup Q))) :
    th_2 [some (.bd k), some (.fz (.int 0)), some (.fz (ringsT rs)), none, none, none, none, none, none] = .nx [some (.bd k3), some (.fz (.int 0)), some (.fz (.tup Q)), some (.ol P), none, none, none, none, none] := by
  simp [th_2, l1, d1, m1, ad, d2, sl, -s_eLc, -s_qMulS]
theorem piece0 {k : List (Key × D)} (t : Feed k) {rs0 : List (List Nat)} : ∃ k' rs x3, Feed k' ∧ goodC rs ∧ nh x3 ∧ th_2 (Z k 0 rs0 none none) = .nx (Z k' 0 rs x3 none) := by
  obtain ⟨k1, ws, t1, hw, hl, L⟩ := pow_lc t (x1 := some (.fz (.int 0))) (x2 := some (.fz (ringsT rs0))) (x3 := none) (x4 := none) (x5 := none) (x6 := none) (x7 := none)
  obtain ⟨v, k2, h0, hv, t2, y2⟩ := draw_eq t1 (many := 2) (by omega) (by omega)
  obtain ⟨n, rfl⟩ := Int.eq_ofNat_of_zero_le h0
  obtain ⟨v, k3, h0, hv3, t3, y3⟩ := draw_eq t2 (many := 7) (by omega) (by omega)
  obtain ⟨b, rfl⟩ := Int.eq_ofNat_of_zero_le h0
  have m := (mul_d (w := [97, 98, 65, 66]) (by simp) n (by omega) 2).resolve_right (by omega)
  have wab : W [97, 98, 65, 66] := fun c hc => isL_iff.mpr (by simp at hc; omega)
  have r0 := rep_ok wab (n := 2 + n) (B := 60) (by simp; omega)
  have r := (⟨r0.1, r0.2, cr_rep wab ⟨by decide, fun x y hx hy => by cases hx; cases hy; decide⟩ _⟩ : W (rep [97, 98, 65, 66] (2 + n)) ∧ (rep [97, 98, 65, 66] (2 + n)).length ≤ 60 ∧ CR (rep [97, 98, 65, 66] (2 + n)))
  have ad : fAdd (.ol (ws.map D.str)) (.ol [.str (rep [97, 98, 65, 66] (2 + n))]) = some (.ol (ws.map D.str ++ [.str (rep [97, 98, 65, 66] (2 + n))])) := by
    show (if big ((ws.map D.str).length + 1) then some (S.ol (ws.map D.str ++ [.str (rep [97, 98, 65, 66] (2 + n))])) else none) = _
    rw [if_pos (big_of (by rw [List.length_map]; omega))]
  have sl := sl_fromT (ws.map D.str ++ [.str (rep [97, 98, 65, 66] (2 + n))]) b
  have e9 : (ws.map D.str ++ [D.str (rep [97, 98, 65, 66] (2 + n))]).drop b = ((ws ++ [rep [97, 98, 65, 66] (2 + n)]).drop b).map D.str := by rw [List.map_drop, List.map_append]; rfl
  rw [e9] at sl
  refine ⟨k3, _, some (.ol (ws.map D.str)), t3, ⟨fun u hu => ?_, ?_⟩, .inr ⟨_, rfl, rfl⟩, p0_run L y2 m ad y3 sl⟩
  · rcases List.mem_append.mp (List.mem_of_mem_drop hu) with h | h
    · exact hw u h
    · rw [List.mem_singleton] at h; subst h; exact r
  · rw [List.length_drop, List.length_append, hl]; simp
theorem p1_run {k k1 k2 k3 : List (Key × D)} {a b c : Int} {u v : List Nat} {Q : List D} {rs : List (List Nat)} {x3 : Option S}
    (d1 : F__law_draw [.bd k, .fz (.int 9)] = .ok (.fz (.int a)) [.bd k1, .fz (.int 9)]) (m1 : qMul [.fz (.str [97]), .fz (.int (1 + a))] = some (.fz (.str u)))
    (d2 : F__law_draw [.bd k1, .fz (.int 9)] = .ok (.fz (.int b)) [.bd k2, .fz (.int 9)]) (m2 : qMul [.fz (.str [66]), .fz (.int (1 + b))] = some (.fz (.str v)))
    (d3 : F__law_draw [.bd k2, .fz (.int 2)] = .ok (.fz (.int c)) [.bd k3, .fz (.int 2)]) (sl : fSl (.fz (.tup [.str u, .str v])) (.fz (.int c)) (.fz .non) = some (.fz (.tup Q))) :
    th_3 [some (.bd k), some (.fz (.int 1)), some (.fz (ringsT rs)), x3, none, none, none, none, none] = .nx [some (.bd k3), some (.fz (.int 1)), some (.fz (.tup Q)), x3, none, none, none, none, none] := by
  simp [th_3, d1, m1, d2, m2, d3, sl, -s_qMulS]
theorem piece1 {k : List (Key × D)} (t : Feed k) {rs0 : List (List Nat)} {x3 : Option S} : ∃ k' rs, Feed k' ∧ goodC rs ∧ th_3 (Z k 1 rs0 x3 none) = .nx (Z k' 1 rs x3 none) := by
  obtain ⟨n, k1, hn, t1, y1⟩ := dr t (m := 9) (by omega) (by omega)
  obtain ⟨n2, k2, hn2, t2, y2⟩ := dr t1 (m := 9) (by omega) (by omega)
  obtain ⟨b, k3, hb, t3, y3⟩ := dr t2 (m := 2) (by omega) (by omega)
  have m1 := (mul_d (w := [97]) (by simp) n (by omega) 1).resolve_right (by omega)
  have m2 := (mul_d (w := [66]) (by simp) n2 (by omega) 1).resolve_right (by omega)
  have q1 := rep_ok (W1 (c := 97) (by decide)) (n := 1 + n) (B := 60) (by simp; omega)
  have q2 := rep_ok (W1 (c := 66) (by decide)) (n := 1 + n2) (B := 60) (by simp; omega)
  have r1 := And.intro q1.1 (And.intro q1.2 (cr_rep (W1 (c := 97) (by decide)) (cr_one (by decide)) (1 + n)))
  have r2 := And.intro q2.1 (And.intro q2.2 (cr_rep (W1 (c := 66) (by decide)) (cr_one (by decide)) (1 + n2)))
  have sl := sl_fromT [.str (rep [97] (1 + n)), .str (rep [66] (1 + n2))] b
  have e9 : [D.str (rep [97] (1 + n)), .str (rep [66] (1 + n2))].drop b = (([rep [97] (1 + n), rep [66] (1 + n2)] : List (List Nat)).drop b).map D.str := by rw [List.map_drop]; rfl
  rw [e9] at sl
  refine ⟨k3, _, t3, ⟨fun u hu => ?_, ?_⟩, p1_run y1 m1 y2 m2 y3 sl⟩
  · have hu := List.mem_of_mem_drop hu
    simp only [List.mem_cons, List.not_mem_nil, or_false] at hu
    rcases hu with rfl | rfl
    · exact r1
    · exact r2
  · rw [List.length_drop]; simp; omega
theorem p2_run {k k1 k2 : List (Key × D)} {a : Int} {w m u : List Nat} {rs : List (List Nat)} {x3 : Option S}
    (s1 : F__law_some [.bd k, .fz (.int 3), .fz (.int 3)] = .ok (.fz (.str w)) [.bd k1, .fz (.int 3), .fz (.int 3)]) (mm : F__law_middle [.fz (.str w)] = .ok (.fz (.str m)) [.fz (.str w)]) (d1 : F__law_draw [.bd k1, .fz (.int 4)] = .ok (.fz (.int a)) [.bd k2, .fz (.int 4)]) (m1 : qMul [.fz (.str m), .fz (.int (7 + a))] = some (.fz (.str u))) :
    th_4 [some (.bd k), some (.fz (.int 2)), some (.fz (ringsT rs)), x3, none, none, none, none, none] = .nx [some (.bd k2), some (.fz (.int 2)), some (.fz (.tup [.str u])), x3, none, none, none, none, none] := by
  simp [th_4, s1, mm, d1, m1, -s_qMulS]
theorem piece2 {k : List (Key × D)} (t : Feed k) {rs0 : List (List Nat)} {x3 : Option S} : ∃ k' rs, Feed k' ∧ goodC rs ∧ th_4 (Z k 2 rs0 x3 none) = .nx (Z k' 2 rs x3 none) := by
  obtain ⟨k1, w, t1, hw, hl, y1⟩ := some_eq t (m := 3) (mo := 3) (by omega) (by omega) (by omega)
  obtain ⟨n, k2, hn, t2, y2⟩ := dr t1 (m := 4) (by omega) (by omega)
  have mm := lmid_eq hw (by omega)
  have ml : (midK (red w) (coreN (red w))).length ≤ 3 := by rw [midK_len]; have := red_len w; omega
  have mw := midK_w (red_w hw) (coreN (red w))
  have m1 := (mul_d (w := midK (red w) (coreN (red w))) (by omega) n (by omega) 7).resolve_right (by omega)
  have q1 := rep_ok mw (n := 7 + n) (B := 60) (by have : (7 + n) * (midK (red w) (coreN (red w))).length ≤ 10 * 3 := Nat.mul_le_mul (by omega) ml; omega)
  have r1 := And.intro q1.1 (And.intro q1.2 (cr_rep mw (cr_mid (red_w hw) ((red_self (red_w hw)).mp (red_red hw))) (7 + n)))
  refine ⟨k2, [_], t2, ⟨fun u hu => ?_, by simp⟩, p2_run y1 mm y2 m1⟩
  rw [List.mem_singleton] at hu
  subst hu; exact r1
theorem p3_run {k k1 k2 k3 : List (Key × D)} {a b c : Int} {u v w : List Nat} {rs : List (List Nat)} {x3 : Option S}
    (d1 : F__law_draw [.bd k, .fz (.int 3)] = .ok (.fz (.int a)) [.bd k1, .fz (.int 3)]) (m1 : qMul [.fz (.str [97]), .fz (.int (7 + a))] = some (.fz (.str u)))
    (d2 : F__law_draw [.bd k1, .fz (.int 3)] = .ok (.fz (.int b)) [.bd k2, .fz (.int 3)]) (m2 : qMul [.fz (.str [98]), .fz (.int (7 + b))] = some (.fz (.str v)))
    (d3 : F__law_draw [.bd k2, .fz (.int 3)] = .ok (.fz (.int c)) [.bd k3, .fz (.int 3)]) (m3 : qMul [.fz (.str [97, 98]), .fz (.int (4 + c))] = some (.fz (.str w))) :
    th_5 [some (.bd k), some (.fz (.int 3)), some (.fz (ringsT rs)), x3, none, none, none, none, none] = .nx [some (.bd k3), some (.fz (.int 3)), some (.fz (.tup [.str u, .str v, .str w])), x3, none, none, none, none, none] := by
  simp [th_5, d1, m1, d2, m2, d3, m3, -s_qMulS]
theorem piece3 {k : List (Key × D)} (t : Feed k) {rs0 : List (List Nat)} {x3 : Option S} : ∃ k' rs, Feed k' ∧ goodC rs ∧ th_5 (Z k 3 rs0 x3 none) = .nx (Z k' 3 rs x3 none) := by
  obtain ⟨n, k1, hn, t1, y1⟩ := dr t (m := 3) (by omega) (by omega)
  obtain ⟨n2, k2, hn2, t2, y2⟩ := dr t1 (m := 3) (by omega) (by omega)
  obtain ⟨b, k3, hb, t3, y3⟩ := dr t2 (m := 3) (by omega) (by omega)
  have m1 := (mul_d (w := [97]) (by simp) n (by omega) 7).resolve_right (by omega)
  have m2 := (mul_d (w := [98]) (by simp) n2 (by omega) 7).resolve_right (by omega)
  have m3 := (mul_d (w := [97, 98]) (by simp) b (by omega) 4).resolve_right (by omega)
  have q1 := rep_ok (W1 (c := 97) (by decide)) (n := 7 + n) (B := 60) (by simp; omega)
  have q2 := rep_ok (W1 (c := 98) (by decide)) (n := 7 + n2) (B := 60) (by simp; omega)
  have w3 : W [97, 98] := fun c hc => isL_iff.mpr (by simp at hc; omega)
  have q3 := rep_ok w3 (n := 4 + b) (B := 60) (by simp; omega)
  have r1 := And.intro q1.1 (And.intro q1.2 (cr_rep (W1 (c := 97) (by decide)) (cr_one (by decide)) (7 + n)))
  have r2 := And.intro q2.1 (And.intro q2.2 (cr_rep (W1 (c := 98) (by decide)) (cr_one (by decide)) (7 + n2)))
  have r3 := And.intro q3.1 (And.intro q3.2 (cr_rep w3 ⟨by decide, fun x y hx hy => by cases hx; cases hy; decide⟩ (4 + b)))
  refine ⟨k3, [_, _, _], t3, ⟨fun u hu => ?_, by simp⟩, p3_run y1 m1 y2 m2 y3 m3⟩
  simp only [List.mem_cons, List.not_mem_nil, or_false] at hu
  rcases hu with rfl | rfl | rfl
  · exact r1
  · exact r2
  · exact r3
theorem p4_run {k k1 k2 k3 : List (Key × D)} {vv a b c : Int} {g u : List Nat} {rs : List (List Nat)} {Q : List D} {x3 : Option S} (hv : 3 < vv)
    (d1 : F__law_draw [.bd k, .fz (.int 4)] = .ok (.fz (.int a)) [.bd k1, .fz (.int 4)]) (ix : atI [D.str [97, 98, 65, 66, 99, 100, 67, 68], .str [97, 98, 99, 100, 65, 66, 67, 68], .str [97, 97, 98, 98, 99, 99, 100, 100], .str [97, 98, 99, 65, 66, 100, 67, 68]] a = some (.str g))
    (d2 : F__law_draw [.bd k1, .fz (.int 5)] = .ok (.fz (.int b)) [.bd k2, .fz (.int 5)]) (m2 : qMul [.fz (.str [101]), .fz (.int (1 + b))] = some (.fz (.str u)))
    (d3 : F__law_draw [.bd k2, .fz (.int 2)] = .ok (.fz (.int c)) [.bd k3, .fz (.int 2)]) (sl : fSl (.fz (.tup [.str g, .str u])) (.fz .non) (.fz (.int (1 + c))) = some (.fz (.tup Q))) :
    th_6 [some (.bd k), some (.fz (.int vv)), some (.fz (ringsT rs)), x3, none, none, none, none, none] = .nx [some (.bd k3), some (.fz (.int vv)), some (.fz (.tup Q)), x3, none, none, none, none, none] := by
  simp [th_6, hv, d1, ix, d2, m2, d3, sl, -s_qMulS]
theorem piece4 {k : List (Key × D)} (t : Feed k) {vv : Int} (hv : 3 < vv) {rs0 : List (List Nat)} {x3 : Option S} : ∃ k' rs, Feed k' ∧ goodC rs ∧ th_6 (Z k vv rs0 x3 none) = .nx (Z k' vv rs x3 none) := by
  obtain ⟨a, k1, ha, t1, y1⟩ := dr t (m := 4) (by omega) (by omega)
  obtain ⟨b, k2, hb, t2, y2⟩ := dr t1 (m := 5) (by omega) (by omega)
  obtain ⟨c, k3, hc, t3, y3⟩ := dr t2 (m := 2) (by omega) (by omega)
  have m2 := (mul_d (w := [101]) (by simp) b (by omega) 1).resolve_right (by omega)
  have q2 := rep_ok (W1 (c := 101) (by decide)) (n := 1 + b) (B := 60) (by simp; omega)
  have r2 := And.intro q2.1 (And.intro q2.2 (cr_rep (W1 (c := 101) (by decide)) (cr_one (by decide)) (1 + b)))
  have hx : holed[a]? = some (holed[a]'(by simpa [holed] using ha)) := List.getElem?_eq_getElem _
  generalize holed[a]'(by simpa [holed] using ha) = g at *
  have gm := List.mem_of_getElem? hx
  have gw : W g ∧ g.length ≤ 60 ∧ CR g := by
    have key : ∀ g ∈ holed, (∀ c ∈ g, isL c = true) ∧ g.length ≤ 60 ∧ tidy g = true ∧ (g.head?.map bk == g.getLast?) = false ∧ (g.getLast?.map bk == g.head?) = false := by decide
    obtain ⟨k1, k2, k3, k4, k5⟩ := key g gm
    refine ⟨k1, k2, k3, fun x y hx hy e => ?_⟩
    rw [hx, hy, e] at k5
    simp at k5
  have ix : atI [D.str [97, 98, 65, 66, 99, 100, 67, 68], .str [97, 98, 99, 100, 65, 66, 67, 68], .str [97, 97, 98, 98, 99, 99, 100, 100], .str [97, 98, 99, 65, 66, 100, 67, 68]] (a : Int) = some (.str g) := by
    rw [atI_n]
    have : (holed.map D.str)[a]? = some (.str g) := by rw [List.getElem?_map, hx]; rfl
    exact this
  have sl := sl_toT [.str g, .str (rep [101] (1 + b))] (1 + c)
  have e9 : [D.str g, .str (rep [101] (1 + b))].take (1 + c) = (([g, rep [101] (1 + b)] : List (List Nat)).take (1 + c)).map D.str := by rw [List.map_take]; rfl
  rw [e9, show (((1 + c : Nat) : Int)) = 1 + (c : Int) from by omega] at sl
  refine ⟨k3, _, t3, ⟨fun u hu => ?_, ?_⟩, p4_run hv y1 ix y2 m2 y3 sl⟩
  · have hu := List.mem_of_mem_take hu
    simp only [List.mem_cons, List.not_mem_nil, or_false] at hu
    rcases hu with rfl | rfl
    · exact gw
    · exact r2
  · rw [List.length_take]; simp; omega
theorem lp_run {k k1 k2 : List (Key × D)} {r s1 s2 t u g : List Nat} {n a b : Int} {acc : List D} {x1 x2 x3 x6 x7 x8 : Option S} (h6 : sf x6) (hacc : acc.length < 16777216) (l1 : fLen (.fz (.str r)) = some (.fz (.int n))) (d1 : F__law_draw [.bd k, .fz (.int (n + 1))] = .ok (.fz (.int a)) [.bd k1, .fz (.int (n + 1))])
    (e1' : fSl (.fz (.str r)) (.fz (.int a)) (.fz .non) = some (.fz (.str s1))) (e2' : fSl (.fz (.str r)) (.fz .non) (.fz (.int a)) = some (.fz (.str s2))) (e3' : fAdd (.fz (.str s1)) (.fz (.str s2)) = some (.fz (.str t))) (lb : F__law_back [.fz (.str t)] = .ok (.fz (.str u)) [.fz (.str t)])
    (d2 : F__law_draw [.bd k1, .fz (.int 2)] = .ok (.fz (.int b)) [.bd k2, .fz (.int 2)]) (ix : atI [D.str t, .str u] b = some (.str g)) :
    fb__law_thin_1 [some (.bd k), x1, x2, x3, some (.ol acc), some (.fz (.str r)), x6, x7, x8] = .nx [some (.bd k2), x1, x2, x3, some (.ol (acc ++ [.str g])), some (.fz (.str r)), some (.fz (.int a)), x7, x8] := by
  rcases h6 with rfl | ⟨z, rfl⟩ <;> simp [fb__law_thin_1, l1, d1, e1', e2', e3', lb, d2, ix, hacc, -s_lenS, -s_addS]
theorem lp_turn {k : List (Key × D)} (t : Feed k) {r : List Nat} (hr : W r) (hl : r.length ≤ 60) (hcr : CR r) {acc : List D} (hacc : acc.length < 16777216) {x1 x2 x3 x6 x7 x8 : Option S} (h6 : sf x6) : ∃ k' g a, Feed k' ∧ (W g ∧ g.length ≤ 60 ∧ CR g) ∧
    fb__law_thin_1 [some (.bd k), x1, x2, x3, some (.ol acc), some (.fz (.str r)), x6, x7, x8] = .nx [some (.bd k'), x1, x2, x3, some (.ol (acc ++ [.str g])), some (.fz (.str r)), some (.fz (.int a)), x7, x8] := by
  obtain ⟨a, k1, ha, t1, y1⟩ := dr t (m := r.length + 1) (by omega) (by omega)
  obtain ⟨b, k2, hb, t2, y2⟩ := dr t1 (m := 2) (by omega) (by omega)
  have l1 : fLen (.fz (.str r)) = some (.fz (.int (r.length : Int))) := by rw [s_lenS]; exact if_pos (big_of (by omega))
  rw [show (((r.length + 1 : Nat) : Int)) = (r.length : Int) + 1 from by omega] at y1
  have s1 := sl_from (w := r) (by omega) a
  have s2 := sl_to (w := r) (by omega) a
  have ad : fAdd (.fz (.str (r.drop a))) (.fz (.str (r.take a))) = some (.fz (.str (rot r a))) := by
    rw [s_addS, if_pos (big_of (by rw [List.length_drop, List.length_take]; omega))]; rfl
  have rw' := rot_w hr a
  have rl := rot_len r a
  have lb := law_back_eq rw' (by omega)
  have ix : ∃ g, (W g ∧ g.length ≤ 60 ∧ CR g) ∧ atI [D.str (rot r a), .str (bkw (rot r a))] (b : Int) = some (.str g) := by
    match b, hb with
    | 0, _ => exact ⟨rot r a, ⟨rw', by omega, cr_rot hr hcr a⟩, rfl⟩
    | 1, _ => exact ⟨bkw (rot r a), ⟨rw'.bkw, by rw [bkw_len]; omega, cr_bkw rw' (cr_rot hr hcr a)⟩, rfl⟩
  obtain ⟨g, g1, ix⟩ := ix
  exact ⟨k2, g, a, t2, g1, lp_run h6 hacc l1 y1 s1 s2 ad lb y2 ix⟩
theorem lp_for : ∀ {rs ws : List (List Nat)} {k : List (Key × D)} {x1 x2 x3 x5 x6 x7 x8 : Option S}, Feed k → sf x5 → sf x6 → (∀ r ∈ rs, W r ∧ r.length ≤ 60 ∧ CR r) → (∀ r ∈ ws, W r ∧ r.length ≤ 60 ∧ CR r) → ws.length + rs.length ≤ 1000 → ∃ (k' : List (Key × D)) (ws' : List (List Nat)) (x5' x6' : Option S), Feed k' ∧ (∀ r ∈ ws', W r ∧ r.length ≤ 60 ∧ CR r) ∧ ws'.length = ws.length + rs.length ∧
    forL (gNm 5) fb__law_thin_1 (rs.map D.str) [some (.bd k), x1, x2, x3, some (.ol (ws.map D.str)), x5, x6, x7, x8] = .nx [some (.bd k'), x1, x2, x3, some (.ol (ws'.map D.str)), x5', x6', x7, x8]
  | [], ws, k, x1, x2, x3, x5, x6, x7, x8, t, _, _, _, hw, _ => ⟨k, ws, x5, x6, t, hw, by simp, rfl⟩
  | r :: rs, ws, k, x1, x2, x3, x5, x6, x7, x8, t, h5, h6, hr, hw, hl => by
    rw [List.length_cons] at hl
    obtain ⟨r1, r2, r3⟩ := hr r (List.mem_cons_self ..)
    obtain ⟨k1, g, a, t1, g1, y⟩ := lp_turn t r1 r2 r3 (acc := ws.map D.str) (by rw [List.length_map]; omega) (x1 := x1) (x2 := x2) (x3 := x3) (x7 := x7) (x8 := x8) h6
    obtain ⟨k2, ws', y5, y6, t2, h', hlen, y2⟩ := lp_for (rs := rs) (ws := ws ++ [g]) (k := k1) (x1 := x1) (x2 := x2) (x3 := x3) (x5 := some (.fz (.str r))) (x6 := some (.fz (.int a))) (x7 := x7) (x8 := x8) t1 sf_f sf_f (fun r hr' => hr r (List.mem_cons_of_mem _ hr')) (fun u hu => (List.mem_append.mp hu).elim (hw u) fun z => by rw [List.mem_singleton] at z; subst z; exact g1) (by rw [List.length_append]; simp; omega)
    refine ⟨k2, ws', y5, y6, t2, h', by rw [hlen, List.length_append, List.length_cons]; simp; omega, ?_⟩
    have gg : gNm 5 (.str r) [some (.bd k), x1, x2, x3, some (.ol (ws.map D.str)), x5, x6, x7, x8] = some [some (.bd k), x1, x2, x3, some (.ol (ws.map D.str)), some (.fz (.str r)), x6, x7, x8] := by
      rcases h5 with rfl | ⟨z, rfl⟩ <;> simp
    rw [List.map_cons, forL, gg]
    dsimp only
    rw [y]
    have e : (ws ++ [g]).map D.str = ws.map D.str ++ [.str g] := by rw [List.map_append]; rfl
    rw [e] at y2
    exact y2
theorem fits_no {k : List (Key × D)} {L : List D} {x1 x2 x3 x5 x6 x8 : Option S} (ni : qNotIn [.fz (.str []), .ol L] = some (.fz (.bl false))) : th_9 [some (.bd k), x1, x2, x3, some (.ol L), x5, x6, none, x8] = .nx [some (.bd k), x1, x2, x3, some (.ol L), x5, x6, some (.fz (.bl false)), x8] := by
  simp [th_9, ni]
theorem fits_yes {k : List (Key × D)} {L M : List D} {s : S} {bb : Bool} {x1 x2 x3 x5 x6 x8 : Option S} (ni : qNotIn [.fz (.str []), .ol L] = some (.fz (.bl true))) (t : F__law_turns_of [.br L] = .ok (.ol M) [.br L]) (th : F__law_thick [.fz (.lst M)] = .ok s [.fz (.lst M)]) (i : fIs s (.fz .non) = some (.fz (.bl bb))) :
    th_9 [some (.bd k), x1, x2, x3, some (.ol L), x5, x6, none, x8] = .nx [some (.bd k), x1, x2, x3, some (.ol L), x5, x6, some (.fz (.bl bb)), x8] := by
  simp [th_9, ni, t, th, i]
theorem fits_ret {k : List (Key × D)} {L : List D} {bb : Bool} {x1 x2 x3 x5 x6 x8 : Option S} : th_10 [some (.bd k), x1, x2, x3, some (.ol L), x5, x6, some (.fz (.bl bb)), x8] = .rt (.fz (.tup (if bb then L else []))) [some (.bd k), x1, x2, x3, some (.ol L), x5, x6, some (.fz (.bl bb)), x8] := by
  cases bb <;> simp [th_10]
theorem thick_nil : thickD (knownL []) = none := by
  have e : knownL [] = [] := List.length_eq_zero_iff.mp (by
    unfold knownL
    rw [(sortT_perm _).length_eq]; rfl)
  rw [e]; rfl
theorem end_eq {k : List (Key × D)} (t : Feed k) {v : Int} {rs : List (List Nat)} (h : goodC rs) {x3 : Option S} : ∃ (k' : List (Key × D)) (rs' : List (List Nat)) (r' : Rho), Feed k' ∧ (okR rs' ∧ okN rs' ∧ thickD (knownL rs') = none) ∧ r'[0]? = some (some (.bd k')) ∧ fSeq th_7 (fSeq th_8 (fSeq th_9 th_10)) (Z k v rs x3 none) = .rt (.fz (ringsT rs')) r' := by
  obtain ⟨k1, ws, y5, y6, t1, hw, hl, y⟩ := lp_for (rs := rs) (ws := []) (x1 := some (.fz (.int v))) (x2 := some (.fz (ringsT rs))) (x3 := x3) (x5 := none) (x6 := none) (x7 := none) (x8 := none) t sf_n sf_n h.1 (fun _ h => nomatch h) (by have := h.2; simp; omega)
  have hl : ws.length ≤ 6 := by rw [hl]; have := h.2; simp; omega
  have e7 : th_7 (Z k v rs x3 none) = .nx [some (.bd k), some (.fz (.int v)), some (.fz (ringsT rs)), x3, some (.ol []), none, none, none, none] := by simp [th_7, Z]
  have e8 : th_8 [some (.bd k), some (.fz (.int v)), some (.fz (ringsT rs)), x3, some (.ol []), none, none, none, none] = _ := (for_lfz (i := 2) (d := ringsT rs) (ds := rs.map D.str) rfl rfl rfl).trans y
  have ni := notIn_ws ws []
  by_cases c : [] ∈ ws
  · rw [decide_eq_true c] at ni
    refine ⟨k1, [], [some (.bd k1), some (.fz (.int v)), some (.fz (ringsT rs)), x3, some (.ol (ws.map D.str)), y5, y6, some (.fz (.bl false)), none], t1, ⟨okR_nil, (fun r hr => nomatch hr), thick_nil⟩, rfl, ?_⟩
    unfold fSeq
    rw [e7]; dsimp only
    rw [e8]; dsimp only
    rw [fits_no ni]; dsimp only
    exact fits_ret
  · rw [decide_eq_false c] at ni
    have ok : okR ws := ⟨fun r hr => ⟨(hw r hr).1, (hw r hr).2.1, fun z => c (z ▸ hr)⟩, hl⟩
    have okn : okN ws := fun r hr => ⟨(hw r hr).1, fun z => c (z ▸ hr), (hw r hr).2.2⟩
    obtain ⟨q1, q2, q3, q4⟩ := knownL_ok (rs := ws) (fun r hr => by obtain ⟨a, b, _⟩ := hw r hr; exact ⟨a, by omega⟩) (by omega)
    have th := lthick_fz (l := knownL ws) (fun b hb => by have := (q3 b hb).2; omega)
    refine ⟨k1, if (thickD (knownL ws)).isNone then ws else [], [some (.bd k1), some (.fz (.int v)), some (.fz (ringsT rs)), x3, some (.ol (ws.map D.str)), y5, y6, some (.fz (.bl (thickD (knownL ws)).isNone)), none], t1, ?_, rfl, ?_⟩
    · split
      · rename_i z
        exact ⟨ok, okn, Option.isNone_iff_eq_none.mp z⟩
      · exact ⟨okR_nil, (fun r hr => nomatch hr), thick_nil⟩
    · unfold fSeq
      rw [e7]; dsimp only
      rw [e8]; dsimp only
      rw [fits_yes ni (lturns_br ok.Rs) th (is_out _)]; dsimp only
      rw [fits_ret]
      have e : (if (thickD (knownL ws)).isNone = true then ws.map D.str else []) = (if (thickD (knownL ws)).isNone = true then ws else []).map D.str := by split <;> rfl
      rw [e]; rfl
theorem thin_eqC {k : List (Key × D)} (t : Feed k) : ∃ k' rs, Feed k' ∧ okR rs ∧ okN rs ∧ thickD (knownL rs) = none ∧ F__law_thin [.bd k] = .ok (.fz (ringsT rs)) [.bd k'] := by
  obtain ⟨v, k1, hv, t1, y1⟩ := dr t (m := 6) (by omega) (by omega)
  have e0 : th_0 [some (.bd k), none, none, none, none, none, none, none, none] = .nx [some (.bd k1), some (.fz (.int (v : Nat))), none, none, none, none, none, none, none] := by
    have y1 : F__law_draw [.bd k, .fz (.int 6)] = _ := y1
    simp [th_0, y1]
  have e1' : th_1 [some (.bd k1), some (.fz (.int (v : Nat))), none, none, none, none, none, none, none] = .nx (Z k1 (v : Nat) [] none none) := by simp [th_1, Z, ringsT]
  have mid : ∃ k2 rs x3, Feed k2 ∧ goodC rs ∧ ∀ g, fSeq th_2 (fSeq th_3 (fSeq th_4 (fSeq th_5 (fSeq th_6 g)))) (Z k1 (v : Nat) [] none none) = g (Z k2 (v : Nat) rs x3 none) := by
    match v, hv with
    | 0, _ =>
      obtain ⟨k2, rs, x3, t2, h2, h3, y⟩ := piece0 t1 (rs0 := [])
      refine ⟨k2, rs, x3, t2, h2, fun g => ?_⟩
      unfold fSeq
      have y : th_2 (Z k1 ((0 : Nat) : Int) [] none none) = .nx (Z k2 ((0 : Nat) : Int) rs x3 none) := y
      rw [y]; dsimp only
      rw [skip3 (by decide)]; dsimp only
      rw [skip4 (by decide)]; dsimp only
      rw [skip5 (by decide)]; dsimp only
      rw [skip6 (by decide)]
    | 1, _ =>
      obtain ⟨k2, rs, t2, h2, y⟩ := piece1 t1 (rs0 := []) (x3 := none)
      refine ⟨k2, rs, none, t2, h2, fun g => ?_⟩
      have y : th_3 (Z k1 ((1 : Nat) : Int) [] none none) = .nx (Z k2 ((1 : Nat) : Int) rs none none) := y
      unfold fSeq
      rw [skip2 (by decide)]; dsimp only
      rw [y]; dsimp only
      rw [skip4 (by decide)]; dsimp only
      rw [skip5 (by decide)]; dsimp only
      rw [skip6 (by decide)]
    | 2, _ =>
      obtain ⟨k2, rs, t2, h2, y⟩ := piece2 t1 (rs0 := []) (x3 := none)
      refine ⟨k2, rs, none, t2, h2, fun g => ?_⟩
      have y : th_4 (Z k1 ((2 : Nat) : Int) [] none none) = .nx (Z k2 ((2 : Nat) : Int) rs none none) := y
      unfold fSeq
      rw [skip2 (by decide)]; dsimp only
      rw [skip3 (by decide)]; dsimp only
      rw [y]; dsimp only
      rw [skip5 (by decide)]; dsimp only
      rw [skip6 (by decide)]
    | 3, _ =>
      obtain ⟨k2, rs, t2, h2, y⟩ := piece3 t1 (rs0 := []) (x3 := none)
      refine ⟨k2, rs, none, t2, h2, fun g => ?_⟩
      have y : th_5 (Z k1 ((3 : Nat) : Int) [] none none) = .nx (Z k2 ((3 : Nat) : Int) rs none none) := y
      unfold fSeq
      rw [skip2 (by decide)]; dsimp only
      rw [skip3 (by decide)]; dsimp only
      rw [skip4 (by decide)]; dsimp only
      rw [y]; dsimp only
      rw [skip6 (by decide)]
    | v + 4, hv =>
      obtain ⟨k2, rs, t2, h2, y⟩ := piece4 t1 (vv := ((v + 4 : Nat) : Int)) (by omega) (rs0 := []) (x3 := none)
      refine ⟨k2, rs, none, t2, h2, fun g => ?_⟩
      unfold fSeq
      rw [skip2 (by omega)]; dsimp only
      rw [skip3 (by omega)]; dsimp only
      rw [skip4 (by omega)]; dsimp only
      rw [skip5 (by omega)]; dsimp only
      rw [y]
  obtain ⟨k2, rs, x3, t2, hg, m⟩ := mid
  obtain ⟨k3, rs', r', t3, ok, h0, y⟩ := end_eq t2 hg (v := (v : Nat)) (x3 := x3)
  refine ⟨k3, rs', t3, ok.1, ok.2.1, ok.2.2, ?_⟩
  have m := m (fSeq th_7 (fSeq th_8 (fSeq th_9 th_10)))
  rw [y] at m
  have b : b__law_thin [some (.bd k), none, none, none, none, none, none, none, none] = .rt (.fz (ringsT rs')) r' := by
    rw [thin_cut]
    unfold fSeq at m ⊢
    rw [e0]; dsimp only
    rw [e1']; dsimp only
    exact m
  rw [F__law_thin_eq]
  have st : startR 9 [.bd k] = [some (.bd k), none, none, none, none, none, none, none, none] := rfl
  rw [s_runF, st, b]
  show FR.ok (.fz (ringsT rs')) (outsL [.bd k] r') = _
  cases r' with
  | nil => cases h0
  | cons x r' =>
    cases h0
    rfl
end W_k91
namespace W_k91
open PySem PySem.Spec PyProof.Rows L2 GB
theorem out_no {w : List Nat} {p : Nat} (hl : w.length ≤ 100000) (h : ¬ p + 1 < w.length) : F_out_of [.fz (.str w), .fz (.int (p : Nat))] = .ok (.fz .non) [.fz (.str w), .fz (.int (p : Nat))] := by
  have hb : big w.length = true := big_of (by omega)
  have c : (w.length : Int) ≤ (p : Int) + 1 := by omega
  rw [F_out_of_eq]
  simp [b_out_of, hb, c]
theorem out_run {w u v : List Nat} {p n : Int} {x y z : Nat} {r : S} (l1 : fLen (.fz (.str w)) = some (.fz (.int n))) (c : ¬ n ≤ p + 1) (a1 : atI w p = some x) (a2 : atI w (p + 1) = some y) (b : F_back_of [.fz (.str [x])] = .ok (.fz (.str [z])) [.fz (.str [x])])
    (s1 : fSl (.fz (.str w)) (.fz .non) (.fz (.int p)) = some (.fz (.str u))) (s2 : fSl (.fz (.str w)) (.fz (.int (p + 2))) (.fz .non) = some (.fz (.str v))) (ad : fAdd (.fz (.str u)) (.fz (.str v)) = some r) (hb : big w.length = true) (hr : r.own = false) (hh : r.hard = false) (hk : r.lkd = false) (hz : ∃ d, r = .fz d) :
    F_out_of [.fz (.str w), .fz (.int p)] = .ok (if y = z then r else .fz .non) [.fz (.str w), .fz (.int p)] := by
  obtain ⟨d, rfl⟩ := hz
  rw [F_out_of_eq]
  by_cases e : y = z
  · simp [b_out_of, l1, c, a1, a2, b, s1, s2, ad, e, hb, -s_lenS, -s_addS]
  · simp [b_out_of, l1, c, a1, a2, b, s1, s2, ad, e, hb, -s_lenS, -s_addS]
theorem out_eq {w : List Nat} (hw : W w) {p : Nat} (hl : w.length ≤ 100000) : F_out_of [.fz (.str w), .fz (.int (p : Nat))] = .ok (outW (outO w p)) [.fz (.str w), .fz (.int (p : Nat))] := by
  by_cases h : p + 1 < w.length
  · have hb : big w.length = true := big_of (by omega)
    have h1 : w[p]? = some (w[p]'(by omega)) := List.getElem?_eq_getElem (by omega)
    have h2 : w[p + 1]? = some (w[p + 1]'(by omega)) := List.getElem?_eq_getElem (by omega)
    have hx := hw _ (List.getElem_mem (l := w) (n := p) (by omega))
    have a1 : atI w (p : Int) = some (w[p]'(by omega)) := by rw [atI_n]; exact h1
    have a2 : atI w ((p : Int) + 1) = some (w[p + 1]'(by omega)) := by rw [show (p : Int) + 1 = ((p + 1 : Nat) : Int) from by omega, atI_n]; exact h2
    have l1 : fLen (.fz (.str w)) = some (.fz (.int (w.length : Int))) := by rw [s_lenS]; exact if_pos hb
    have s1 := sl_to (w := w) (by omega) p
    have s2 := sl_from (w := w) (by omega) (p + 2)
    rw [show (((p + 2 : Nat) : Int)) = (p : Int) + 2 from by omega] at s2
    have ad : fAdd (.fz (.str (w.take p))) (.fz (.str (w.drop (p + 2)))) = some (.fz (.str (w.take p ++ w.drop (p + 2)))) := by
      rw [s_addS, if_pos (big_of (by rw [List.length_drop, List.length_take]; omega))]
    have r := out_run l1 (by omega) a1 a2 (back_of_eq hx) s1 s2 ad hb rfl rfl rfl ⟨_, rfl⟩
    rw [r]
    unfold outO
    rw [h1, h2]
    dsimp only
    split <;> rfl
  · rw [out_no hl h]
    have h2 : w[p + 1]? = none := List.getElem?_eq_none (by omega)
    unfold outO
    rw [h2]
    cases w[p]? <;> rfl
theorem ins_run {w u v r1 r2 r3 : List Nat} {p n : Int} {c z : Nat} (l1 : fLen (.fz (.str w)) = some (.fz (.int n))) (b : F_back_of [.fz (.str [c])] = .ok (.fz (.str [z])) [.fz (.str [c])])
    (s1 : fSl (.fz (.str w)) (.fz .non) (.fz (.int p)) = some (.fz (.str u))) (s2 : fSl (.fz (.str w)) (.fz (.int p)) (.fz .non) = some (.fz (.str v))) (ad1 : fAdd (.fz (.str u)) (.fz (.str [c])) = some (.fz (.str r1))) (ad2 : fAdd (.fz (.str r1)) (.fz (.str [z])) = some (.fz (.str r2))) (ad3 : fAdd (.fz (.str r2)) (.fz (.str v)) = some (.fz (.str r3))) :
    F_put_in [.fz (.str w), .fz (.int p), .fz (.str [c])] = .ok (if p ≤ n then .fz (.str r3) else .fz .non) [.fz (.str w), .fz (.int p), .fz (.str [c])] := by
  rw [F_put_in_eq]
  by_cases e : p ≤ n
  · have e' : ¬ n < p := by omega
    simp [b_put_in, l1, b, s1, s2, ad1, ad2, ad3, e, e', -s_lenS, -s_addS]
  · have e' : n < p := by omega
    simp [b_put_in, l1, e, e', -s_lenS, -s_addS]
theorem ins_eq {w : List Nat} {p c : Nat} (hl : w.length ≤ 100000) (hc : isL c = true) : F_put_in [.fz (.str w), .fz (.int (p : Nat)), .fz (.str [c])] = .ok (outW (insO w p c)) [.fz (.str w), .fz (.int (p : Nat)), .fz (.str [c])] := by
  have l1 : fLen (.fz (.str w)) = some (.fz (.int (w.length : Int))) := by rw [s_lenS]; exact if_pos (big_of (by omega))
  have r := ins_run (p := (p : Nat)) (r1 := w.take p ++ [c]) (r2 := w.take p ++ [c] ++ [bk c]) (r3 := w.take p ++ [c] ++ [bk c] ++ w.drop p) l1 (back_of_eq hc) (sl_to (by omega) p) (sl_from (by omega) p) (by rw [s_addS, if_pos (big_of (by simp; omega))]) (by rw [s_addS, if_pos (big_of (by simp; omega))]) (by rw [s_addS, if_pos (big_of (by simp; omega))])
  rw [r]
  unfold insO
  by_cases e : p ≤ w.length
  · rw [if_pos (by omega), if_pos e]; rfl
  · rw [if_neg (by omega), if_neg e]; rfl
theorem it_run {t r b d1 d2 : List Nat} {n m : Int} {i1 i2 : Bool} {x0 : Option S} (l1 : fLen (.fz (.str t)) = some (.fz (.int n))) (l2 : fLen (.fz (.str r)) = some (.fz (.int m))) (q1 : qMul [.fz (.str r), .fz (.int 2)] = some (.fz (.str d1))) (bb : F_back [.fz (.str r)] = .ok (.fz (.str b)) [.fz (.str r)]) (q2 : qMul [.fz (.str b), .fz (.int 2)] = some (.fz (.str d2)))
    (g1 : qIn [.fz (.str t), .fz (.str d1)] = some (.fz (.bl i1))) (g2 : qIn [.fz (.str t), .fz (.str d2)] = some (.fz (.bl i2))) :
    fb_is_turn_1 [x0, some (.fz (.str t)), some (.fz (.str r))] = (match (if decide (n = m) && (i1 || i2) then some (S.fz (.bl true)) else none) with | none => Fl.nx [x0, some (.fz (.str t)), some (.fz (.str r))] | some v => .rt v [x0, some (.fz (.str t)), some (.fz (.str r))]) := by
  by_cases e : n = m
  · cases i1 with
    | true => simp [fb_is_turn_1, l1, l2, q1, g1, e, -s_lenS, -s_qMulS]
    | false =>
      cases i2 with
      | true => simp [fb_is_turn_1, l1, l2, q1, g1, bb, q2, g2, e, -s_lenS, -s_qMulS]
      | false => simp [fb_is_turn_1, l1, l2, q1, g1, bb, q2, g2, e, -s_lenS, -s_qMulS]
  · simp [fb_is_turn_1, l1, l2, e, -s_lenS, -s_qMulS]
theorem it_turn {t r : List Nat} (ht : t.length ≤ 100000) (hr : W r) (hl : r.length ≤ 1000) {x0 : Option S} : fb_is_turn_1 [x0, some (.fz (.str t)), some (.fz (.str r))] = (match (if turnOf t r then some (S.fz (.bl true)) else none) with | none => Fl.nx [x0, some (.fz (.str t)), some (.fz (.str r))] | some v => .rt v [x0, some (.fz (.str t)), some (.fz (.str r))]) := by
  have l1 : fLen (.fz (.str t)) = some (.fz (.int (t.length : Int))) := by rw [s_lenS]; exact if_pos (big_of (by omega))
  have l2 : fLen (.fz (.str r)) = some (.fz (.int (r.length : Int))) := by rw [s_lenS]; exact if_pos (big_of (by omega))
  have h := it_run (x0 := x0) l1 l2 (dbl_mul hl) (back_eq hr (by omega)) (dbl_mul (by rw [bkw_len]; exact hl)) (in_txt t (r ++ r)) (in_txt t (bkw r ++ bkw r))
  have e : (decide ((t.length : Int) = (r.length : Int)) && ((subIx t (r ++ r)).isSome || (subIx t (bkw r ++ bkw r)).isSome)) = turnOf t r := by
    unfold turnOf
    congr 1
    exact decide_eq_decide.mpr (by omega)
  rw [e] at h
  exact h
theorem is_turn_eq {rs : List (List Nat)} (h : okRs rs) {t : List Nat} (ht : t.length ≤ 100000) : F_is_turn [.fz (ringsT rs), .fz (.str t)] = .ok (.fz (.bl (decide (t ∈ knownL rs)))) [.fz (ringsT rs), .fz (.str t)] := by
  obtain ⟨r2, ⟨x2, rfl, _⟩, y⟩ := forL_idx (fg := gNm 2) (f := fb_is_turn_1) (P := fun r => ∃ x2, r = [some (.fz (ringsT rs)), some (.fz (.str t)), x2] ∧ sf x2)
    (h := pickS rs (turnOf t) fun _ => S.fz (.bl true)) (ds := rs.map D.str) (r := [some (.fz (ringsT rs)), some (.fz (.str t)), none]) 0 ⟨none, rfl, sf_n⟩ (by
      rintro i d r hd ⟨x2, rfl, h2⟩
      rw [List.getElem?_map] at hd
      cases e : rs[i]? with
      | none => rw [e] at hd; cases hd
      | some b =>
        rw [e] at hd; cases hd
        obtain ⟨hw, hl, _⟩ := h.1 b (List.mem_of_getElem? e)
        refine ⟨[some (.fz (ringsT rs)), some (.fz (.str t)), some (.fz (.str b))], ?_, _, ⟨some (.fz (.str b)), rfl, sf_f⟩, ?_⟩
        · rcases h2 with rfl | ⟨z, rfl⟩ <;> simp
        · rw [Nat.zero_add, pickS_at e]; exact it_turn ht hw hl)
  rw [List.length_map] at y
  have f := firstN_find (l := rs) (p := turnOf t) (g := fun _ => S.fz (.bl true)) (m := rs) (k := 0) fun i x hx => by rw [Nat.zero_add]; exact hx
  rw [f] at y
  have a := turnOf_any (rs := rs) (fun r hr => (h.1 r hr).2.2) t
  have lp := for_lfz (fs := eCons (eVar 0) eNil) (mk := mkSeq) (fg := gNm 2) (f := fb_is_turn_1) (r := [some (.fz (ringsT rs)), some (.fz (.str t)), none]) (r1 := [some (.fz (ringsT rs)), some (.fz (.str t)), none]) (i := 0) (d := ringsT rs) (ds := rs.map D.str) (by simp) rfl rfl
  rw [y] at lp
  rw [F_is_turn_eq]
  cases c : rs.find? (turnOf t) with
  | none =>
    rw [c] at lp
    have z : rs.any (turnOf t) = false := by
      rw [← Bool.not_eq_true, List.any_eq_true]
      rintro ⟨x, hx, hh⟩
      exact List.find?_eq_none.mp c x hx hh
    rw [← a, z]
    simp [b_is_turn, lp, -s_fFor]
  | some b =>
    rw [c] at lp
    have z : rs.any (turnOf t) = true := List.any_eq_true.mpr ⟨b, List.mem_of_find?_eq_some c, List.find?_some c⟩
    rw [← a, z]
    simp [b_is_turn, lp, -s_fFor]
theorem rgd_run {R : D} {w t u1 u2 v1 v2 v3 v4 z1 z2 : List Nat} {p m n k : Int} {it : Bool} (l1 : fLen (.fz (.str t)) = some (.fz (.int n))) (l2 : fLen (.fz (.str w)) = some (.fz (.int k))) (e : F_is_turn [.fz R, .fz (.str t)] = .ok (.fz (.bl it)) [.fz R, .fz (.str t)])
    (s1 : fSl (.fz (.str w)) (.fz (.int p)) (.fz (.int (p + m))) = some (.fz (.str u1))) (s2 : fSl (.fz (.str t)) (.fz .non) (.fz (.int m)) = some (.fz (.str u2))) (s3 : fSl (.fz (.str w)) (.fz .non) (.fz (.int p)) = some (.fz (.str v1))) (s4 : fSl (.fz (.str t)) (.fz (.int m)) (.fz .non) = some (.fz (.str v2)))
    (bb : F_back [.fz (.str v2)] = .ok (.fz (.str v3)) [.fz (.str v2)]) (s5 : fSl (.fz (.str w)) (.fz (.int (p + m))) (.fz .non) = some (.fz (.str v4))) (a1 : fAdd (.fz (.str v1)) (.fz (.str v3)) = some (.fz (.str z1))) (a2 : fAdd (.fz (.str z1)) (.fz (.str v4)) = some (.fz (.str z2))) :
    F_ringed [.fz R, .fz (.str w), .fz (.int p), .fz (.str t), .fz (.int m)] = .ok (if m ≤ n ∧ p + m ≤ k ∧ it = true ∧ u1 = u2 then .fz (.str z2) else .fz .non) [.fz R, .fz (.str w), .fz (.int p), .fz (.str t), .fz (.int m)] := by
  rw [F_ringed_eq]
  by_cases c1 : m ≤ n
  · have d1 : ¬ n < m := by omega
    by_cases c2 : p + m ≤ k
    · have d2 : ¬ k < p + m := by omega
      cases it with
      | false => simp [b_ringed, l1, l2, c1, d1, c2, d2, e, -s_lenS]
      | true =>
        by_cases c3 : u1 = u2
        · simp [b_ringed, l1, l2, c1, d1, c2, d2, e, s1, s2, s3, s4, s5, bb, a1, a2, c3, -s_lenS, -s_addS]
        · simp [b_ringed, l1, l2, c1, d1, c2, d2, e, s1, s2, c3, -s_lenS, -s_addS]
    · have d2 : k < p + m := by omega
      simp [b_ringed, l1, l2, c1, d1, c2, d2, -s_lenS]
  · have d1 : n < m := by omega
    simp [b_ringed, l1, c1, d1, -s_lenS]
theorem ringed_eq {rs : List (List Nat)} (h : okRs rs) {w t : List Nat} {p m : Nat} (hl : w.length ≤ 100000) (ht : W t) (htl : t.length ≤ 1000) : F_ringed [.fz (ringsT rs), .fz (.str w), .fz (.int (p : Nat)), .fz (.str t), .fz (.int (m : Nat))] = .ok (outW (ringO rs w p t m)) [.fz (ringsT rs), .fz (.str w), .fz (.int (p : Nat)), .fz (.str t), .fz (.int (m : Nat))] := by
  have pm : ((p : Int) + (m : Int)) = ((p + m : Nat) : Int) := by omega
  have l1 : fLen (.fz (.str t)) = some (.fz (.int (t.length : Int))) := by rw [s_lenS]; exact if_pos (big_of (by omega))
  have l2 : fLen (.fz (.str w)) = some (.fz (.int (w.length : Int))) := by rw [s_lenS]; exact if_pos (big_of (by omega))
  have r := rgd_run (R := ringsT rs) (p := (p : Nat)) (m := (m : Nat)) (u1 := (w.take (p + m)).drop p) (u2 := t.take m) (v1 := w.take p) (v2 := t.drop m) (v3 := bkw (t.drop m)) (v4 := w.drop (p + m)) (z1 := w.take p ++ bkw (t.drop m)) (z2 := w.take p ++ bkw (t.drop m) ++ w.drop (p + m)) l1 l2
    (is_turn_eq h (by omega)) (by rw [pm]; exact sl_nn (by omega) p (p + m)) (sl_to (by omega) m) (sl_to (by omega) p) (sl_from (by omega) m) (back_eq (ht.drop m) (by rw [List.length_drop]; omega)) (by rw [pm]; exact sl_from (by omega) (p + m))
    (by rw [s_addS, if_pos (big_of (by rw [List.length_take, bkw_len, List.length_drop]; omega))]) (by rw [s_addS, if_pos (big_of (by simp only [List.length_append, List.length_take, bkw_len, List.length_drop]; omega))])
  rw [r]
  unfold ringO
  have e : ((m : Int) ≤ (t.length : Int) ∧ (p : Int) + (m : Int) ≤ (w.length : Int) ∧ decide (t ∈ knownL rs) = true ∧ (w.take (p + m)).drop p = t.take m) ↔ (m ≤ t.length ∧ p + m ≤ w.length ∧ t ∈ knownL rs ∧ (w.take (p + m)).drop p = t.take m) := by
    rw [decide_eq_true_iff]
    constructor
    · rintro ⟨a, b, c⟩; exact ⟨by omega, by omega, c⟩
    · rintro ⟨a, b, c⟩; exact ⟨by omega, by omega, c⟩
  by_cases z : m ≤ t.length ∧ p + m ≤ w.length ∧ t ∈ knownL rs ∧ (w.take (p + m)).drop p = t.take m
  · rw [if_pos (e.mpr z), if_pos z]; rfl
  · rw [if_neg (fun q => z (e.mp q)), if_neg z]; rfl
theorem bh_end {o : Option (List Nat)} (hb : ∀ u, o = some u → big u.length = true) {x0 x1 x2 : Option S} : fSeq (fIf (eAndT (eBl (e2 (p2 fIsNot) (eVar 3) (eC .non))) (eBl (e2 qGt (e1 (p1 fLen) (eVar 3)) (eC (.int 2000))))) (fRet (eC .non)) fNil) (fRet (eVar 3)) [x0, x1, x2, some (outW o)] = .rt (outW (cutO o)) [x0, x1, x2, some (outW o)] := by
  cases o with
  | none => simp [outW, cutO, D.isNon]
  | some u =>
    have h := hb u rfl
    by_cases c : u.length ≤ 2000
    · have c' : ¬ (2000 : Int) < (u.length : Int) := by omega
      simp [outW, cutO, D.isNon, h, c, c']
    · have c' : (2000 : Int) < (u.length : Int) := by omega
      simp [outW, cutO, D.isNon, h, c, c']
theorem bh_out {R : D} {w : List Nat} {p : Int} {o : Option (List Nat)} (hb : ∀ u, o = some u → big u.length = true) (e : F_out_of [.fz (.str w), .fz (.int p)] = .ok (outW o) [.fz (.str w), .fz (.int p)]) :
    F_behind [.fz R, .fz (.str w), .fz (.tup [.str [111, 117, 116], .int p])] = .ok (outW (cutO o)) [.fz R, .fz (.str w), .fz (.tup [.str [111, 117, 116], .int p])] := by
  have h : ∃ d, outW o = .fz d := by cases o <;> exact ⟨_, rfl⟩
  have z := fun x0 x1 x2 => bh_end hb (x0 := x0) (x1 := x1) (x2 := x2)
  obtain ⟨d, hd⟩ := h
  rw [hd] at e z
  have g : ∃ d, outW (cutO o) = .fz d := by cases cutO o <;> exact ⟨_, rfl⟩
  obtain ⟨d', hd'⟩ := g
  rw [hd'] at z ⊢
  rw [F_behind_eq]
  have e0 : b_behind [some (.fz R), some (.fz (.str w)), some (.fz (.tup [.str [111, 117, 116], .int p])), none] = .rt (.fz d') [some (.fz R), some (.fz (.str w)), some (.fz (.tup [.str [111, 117, 116], .int p])), some (.fz d)] := by
    unfold b_behind
    rw [s_fSeq]
    have a : fIf (eBl (e2 (p2 fEq) (e2 qIx (eVar 2) (eC (.int 0))) (eC (.str [111, 117, 116])))) (fSet 3 (eFn F_out_of (eCons (eVar 1) (eCons (e2 qIx (eVar 2) (eC (.int 1))) eNil)))) (fIf (eBl (e2 (p2 fEq) (e2 qIx (eVar 2) (eC (.int 0))) (eC (.str [105, 110])))) (fSet 3 (eFn F_put_in (eCons (eVar 1) (eCons (e2 qIx (eVar 2) (eC (.int 1))) (eCons (e2 qIx (eVar 2) (eC (.int 2))) eNil))))) (fSet 3 (eFn F_ringed (eCons (eVar 0) (eCons (eVar 1) (eCons (e2 qIx (eVar 2) (eC (.int 1))) (eCons (e2 qIx (eVar 2) (eC (.int 2))) (eCons (e2 qIx (eVar 2) (eC (.int 3))) eNil)))))))) [some (.fz R), some (.fz (.str w)), some (.fz (.tup [.str [111, 117, 116], .int p])), none] = .nx [some (.fz R), some (.fz (.str w)), some (.fz (.tup [.str [111, 117, 116], .int p])), some (.fz d)] := by
      simp [e]
    rw [a]
    exact z _ _ _
  simp [e0]
theorem bh_ins {R : D} {w : List Nat} {p : Int} {c : List Nat} {o : Option (List Nat)} (hb : ∀ u, o = some u → big u.length = true) (e : F_put_in [.fz (.str w), .fz (.int p), .fz (.str c)] = .ok (outW o) [.fz (.str w), .fz (.int p), .fz (.str c)]) :
    F_behind [.fz R, .fz (.str w), .fz (.tup [.str [105, 110], .int p, .str c])] = .ok (outW (cutO o)) [.fz R, .fz (.str w), .fz (.tup [.str [105, 110], .int p, .str c])] := by
  have h : ∃ d, outW o = .fz d := by cases o <;> exact ⟨_, rfl⟩
  have z := fun x0 x1 x2 => bh_end hb (x0 := x0) (x1 := x1) (x2 := x2)
  obtain ⟨d, hd⟩ := h
  rw [hd] at e z
  have g : ∃ d, outW (cutO o) = .fz d := by cases cutO o <;> exact ⟨_, rfl⟩
  obtain ⟨d', hd'⟩ := g
  rw [hd'] at z ⊢
  rw [F_behind_eq]
  have e0 : b_behind [some (.fz R), some (.fz (.str w)), some (.fz (.tup [.str [105, 110], .int p, .str c])), none] = .rt (.fz d') [some (.fz R), some (.fz (.str w)), some (.fz (.tup [.str [105, 110], .int p, .str c])), some (.fz d)] := by
    unfold b_behind
    rw [s_fSeq]
    have a : fIf (eBl (e2 (p2 fEq) (e2 qIx (eVar 2) (eC (.int 0))) (eC (.str [111, 117, 116])))) (fSet 3 (eFn F_out_of (eCons (eVar 1) (eCons (e2 qIx (eVar 2) (eC (.int 1))) eNil)))) (fIf (eBl (e2 (p2 fEq) (e2 qIx (eVar 2) (eC (.int 0))) (eC (.str [105, 110])))) (fSet 3 (eFn F_put_in (eCons (eVar 1) (eCons (e2 qIx (eVar 2) (eC (.int 1))) (eCons (e2 qIx (eVar 2) (eC (.int 2))) eNil))))) (fSet 3 (eFn F_ringed (eCons (eVar 0) (eCons (eVar 1) (eCons (e2 qIx (eVar 2) (eC (.int 1))) (eCons (e2 qIx (eVar 2) (eC (.int 2))) (eCons (e2 qIx (eVar 2) (eC (.int 3))) eNil)))))))) [some (.fz R), some (.fz (.str w)), some (.fz (.tup [.str [105, 110], .int p, .str c])), none] = .nx [some (.fz R), some (.fz (.str w)), some (.fz (.tup [.str [105, 110], .int p, .str c])), some (.fz d)] := by
      simp [e]
    rw [a]
    exact z _ _ _
  simp [e0]
theorem bh_ring {R : D} {w : List Nat} {p m : Int} {c : List Nat} {o : Option (List Nat)} (hb : ∀ u, o = some u → big u.length = true) (e : F_ringed [.fz R, .fz (.str w), .fz (.int p), .fz (.str c), .fz (.int m)] = .ok (outW o) [.fz R, .fz (.str w), .fz (.int p), .fz (.str c), .fz (.int m)]) :
    F_behind [.fz R, .fz (.str w), .fz (.tup [.str [114, 105, 110, 103], .int p, .str c, .int m])] = .ok (outW (cutO o)) [.fz R, .fz (.str w), .fz (.tup [.str [114, 105, 110, 103], .int p, .str c, .int m])] := by
  have h : ∃ d, outW o = .fz d := by cases o <;> exact ⟨_, rfl⟩
  have z := fun x0 x1 x2 => bh_end hb (x0 := x0) (x1 := x1) (x2 := x2)
  obtain ⟨d, hd⟩ := h
  rw [hd] at e z
  have g : ∃ d, outW (cutO o) = .fz d := by cases cutO o <;> exact ⟨_, rfl⟩
  obtain ⟨d', hd'⟩ := g
  rw [hd'] at z ⊢
  rw [F_behind_eq]
  have e0 : b_behind [some (.fz R), some (.fz (.str w)), some (.fz (.tup [.str [114, 105, 110, 103], .int p, .str c, .int m])), none] = .rt (.fz d') [some (.fz R), some (.fz (.str w)), some (.fz (.tup [.str [114, 105, 110, 103], .int p, .str c, .int m])), some (.fz d)] := by
    unfold b_behind
    rw [s_fSeq]
    have a : fIf (eBl (e2 (p2 fEq) (e2 qIx (eVar 2) (eC (.int 0))) (eC (.str [111, 117, 116])))) (fSet 3 (eFn F_out_of (eCons (eVar 1) (eCons (e2 qIx (eVar 2) (eC (.int 1))) eNil)))) (fIf (eBl (e2 (p2 fEq) (e2 qIx (eVar 2) (eC (.int 0))) (eC (.str [105, 110])))) (fSet 3 (eFn F_put_in (eCons (eVar 1) (eCons (e2 qIx (eVar 2) (eC (.int 1))) (eCons (e2 qIx (eVar 2) (eC (.int 2))) eNil))))) (fSet 3 (eFn F_ringed (eCons (eVar 0) (eCons (eVar 1) (eCons (e2 qIx (eVar 2) (eC (.int 1))) (eCons (e2 qIx (eVar 2) (eC (.int 2))) (eCons (e2 qIx (eVar 2) (eC (.int 3))) eNil)))))))) [some (.fz R), some (.fz (.str w)), some (.fz (.tup [.str [114, 105, 110, 103], .int p, .str c, .int m])), none] = .nx [some (.fz R), some (.fz (.str w)), some (.fz (.tup [.str [114, 105, 110, 103], .int p, .str c, .int m])), some (.fz d)] := by
      simp [e]
    rw [a]
    exact z _ _ _
  simp [e0]
theorem behind_eq {rs : List (List Nat)} (h : okRs rs) {w : List Nat} (hw : W w) (hl : w.length ≤ 100000) {s : Stp} (hs : stepOk s) : F_behind [.fz (ringsT rs), .fz (.str w), .fz (stepD s)] = .ok (outW (stepO rs w s)) [.fz (ringsT rs), .fz (.str w), .fz (stepD s)] := by
  have hb : ∀ u, rawO rs w s = some u → big u.length = true := fun u hu => big_of (by have := (rawO_W hw hs hu).2; omega)
  cases s with
  | out p => exact bh_out hb (out_eq hw hl)
  | ins p c => exact bh_ins hb (ins_eq hl hs.2)
  | ring p t m => exact bh_ring hb (ringed_eq h hl hs.2.1 hs.2.2.1)
end W_k91
namespace W_k91
open PySem PySem.Spec PyProof.Rows L2 GB
theorem drN {k : List (Key × D)} (t : Feed k) {m : Nat} (h : 0 < m) (h2 : m < 1000000) : ∃ n k', n < m ∧ Feed k' ∧ F__law_draw [.bd k, .fz (.int (m : Nat))] = .ok (.fz (.int (n : Nat))) [.bd k', .fz (.int (m : Nat))] := by
  obtain ⟨v, k2, h0, hv, t2, y2⟩ := draw_eq t (many := (m : Int)) (by omega) (by omega)
  obtain ⟨n, rfl⟩ := Int.eq_ofNat_of_zero_le h0
  exact ⟨n, k2, by omega, t2, y2⟩
theorem lnS {u : List Nat} (h : u.length ≤ 1000000) : fLen (.fz (.str u)) = some (.fz (.int (u.length : Int))) := by rw [s_lenS]; exact if_pos (big_of (by omega))
theorem adS {a b : List Nat} (h : a.length + b.length ≤ 1000000) : fAdd (.fz (.str a)) (.fz (.str b)) = some (.fz (.str (a ++ b))) := by rw [s_addS, if_pos (big_of (by omega))]
theorem half_eq {t : List Nat} (h : t.length ≤ 100000) : F_half_of [.fz (.str t)] = .ok (.fz (.str (halfL t))) [.fz (.str t)] := by
  have l1 := lnS (u := t) (by omega)
  have s1 := sl_to (w := t) (by omega) (t.length / 2 + 1)
  have e : ((t.length / 2 + 1 : Nat) : Int) = (t.length : Int) / 2 + 1 := by omega
  rw [e] at s1
  rw [F_half_of_eq]
  generalize hk : (t.length : Int) = k at *
  simp [b_half_of, l1, s1, fDivI, halfL, -s_lenS]
/-- what is left of the list -/
def outD (w : List Nat) : D → List D
  | .int i => if w[i.toNat + 1]? = (w[i.toNat]?).map bk then [.tup [.str [111, 117, 116], .int i]] else []
  | _ => []
theorem outs_lc {w : List Nat} (hw : W w) (hl : w.length ≤ 100000) : eLc (eCons (e2 (p2 (fInts fun i j => some (.fz (.int (i - j))))) (e1 (p1 fLen) (eVar 0)) (eC (.int 1))) eNil) mkR1 (gNm 1) ct_out_steps_1 ce_out_steps_1 [1] [some (.fz (.str w)), none] = .ok (.val (.ol ((upFrom 0 (w.length - 1)).flatMap (outD w)))) [some (.fz (.str w)), none] := by
  have c := cmpL_each (fg := gNm 1) (ft := ct_out_steps_1) (fe := ce_out_steps_1) (vs := [1]) (r0 := [some (.fz (.str w)), none]) (outD w) (ds := upFrom 0 (w.length - 1)) (acc := []) (by rw [upFrom_len]; simp; omega) (by
    intro d hd
    obtain ⟨i, hi⟩ := List.getElem?_of_mem hd
    obtain ⟨h1, rfl⟩ := upFrom_get hi
    have hx : w[i]? = some (w[i]'(by omega)) := List.getElem?_eq_getElem (by omega)
    have hy : w[i + 1]? = some (w[i + 1]'(by omega)) := List.getElem?_eq_getElem (by omega)
    have hL := hw _ (List.getElem_mem (l := w) (n := i) (by omega))
    generalize w[i]'(by omega) = x at hx hL
    generalize w[i + 1]'(by omega) = y at hy
    have a1 : atI w (0 + (i : Nat) : Int) = some x := by rw [show (0 + (i : Nat) : Int) = ((i : Nat) : Int) from by omega, atI_n]; exact hx
    have a2 : atI w ((0 + (i : Nat) : Int) + 1) = some y := by rw [show (0 + (i : Nat) : Int) + 1 = ((i + 1 : Nat) : Int) from by omega, atI_n]; exact hy
    have bb := back_of_eq hL
    have hb : big w.length = true := big_of (by omega)
    have e : outD w (.int (0 + (i : Nat))) = if y = bk x then [.tup [.str [111, 117, 116], .int (0 + (i : Nat))]] else [] := by
      unfold outD
      dsimp only
      rw [show (0 + (i : Nat) : Int).toNat = i from by omega, hx, hy]
      simp
    rw [e]
    generalize (0 + (i : Nat) : Int) = j at a1 a2
    by_cases z : y = bk x
    · simp [cturn, ct_out_steps_1, ce_out_steps_1, a1, a2, bb, hb, z]
    · simp [cturn, ct_out_steps_1, ce_out_steps_1, a1, a2, bb, hb, z])
  rw [List.nil_append] at c
  have hb : big w.length = true := big_of (by omega)
  have m : mkR1 [.fz (.int ((w.length : Int) - 1))] = some (upFrom 0 (w.length - 1)) := by
    by_cases h0 : w.length = 0
    · rw [h0]; rfl
    · rw [show (w.length : Int) - 1 = ((w.length - 1 : Nat) : Int) from by omega]
      exact mkR1_n (by omega)
  exact lc_fz (d := .int ((w.length : Int) - 1)) (r1 := [some (.fz (.str w)), none]) (by simp [hb]) m (by simp) c
theorem outs_eq {rs : List (List Nat)} {w : List Nat} (hw : W w) (hl : w.length ≤ 2000) : ∃ M : List D, F_out_steps [.fz (.str w)] = .ok (.ol M) [.fz (.str w)] ∧ (∀ d ∈ M, ∃ s, d = stepD s ∧ goodS rs w s) ∧ (M = [] ↔ tidy w = true) := by
  have lc := outs_lc hw (by omega)
  have hm : ∀ d ∈ (upFrom 0 (w.length - 1)).flatMap (outD w), ∃ i : Nat, d = stepD (.out i) ∧ w[i + 1]? = (w[i]?).map bk ∧ i + 1 < w.length := fun d hd => by
    obtain ⟨d', h1, h2⟩ := List.mem_flatMap.mp hd
    obtain ⟨i, hi⟩ := List.getElem?_of_mem h1
    obtain ⟨h3, rfl⟩ := upFrom_get hi
    have h2 : d ∈ (if w[(0 + (i : Nat) : Int).toNat + 1]? = (w[(0 + (i : Nat) : Int).toNat]?).map bk then [D.tup [.str [111, 117, 116], .int (0 + (i : Nat))]] else []) := h2
    rw [show (0 + (i : Nat) : Int).toNat = i from by omega, show (0 + (i : Nat) : Int) = ((i : Nat) : Int) from by omega] at h2
    split at h2
    · rename_i z
      rw [List.mem_singleton] at h2
      exact ⟨i, h2, z, by omega⟩
    · exact (nomatch h2)
  have hb : ∀ i : Nat, i + 1 < w.length → w[i + 1]? = (w[i]?).map bk → (upFrom 0 (w.length - 1)).flatMap (outD w) ≠ [] := fun i hi he z => by
    have h1 : D.int (i : Nat) ∈ upFrom 0 (w.length - 1) := by
      have e := upFrom_map (lo := 0) (n := w.length - 1)
      have e : upFrom 0 (w.length - 1) = _ := e
      rw [e]
      exact List.mem_map.mpr ⟨i, List.mem_range.mpr (by omega), by rw [Nat.zero_add]⟩
    have h2 : D.tup [.str [111, 117, 116], .int (i : Nat)] ∈ (upFrom 0 (w.length - 1)).flatMap (outD w) := by
      refine List.mem_flatMap.mpr ⟨_, h1, ?_⟩
      show _ ∈ (if w[((i : Nat) : Int).toNat + 1]? = (w[((i : Nat) : Int).toNat]?).map bk then [D.tup [.str [111, 117, 116], .int ((i : Nat) : Int)]] else [])
      rw [show ((i : Nat) : Int).toNat = i from by omega, if_pos he]
      exact List.mem_singleton.mpr rfl
    rw [z] at h2
    exact (nomatch h2)
  generalize (upFrom 0 (w.length - 1)).flatMap (outD w) = M at *
  refine ⟨M, ?_, fun d hd => ?_, ?_⟩
  · rw [F_out_steps_eq]
    simp [b_out_steps, lc, -s_eLc]
  · obtain ⟨i, e, h1, h2⟩ := hm d hd
    exact ⟨.out i, e, out_good hl h1 h2⟩
  · rw [tidy_ix hw]
    constructor
    · intro z k x y hx hy e
      have lt : k + 1 < w.length := (List.getElem?_eq_some_iff.mp hy).1
      exact hb k lt (by rw [hx, hy, e]; rfl) z
    · intro z
      cases M with
      | nil => rfl
      | cons d M =>
        obtain ⟨i, _, h1, h2⟩ := hm d (List.mem_cons_self ..)
        have hx : w[i]? = some (w[i]'(by omega)) := List.getElem?_eq_getElem (by omega)
        rw [hx] at h1
        exact absurd rfl (z i _ _ hx h1)
theorem rs_test {X0 : Option S} {w t h : List Nat} {p k : Nat} (hwl : w.length ≤ 100000) (htl : t.length ≤ 100000) (hk : k ≤ lcp t (w.drop p)) : wt_ring_step_1 [X0, some (.fz (.str w)), some (.fz (.str t)), some (.fz (.str h)), some (.fz (.int (p : Nat))), some (.fz (.int (k : Nat)))] = .ok (decide (k < lcp t (w.drop p))) [X0, some (.fz (.str w)), some (.fz (.str t)), some (.fz (.str h)), some (.fz (.int (p : Nat))), some (.fz (.int (k : Nat)))] := by
  have l1 := lnS (u := t) (by omega)
  have hb : big t.length = true := big_of (by omega)
  obtain ⟨g1, g2⟩ := lcp_le t (w.drop p)
  by_cases c1 : k < t.length
  · have s1 := sl_nn (w := w) (by omega) (p + k) (p + k + 1)
    rw [one_at, show (((p + k + 1 : Nat)) : Int) = (p : Int) + (k : Int) + 1 from by omega, show (((p + k : Nat)) : Int) = (p : Int) + (k : Int) from by omega] at s1
    have hx : t[k]? = some t[k] := List.getElem?_eq_getElem c1
    have a1 : atI t (k : Int) = some t[k] := by rw [atI_n]; exact hx
    have e : (w[p + k]?).toList = [t[k]] ↔ k < lcp t (w.drop p) := by
      have wd : (w.drop p)[k]? = w[p + k]? := List.getElem?_drop
      constructor
      · intro z
        refine Classical.byContradiction fun n => ?_
        have ek : k = lcp t (w.drop p) := by omega
        have hw : w[p + k]? = some t[k] := by
          cases q : w[p + k]? with
          | none => rw [q] at z; cases z
          | some y => rw [q] at z; have := (List.cons.inj z).1; rw [this]
        have lt : k < (w.drop p).length := by
          have := (List.getElem?_eq_some_iff.mp (wd.trans hw)).1
          exact this
        have := lcp_stop t (w.drop p) (by omega) (by omega)
        rw [← ek, wd, hw] at this
        exact this hx
      · intro z
        have := lcp_at t (w.drop p) k z
        rw [wd, hx] at this
        rw [← this]; rfl
    have q : (k : Int) < (t.length : Int) := by omega
    generalize (w[p + k]?).toList = a at e s1
    generalize t[k] = x at *
    by_cases c : k < lcp t (w.drop p)
    · have e := e.mpr c
      rw [decide_eq_true c]
      subst e
      generalize (t.length : Int) = n at *
      generalize ((p : Nat) : Int) = p' at *
      generalize ((k : Nat) : Int) = k' at *
      simp [wt_ring_step_1, l1, q, s1, a1, hb, -s_lenS]
    · have e : ¬ a = [x] := fun z => c (e.mp z)
      rw [decide_eq_false c]
      generalize (t.length : Int) = n at *
      generalize ((p : Nat) : Int) = p' at *
      generalize ((k : Nat) : Int) = k' at *
      simp [wt_ring_step_1, l1, q, s1, a1, hb, e, -s_lenS]
  · have c : ¬ k < lcp t (w.drop p) := by omega
    have q : ¬ (k : Int) < (t.length : Int) := by omega
    rw [decide_eq_false c]
    simp [wt_ring_step_1, l1, q, -s_lenS]
theorem rs_while {X0 : Option S} {w t h : List Nat} {p n : Nat} (hwl : w.length ≤ 100000) (htl : t.length ≤ 100000) (hn : n ≤ lcp t (w.drop p)) : fWhile wt_ring_step_1 wb_ring_step_1 [X0, some (.fz (.str w)), some (.fz (.str t)), some (.fz (.str h)), some (.fz (.int (p : Nat))), some (.fz (.int (n : Nat)))] = .nx [X0, some (.fz (.str w)), some (.fz (.str t)), some (.fz (.str h)), some (.fz (.int (p : Nat))), some (.fz (.int ((lcp t (w.drop p) : Nat) : Int)))] := by
  have st : ∀ k : Nat, wb_ring_step_1 [X0, some (.fz (.str w)), some (.fz (.str t)), some (.fz (.str h)), some (.fz (.int (p : Nat))), some (.fz (.int (k : Nat)))] = .nx [X0, some (.fz (.str w)), some (.fz (.str t)), some (.fz (.str h)), some (.fz (.int (p : Nat))), some (.fz (.int ((k + 1 : Nat) : Int)))] := fun k => by simp [wb_ring_step_1]
  obtain ⟨r', y, rfl⟩ := fWhile_go (ft := wt_ring_step_1) (f := wb_ring_step_1) (fun n r => ∃ k, k + n = lcp t (w.drop p) ∧ r = [X0, some (.fz (.str w)), some (.fz (.str t)), some (.fz (.str h)), some (.fz (.int (p : Nat))), some (.fz (.int (k : Nat)))]) (fun r => r = [X0, some (.fz (.str w)), some (.fz (.str t)), some (.fz (.str h)), some (.fz (.int (p : Nat))), some (.fz (.int ((lcp t (w.drop p) : Nat) : Int)))]) (by
    rintro n r ⟨k, hk, rfl⟩
    have tt := rs_test (X0 := X0) (h := h) hwl htl (p := p) (k := k) (by omega)
    by_cases c : k < lcp t (w.drop p)
    · rw [decide_eq_true c] at tt
      exact .inr ⟨_, _, n - 1, tt, .inl (st k), by omega, k + 1, by omega, rfl⟩
    · rw [decide_eq_false c] at tt
      exact .inl ⟨_, tt, by rw [show k = lcp t (w.drop p) from by omega]⟩) (lcp t (w.drop p) - n) [X0, some (.fz (.str w)), some (.fz (.str t)), some (.fz (.str h)), some (.fz (.int (p : Nat))), some (.fz (.int (n : Nat)))] ⟨n, by omega, rfl⟩
  exact y
theorem rs_no {X0 : Option S} {w t h : List Nat} {x3 x4 x5 : Option S} (h3 : sf x3) (h4 : sf x4) (hf : F_half_of [.fz (.str t)] = .ok (.fz (.str h)) [.fz (.str t)]) (fi : fFind (.fz (.str w)) (.fz (.str h)) = some (.fz (.int (-1)))) :
    fb_ring_step_2 [X0, some (.fz (.str w)), some (.fz (.str t)), x3, x4, x5] = .nx [X0, some (.fz (.str w)), some (.fz (.str t)), some (.fz (.str h)), some (.fz (.int (-1))), x5] := by
  rcases h3 with rfl | ⟨z, rfl⟩ <;> rcases h4 with rfl | ⟨z', rfl⟩ <;> simp [fb_ring_step_2, hf, fi]
theorem rs_yes {X0 : Option S} {w t h : List Nat} {p n m : Nat} {x3 x4 x5 : Option S} (h3 : sf x3) (h4 : sf x4) (h5 : sf x5) (hf : F_half_of [.fz (.str t)] = .ok (.fz (.str h)) [.fz (.str t)]) (fi : fFind (.fz (.str w)) (.fz (.str h)) = some (.fz (.int (p : Nat)))) (l1 : fLen (.fz (.str h)) = some (.fz (.int (n : Nat))))
    (wh : fWhile wt_ring_step_1 wb_ring_step_1 [X0, some (.fz (.str w)), some (.fz (.str t)), some (.fz (.str h)), some (.fz (.int (p : Nat))), some (.fz (.int (n : Nat)))] = .nx [X0, some (.fz (.str w)), some (.fz (.str t)), some (.fz (.str h)), some (.fz (.int (p : Nat))), some (.fz (.int (m : Nat)))]) :
    fb_ring_step_2 [X0, some (.fz (.str w)), some (.fz (.str t)), x3, x4, x5] = .rt (.fz (.tup [.str [114, 105, 110, 103], .int (p : Nat), .str t, .int (m : Nat)])) [X0, some (.fz (.str w)), some (.fz (.str t)), some (.fz (.str h)), some (.fz (.int (p : Nat))), some (.fz (.int (m : Nat)))] := by
  have q : (0 : Int) ≤ (p : Nat) := by omega
  generalize ((p : Nat) : Int) = p' at *
  generalize ((n : Nat) : Int) = n' at *
  generalize ((m : Nat) : Int) = m' at *
  rcases h3 with rfl | ⟨z, rfl⟩ <;> rcases h4 with rfl | ⟨z', rfl⟩ <;> rcases h5 with rfl | ⟨z', rfl⟩ <;> simp [fb_ring_step_2, hf, fi, l1, wh, q, -s_lenS]
theorem rs_turn {X0 : Option S} {l : List (List Nat)} {w t : List Nat} {i : Nat} (hi : l[i]? = some t) (hwl : w.length ≤ 100000) (htl : t.length ≤ 100000) (hne : t ≠ []) {x3 x4 x5 : Option S} (h3 : sf x3) (h4 : sf x4) (h5 : sf x5) : ∃ r2, (∃ x2 x3 x4 x5, sf x2 ∧ sf x3 ∧ sf x4 ∧ sf x5 ∧ r2 = [X0, some (.fz (.str w)), x2, x3, x4, x5]) ∧
    fb_ring_step_2 [X0, some (.fz (.str w)), some (.fz (.str t)), x3, x4, x5] = (match rsH l w i with | none => Fl.nx r2 | some v => .rt v r2) := by
  have hf := half_eq htl
  have fi : fFind (.fz (.str w)) (.fz (.str (halfL t))) = some (.fz (.int (match subIx (halfL t) w with | some n => (n : Int) | none => -1))) := rfl
  rw [rsH_at hi]
  cases q : subIx (halfL t) w with
  | none =>
    rw [q] at fi
    exact ⟨_, ⟨_, _, _, _, sf_f, sf_f, sf_f, h5, rfl⟩, rs_no h3 h4 hf fi⟩
  | some p =>
    rw [q] at fi
    obtain ⟨g1, g2, g3⟩ := half_lcp hne q
    have l1 := lnS (u := halfL t) (by rw [half_len hne]; omega)
    have wh := rs_while (X0 := X0) (h := halfL t) hwl htl (p := p) (n := (halfL t).length) (by rw [half_len hne]; exact g2)
    exact ⟨_, ⟨_, _, _, _, sf_f, sf_f, sf_f, sf_f, rfl⟩, rs_yes h3 h4 h5 hf fi l1 wh⟩
def KnF (K : S) (l : List (List Nat)) : Prop := K = .br (l.map D.str) ∨ K = .fz (.lst (l.map D.str))
theorem rs_loop {X0 : Option S} {l : List (List Nat)} {w : List Nat} (hwl : w.length ≤ 100000) (hl : ∀ t ∈ l, t.length ≤ 100000 ∧ t ≠ []) : ∃ r2, (∃ x2 x3 x4 x5, r2 = [X0, some (.fz (.str w)), x2, x3, x4, x5]) ∧
    forL (gNm 2) fb_ring_step_2 (l.map D.str) [X0, some (.fz (.str w)), none, none, none, none] = (match firstN (rsH l w) 0 l.length with | none => Fl.nx r2 | some v => .rt v r2) := by
  obtain ⟨r2, ⟨x2, x3, x4, x5, h2, h3, h4, h5, rfl⟩, y⟩ := forL_idx (fg := gNm 2) (f := fb_ring_step_2) (P := fun r => ∃ x2 x3 x4 x5, sf x2 ∧ sf x3 ∧ sf x4 ∧ sf x5 ∧ r = [X0, some (.fz (.str w)), x2, x3, x4, x5])
    (h := rsH l w) (ds := l.map D.str) (r := [X0, some (.fz (.str w)), none, none, none, none]) 0 ⟨none, none, none, none, sf_n, sf_n, sf_n, sf_n, rfl⟩ (by
      rintro i d r hd ⟨x2, x3, x4, x5, h2, h3, h4, h5, rfl⟩
      rw [List.getElem?_map] at hd
      cases e : l[i]? with
      | none => rw [e] at hd; cases hd
      | some t =>
        rw [e] at hd; cases hd
        obtain ⟨q1, q2⟩ := hl t (List.mem_of_getElem? e)
        obtain ⟨r2, p2, y⟩ := rs_turn (X0 := X0) e hwl q1 q2 h3 h4 h5
        refine ⟨[X0, some (.fz (.str w)), some (.fz (.str t)), x3, x4, x5], ?_, r2, p2, ?_⟩
        · rcases h2 with rfl | ⟨z, rfl⟩ <;> simp
        · rw [Nat.zero_add]; exact y)
  rw [List.length_map] at y
  exact ⟨_, ⟨x2, x3, x4, x5, rfl⟩, y⟩
theorem ring_step_eq {K : S} {l : List (List Nat)} (hK : KnF K l) {w : List Nat} (hwl : w.length ≤ 100000) (hl : ∀ t ∈ l, t.length ≤ 100000 ∧ t ≠ []) : F_ring_step [K, .fz (.str w)] = .ok (match firstN (rsH l w) 0 l.length with | none => S.fz .non | some v => v) [K, .fz (.str w)] := by
  have hv : ∀ v, firstN (rsH l w) 0 l.length = some v → ∃ d, v = .fz d := fun v hv => by
    obtain ⟨i, hi⟩ := firstN_at _ _ hv
    unfold rsH at hi
    split at hi
    · cases hi
    · split at hi
      · cases hi
      · exact ⟨_, (Option.some.inj hi).symm⟩
  rcases hK with rfl | rfl
  · obtain ⟨r2, ⟨x2, x3, x4, x5, rfl⟩, y⟩ := rs_loop (X0 := some (.lk (l.map D.str))) hwl hl
    have lp := for_gen (fs := eCons (eVar 0) eNil) (mk := mkSeq) (fg := gNm 2) (f := fb_ring_step_2) (r := [some (.br (l.map D.str)), some (.fz (.str w)), none, none, none, none]) (os := [.loc 0]) (ss := [.lk (l.map D.str)]) (r1 := [some (.br (l.map D.str)), some (.fz (.str w)), none, none, none, none]) (r2 := [some (.lk (l.map D.str)), some (.fz (.str w)), none, none, none, none]) (u := [(0, .br (l.map D.str))]) (ds := l.map D.str) (by simp) (by simp) rfl
    rw [y] at lp
    rw [F_ring_step_eq]
    cases c : firstN (rsH l w) 0 l.length with
    | none => rw [c] at lp; simp [b_ring_step, lp, -s_fFor, mapFl]
    | some v =>
      obtain ⟨d, rfl⟩ := hv v c
      rw [c] at lp
      simp [b_ring_step, lp, -s_fFor, mapFl]
  · obtain ⟨r2, ⟨x2, x3, x4, x5, rfl⟩, y⟩ := rs_loop (X0 := some (.fz (.lst (l.map D.str)))) hwl hl
    have lp := for_lfz (fs := eCons (eVar 0) eNil) (mk := mkSeq) (fg := gNm 2) (f := fb_ring_step_2) (r := [some (.fz (.lst (l.map D.str))), some (.fz (.str w)), none, none, none, none]) (r1 := [some (.fz (.lst (l.map D.str))), some (.fz (.str w)), none, none, none, none]) (i := 0) (d := .lst (l.map D.str)) (ds := l.map D.str) (by simp) rfl rfl
    rw [y] at lp
    rw [F_ring_step_eq]
    cases c : firstN (rsH l w) 0 l.length with
    | none => rw [c] at lp; simp [b_ring_step, lp, -s_fFor, mapFl]
    | some v =>
      obtain ⟨d, rfl⟩ := hv v c
      rw [c] at lp
      simp [b_ring_step, lp, -s_fFor, mapFl]
theorem ns_out {K : S} {l : List (List Nat)} (hK : KnF K l) {M : List D} {w : List Nat} {d : D} (o : F_out_steps [.fz (.str w)] = .ok (.ol M) [.fz (.str w)]) (h : M[0]? = some d) : F_next_step [K, .fz (.str w)] = .ok (.fz d) [K, .fz (.str w)] := by
  have h0 : (0 : Int) < (M.length : Int) := by
    have := (List.getElem?_eq_some_iff.mp h).1
    omega
  rw [F_next_step_eq]
  generalize hn : (M.length : Int) = n at h0
  rcases hK with rfl | rfl
  · simp [b_next_step, o, h, hn, h0]
  · simp [b_next_step, o, h, hn, h0]
theorem ns_ring {K : S} {l : List (List Nat)} (hK : KnF K l) {w : List Nat} {d : D} (o : F_out_steps [.fz (.str w)] = .ok (.ol []) [.fz (.str w)]) (h : F_ring_step [K, .fz (.str w)] = .ok (.fz d) [K, .fz (.str w)]) : F_next_step [K, .fz (.str w)] = .ok (.fz d) [K, .fz (.str w)] := by
  rw [F_next_step_eq]
  rcases hK with rfl | rfl
  · simp [b_next_step, o, h]
  · simp [b_next_step, o, h]
theorem next_step_eq {rs : List (List Nat)} (h : okRs rs) {K : S} (hK : KnF K (knownL rs)) {w : List Nat} (hw : W w) (hl : w.length ≤ 2000) : ∃ o : Option Stp, (∀ s, o = some s → goodS rs w s) ∧ (o = none ↔ tidy w = true ∧ noHalf rs w) ∧ F_next_step [K, .fz (.str w)] = .ok (.fz (optD o)) [K, .fz (.str w)] := by
  obtain ⟨M, y, hM, hE⟩ := outs_eq (rs := rs) hw hl
  cases M with
  | nil =>
    obtain ⟨o, g, n, e⟩ := rsH_good h hl
    have r := ring_step_eq hK (w := w) (by omega) fun t ht => by obtain ⟨_, b, c⟩ := known_ok h ht; exact ⟨by omega, c⟩
    have r2 : F_ring_step [K, .fz (.str w)] = .ok (.fz (optD o)) [K, .fz (.str w)] := r.trans (congrArg (fun z => FR.ok z [K, .fz (.str w)]) e)
    exact ⟨o, g, n.trans ⟨fun z => ⟨hE.mp rfl, z⟩, fun z => z.2⟩, ns_ring hK y r2⟩
  | cons d M =>
    obtain ⟨s, hs, g⟩ := hM d (List.mem_cons_self ..)
    refine ⟨some s, fun s' z => by cases z; exact g, ⟨(fun z => nomatch z), fun z => ?_⟩, ns_out hK y (by rw [hs]; rfl)⟩
    exact absurd (hE.mpr z.1) (by simp)
end W_k91
namespace W_k91
open PySem PySem.Spec PyProof.Rows L2 GB
theorem sh_stop {R : D} {w h : List Nat} {K acc : List D} : wt_shortened_1 [some (.fz R), some (.fz (.str w)), some (.ol K), some (.ol acc), some (.fz (.str h)), some (.fz .non)] = .ok false [some (.fz R), some (.fz (.str w)), some (.ol K), some (.ol acc), some (.fz (.str h)), some (.fz .non)] := by
  simp [wt_shortened_1, D.isNon]
theorem sh_go {R : D} {w h : List Nat} {K acc : List D} {s : Stp} : wt_shortened_1 [some (.fz R), some (.fz (.str w)), some (.ol K), some (.ol acc), some (.fz (.str h)), some (.fz (stepD s))] = .ok true [some (.fz R), some (.fz (.str w)), some (.ol K), some (.ol acc), some (.fz (.str h)), some (.fz (stepD s))] := by
  have e : (stepD s).isNon = false := by cases s <;> rfl
  generalize stepD s = d at *
  simp [wt_shortened_1, e]
theorem sh_body {R : D} {w h u : List Nat} {K acc : List D} {d d' : D} (hacc : acc.length < 16777216) (bh : F_behind [.fz R, .fz (.str h), .fz d] = .ok (.fz (.str u)) [.fz R, .fz (.str h), .fz d]) (ns : F_next_step [.br K, .fz (.str u)] = .ok (.fz d') [.br K, .fz (.str u)]) :
    wb_shortened_1 [some (.fz R), some (.fz (.str w)), some (.ol K), some (.ol acc), some (.fz (.str h)), some (.fz d)] = .nx [some (.fz R), some (.fz (.str w)), some (.ol K), some (.ol (acc ++ [d])), some (.fz (.str u)), some (.fz d')] := by
  simp [wb_shortened_1, hacc, bh, ns]
theorem short_run {R : D} {w h : List Nat} {K acc : List D} {d : D} (to : F_turns_of [.fz R] = .ok (.ol K) [.fz R]) (ns : F_next_step [.br K, .fz (.str w)] = .ok (.fz d) [.br K, .fz (.str w)])
    (wh : fWhile wt_shortened_1 wb_shortened_1 [some (.fz R), some (.fz (.str w)), some (.ol K), some (.ol []), some (.fz (.str w)), some (.fz d)] = .nx [some (.fz R), some (.fz (.str w)), some (.ol K), some (.ol acc), some (.fz (.str h)), some (.fz .non)]) :
    F_shortened [.fz R, .fz (.str w)] = .ok (.fz (.tup [.tup acc, .str h])) [.fz R, .fz (.str w)] := by
  rw [F_shortened_eq]
  simp [b_shortened, to, ns, wh]
theorem shortened_eq {rs : List (List Nat)} (hr : okRs rs) {w : List Nat} (hw : W w) (hl : w.length ≤ 2000) : ∃ ss h, W h ∧ h.length ≤ w.length ∧ ss.length ≤ 2000 ∧ chainS rs w ss h ∧ tidy h = true ∧ noHalf rs h ∧ F_shortened [.fz (ringsT rs), .fz (.str w)] = .ok (.fz (.tup [.tup (ss.map stepD), .str h])) [.fz (ringsT rs), .fz (.str w)] := by
  have to := turns_of_eq (rs := rs) (fun r h => ⟨(hr.1 r h).1, (hr.1 r h).2.1⟩) (by have := hr.2; omega)
  obtain ⟨o, g, gn, ns⟩ := next_step_eq hr (.inl rfl) hw hl
  obtain ⟨r', y, ss, h, hh, hhl, hsl, hc, hn, rfl⟩ := fWhile_go (ft := wt_shortened_1) (f := wb_shortened_1) (fun n r => ∃ (h : List Nat) (ss : List Stp) (o : Option Stp), W h ∧ h.length = n ∧ ss.length + n ≤ w.length ∧ chainS rs w ss h ∧ (∀ s, o = some s → goodS rs h s) ∧ (o = none ↔ tidy h = true ∧ noHalf rs h) ∧ r = [some (.fz (ringsT rs)), some (.fz (.str w)), some (.ol ((knownL rs).map D.str)), some (.ol (ss.map stepD)), some (.fz (.str h)), some (.fz (optD o))])
    (fun r => ∃ (ss : List Stp) (h : List Nat), W h ∧ h.length ≤ w.length ∧ ss.length ≤ 2000 ∧ chainS rs w ss h ∧ (tidy h = true ∧ noHalf rs h) ∧ r = [some (.fz (ringsT rs)), some (.fz (.str w)), some (.ol ((knownL rs).map D.str)), some (.ol (ss.map stepD)), some (.fz (.str h)), some (.fz .non)]) (by
      rintro n r ⟨h, ss, o, hh, hn, ha, hc, g, gn, rfl⟩
      cases o with
      | none => exact .inl ⟨_, sh_stop, ss, h, hh, by omega, by omega, hc, gn.mp rfl, rfl⟩
      | some s =>
        obtain ⟨so, sh, u, su, lt⟩ := g s rfl
        have bh := behind_eq hr hh (by omega) so
        rw [su] at bh
        obtain ⟨hu, _⟩ := stepO_W hh so su
        obtain ⟨o', g', gn', ns'⟩ := next_step_eq hr (.inl rfl) hu (by omega)
        refine .inr ⟨_, _, u.length, sh_go, .inl (sh_body (by rw [List.length_map]; omega) bh ns'), by omega, u, ss ++ [s], o', hu, rfl, by rw [List.length_append, List.length_singleton]; omega, chain_snoc so sh hc su, g', gn', ?_⟩
        rw [List.map_append]; rfl) w.length
    [some (.fz (ringsT rs)), some (.fz (.str w)), some (.ol ((knownL rs).map D.str)), some (.ol []), some (.fz (.str w)), some (.fz (optD o))] ⟨w, [], o, hw, rfl, by simp, rfl, g, gn, rfl⟩
  exact ⟨ss, h, hh, hhl, hsl, hc, hn.1, hn.2, short_run to ns y⟩
def noW : List Nat := [110, 111, 116, 104, 105, 110, 103]
def neW : List Nat := [110, 111, 110, 101]
theorem jd_run {R : D} {w h : List Nat} {acc : List D} (th : F_thick [.fz R] = .ok (.fz .non) [.fz R]) (sh : F_shortened [.fz R, .fz (.str w)] = .ok (.fz (.tup [.tup acc, .str h])) [.fz R, .fz (.str w)]) : ∃ d, F_judged [.fz R, .fz (.str w)] = .ok (.fz (.tup [.str (if h = [] then noW else neW), d])) [.fz R, .fz (.str w)] := by
  rw [F_judged_eq]
  unfold noW neW
  by_cases c : h = []
  · exact ⟨_, by simp [b_judged, th, sh, D.isNon, frz1, c]; rfl⟩
  · exact ⟨_, by simp [b_judged, th, sh, D.isNon, frz1, c]; rfl⟩
/-- a word is judged nothing just where rings make it -/
theorem judged_eq {rs : List (List Nat)} (hr : okRs rs) {hN : okN rs} (tn : thickD (knownL rs) = none) {w : List Nat} (hw : W w) (hl : w.length ≤ 2000) : ∃ b d, (b = true ↔ Nn rs hN w) ∧ F_judged [.fz (ringsT rs), .fz (.str w)] = .ok (.fz (.tup [.str (if b = true then noW else neW), d])) [.fz (ringsT rs), .fz (.str w)] := by
  have th := thick_eq (rs := rs) (fun r h => ⟨(hr.1 r h).1, (hr.1 r h).2.1⟩) (by have := hr.2; omega)
  rw [tn] at th
  obtain ⟨ss, h, hh, _, _, c, t1, t2, sh⟩ := shortened_eq hr hw hl
  obtain ⟨d, j⟩ := jd_run th sh
  have nc := Nn.chain (h := hN) hw c
  refine ⟨decide (h = []), d, ?_, ?_⟩
  · rw [decide_eq_true_iff, nc]
    exact ⟨fun e => by rw [e]; exact Nn.nil, fun e => short_nil tn hh t1 t2 e⟩
  · rw [j]
    simp only [decide_eq_true_iff]
end W_k91
namespace W_k91
open PySem PySem.Spec PyProof.Rows L2 GB
theorem mi_run {k k1 k2 : List (Key × D)} {w u v r1 r2 r3 b : List Nat} {c : Nat} {n a j : Int} {x1 x2 x4 x5 x6 x7 x8 : Option S} (h7 : sf x7) (h8 : sf x8) (l1 : fLen (.fz (.str w)) = some (.fz (.int n))) (d1 : F__law_draw [.bd k, .fz (.int (n + 1))] = .ok (.fz (.int a)) [.bd k1, .fz (.int (n + 1))])
    (d2 : F__law_draw [.bd k1, .fz (.int 10)] = .ok (.fz (.int j)) [.bd k2, .fz (.int 10)]) (ix : atI [97, 98, 99, 100, 101, 65, 66, 67, 68, 69] j = some c) (bb : F__law_back [.fz (.str [c])] = .ok (.fz (.str b)) [.fz (.str [c])])
    (s1 : fSl (.fz (.str w)) (.fz .non) (.fz (.int a)) = some (.fz (.str u))) (s2 : fSl (.fz (.str w)) (.fz (.int a)) (.fz .non) = some (.fz (.str v))) (ad1 : fAdd (.fz (.str u)) (.fz (.str [c])) = some (.fz (.str r1))) (ad2 : fAdd (.fz (.str r1)) (.fz (.str b)) = some (.fz (.str r2))) (ad3 : fAdd (.fz (.str r2)) (.fz (.str v)) = some (.fz (.str r3))) :
    fb__law_made_1 [some (.bd k), x1, x2, some (.fz (.str w)), x4, x5, x6, x7, x8] = .nx [some (.bd k2), x1, x2, some (.fz (.str r3)), x4, x5, x6, some (.fz (.int a)), some (.fz (.str [c]))] := by
  have hb : big 10 = true := rfl
  rcases h7 with rfl | ⟨z, rfl⟩ <;> rcases h8 with rfl | ⟨z', rfl⟩ <;> simp [fb__law_made_1, l1, d1, d2, ix, bb, s1, s2, ad1, ad2, ad3, hb, -s_lenS, -s_addS]
theorem mi_turn {k : List (Key × D)} (t : Feed k) {rs : List (List Nat)} {hN : okN rs} {w : List Nat} (hw : W w) (hl : w.length ≤ 1000) (nn : Nn rs hN w) {x1 x2 x4 x5 x6 x7 x8 : Option S} (h7 : sf x7) (h8 : sf x8) : ∃ k' w' x7' x8', Feed k' ∧ W w' ∧ Nn rs hN w' ∧ w'.length = w.length + 2 ∧ sf x7' ∧ sf x8' ∧
    fb__law_made_1 [some (.bd k), x1, x2, some (.fz (.str w)), x4, x5, x6, x7, x8] = .nx [some (.bd k'), x1, x2, some (.fz (.str w')), x4, x5, x6, x7', x8'] := by
  obtain ⟨a, k1, ha, t1, y1⟩ := drN t (m := w.length + 1) (by omega) (by omega)
  obtain ⟨j, k2, hj, t2, y2⟩ := drN t1 (m := 10) (by omega) (by omega)
  obtain ⟨c, hc, ix⟩ : ∃ c, isL c = true ∧ atI [97, 98, 99, 100, 101, 65, 66, 67, 68, 69] (j : Int) = some c := by
    have : ∀ j, j < 10 → ∃ c, isL c = true ∧ [97, 98, 99, 100, 101, 65, 66, 67, 68, 69][j]? = some c := fun j hj => by
      match j, hj with
      | 0, _ => exact ⟨_, by decide, rfl⟩
      | 1, _ => exact ⟨_, by decide, rfl⟩
      | 2, _ => exact ⟨_, by decide, rfl⟩
      | 3, _ => exact ⟨_, by decide, rfl⟩
      | 4, _ => exact ⟨_, by decide, rfl⟩
      | 5, _ => exact ⟨_, by decide, rfl⟩
      | 6, _ => exact ⟨_, by decide, rfl⟩
      | 7, _ => exact ⟨_, by decide, rfl⟩
      | 8, _ => exact ⟨_, by decide, rfl⟩
      | 9, _ => exact ⟨_, by decide, rfl⟩
    obtain ⟨c, h1, h2⟩ := this j hj
    exact ⟨c, h1, by rw [atI_n]; exact h2⟩
  rw [show (((w.length + 1 : Nat) : Int)) = (w.length : Int) + 1 from by omega] at y1
  refine ⟨k2, w.take a ++ [c] ++ [bk c] ++ w.drop a, _, _, t2, (((hw.take a).app (W1 hc)).app (W1 (bk_isL hc))).app (hw.drop a), by
    have := (Nn.pair (h := hN) (u := w.take a) (w := w.drop a) hc).mpr (by rw [List.take_append_drop]; exact nn)
    simpa using this, by simp; omega, sf_f, sf_f, mi_run h7 h8 (lnS (by omega)) y1 y2 ix (law_back_eq (W1 hc) (by simp)) (sl_to (by omega) a) (sl_from (by omega) a) (adS (by simp; omega)) (adS (by simp [bkw_len]; omega)) (adS (by simp [bkw_len]; omega))⟩
noncomputable def md_0 : Rho → Fl := fSet 5 (eFn F__law_some (eCons (eVar 0) (eCons (eC (.int 5)) (eCons (eC (.int 4)) eNil))))
noncomputable def md_1 : Rho → Fl := fSet 6 (eIf (eBl (e2 (p2 fNe) (eVar 1) (eTup eNil))) (e2 qIx (eVar 1) (eFn F__law_draw (eCons (eVar 0) (eCons (e1 (p1 fLen) (eVar 1)) eNil)))) (eC (.str [])))
noncomputable def md_2 : Rho → Fl := (fSeq (fSet 7 (eFn F__law_draw (eCons (eVar 0) (eCons (e2 (p2 fAdd) (e1 (p1 fLen) (eVar 6)) (eC (.int 1))) eNil))))
  (fSeq (fSet 6 (e2 (p2 fAdd) (eSl (eVar 6) (some (eVar 7)) none) (eSl (eVar 6) none (some (eVar 7)))))
  (fSet 3 (e2 (p2 fAdd) (e2 (p2 fAdd) (e2 (p2 fAdd) (eVar 3) (eVar 5)) (e2 qIx (eLst (eCons (eVar 6) (eCons (eFn F__law_back (eCons (eVar 6) eNil)) eNil))) (eFn F__law_draw (eCons (eVar 0) (eCons (eC (.int 2)) eNil))))) (eFn F__law_back (eCons (eVar 5) eNil))))))
theorem md_cut : fb__law_made_2 = fSeq md_0 (fSeq md_1 md_2) := rfl
theorem md0_run {k k1 : List (Key × D)} {by' : List Nat} {x1 x2 x3 x4 x5 x6 x7 x8 : Option S} (h5 : sf x5) (s : F__law_some [.bd k, .fz (.int 5), .fz (.int 4)] = .ok (.fz (.str by')) [.bd k1, .fz (.int 5), .fz (.int 4)]) :
    md_0 [some (.bd k), x1, x2, x3, x4, x5, x6, x7, x8] = .nx [some (.bd k1), x1, x2, x3, x4, some (.fz (.str by')), x6, x7, x8] := by
  rcases h5 with rfl | ⟨z, rfl⟩ <;> simp [md_0, s]
theorem md1_run {k k1 : List (Key × D)} {r : List Nat} {L : List D} {j : Int} {x2 x3 x4 x5 x6 x7 x8 : Option S} (h6 : sf x6) (ne : fNe (.fz (.tup L)) (.fz (.tup [])) = some (.fz (.bl true))) (d : F__law_draw [.bd k, .fz (.int (L.length : Int))] = .ok (.fz (.int j)) [.bd k1, .fz (.int (L.length : Int))]) (ix : atI L j = some (.str r)) :
    md_1 [some (.bd k), some (.fz (.tup L)), x2, x3, x4, x5, x6, x7, x8] = .nx [some (.bd k1), some (.fz (.tup L)), x2, x3, x4, x5, some (.fz (.str r)), x7, x8] := by
  rcases h6 with rfl | ⟨z, rfl⟩ <;> simp [md_1, ne, d, ix]
theorem md1_no {k : List (Key × D)} {L : List D} {x2 x3 x4 x5 x6 x7 x8 : Option S} (h6 : sf x6) (ne : fNe (.fz (.tup L)) (.fz (.tup [])) = some (.fz (.bl false))) :
    md_1 [some (.bd k), some (.fz (.tup L)), x2, x3, x4, x5, x6, x7, x8] = .nx [some (.bd k), some (.fz (.tup L)), x2, x3, x4, x5, some (.fz (.str [])), x7, x8] := by
  rcases h6 with rfl | ⟨z, rfl⟩ <;> simp [md_1, ne]
theorem md2_run {k k1 k2 : List (Key × D)} {w b' r t1 t2 t tb bb g z1 z2 z3 : List Nat} {n a b : Int} {x1 x2 x4 x7 x8 : Option S} (h7 : sf x7) (l1 : fLen (.fz (.str r)) = some (.fz (.int n))) (d1 : F__law_draw [.bd k, .fz (.int (n + 1))] = .ok (.fz (.int a)) [.bd k1, .fz (.int (n + 1))])
    (s1 : fSl (.fz (.str r)) (.fz (.int a)) (.fz .non) = some (.fz (.str t1))) (s2 : fSl (.fz (.str r)) (.fz .non) (.fz (.int a)) = some (.fz (.str t2))) (ad : fAdd (.fz (.str t1)) (.fz (.str t2)) = some (.fz (.str t))) (b1 : F__law_back [.fz (.str t)] = .ok (.fz (.str tb)) [.fz (.str t)])
    (d2 : F__law_draw [.bd k1, .fz (.int 2)] = .ok (.fz (.int b)) [.bd k2, .fz (.int 2)]) (ix : atI [D.str t, .str tb] b = some (.str g)) (b2 : F__law_back [.fz (.str b')] = .ok (.fz (.str bb)) [.fz (.str b')]) (a1 : fAdd (.fz (.str w)) (.fz (.str b')) = some (.fz (.str z1))) (a2 : fAdd (.fz (.str z1)) (.fz (.str g)) = some (.fz (.str z2))) (a3 : fAdd (.fz (.str z2)) (.fz (.str bb)) = some (.fz (.str z3))) :
    md_2 [some (.bd k), x1, x2, some (.fz (.str w)), x4, some (.fz (.str b')), some (.fz (.str r)), x7, x8] = .nx [some (.bd k2), x1, x2, some (.fz (.str z3)), x4, some (.fz (.str b')), some (.fz (.str t)), some (.fz (.int a)), x8] := by
  rcases h7 with rfl | ⟨z, rfl⟩ <;> simp [md_2, l1, d1, s1, s2, ad, b1, d2, ix, b2, a1, a2, a3, -s_lenS, -s_addS]
theorem md_turn {k : List (Key × D)} (t : Feed k) {rs : List (List Nat)} (ok : okR rs) {hN : okN rs} {w : List Nat} (hw : W w) (hl : w.length ≤ 1000) (nn : Nn rs hN w) {x2 x4 x5 x6 x7 x8 : Option S} (h5 : sf x5) (h6 : sf x6) (h7 : sf x7) : ∃ k' w' x5' x6' x7', Feed k' ∧ W w' ∧ Nn rs hN w' ∧ w'.length ≤ w.length + 68 ∧ sf x5' ∧ sf x6' ∧ sf x7' ∧
    fb__law_made_2 [some (.bd k), some (.fz (ringsT rs)), x2, some (.fz (.str w)), x4, x5, x6, x7, x8] = .nx [some (.bd k'), some (.fz (ringsT rs)), x2, some (.fz (.str w')), x4, x5', x6', x7', x8] := by
  obtain ⟨k1, b', t1, hb', hbl, y1⟩ := some_eq t (m := 5) (mo := 4) (by omega) (by omega) (by omega)
  have p0 := md0_run (x1 := some (.fz (ringsT rs))) (x2 := x2) (x3 := some (.fz (.str w))) (x4 := x4) (x6 := x6) (x7 := x7) (x8 := x8) h5 y1
  obtain ⟨k2, r, t2, hr, hrl, hrm, p1⟩ : ∃ k2 r, Feed k2 ∧ W r ∧ r.length ≤ 60 ∧ (r = [] ∨ r ∈ rs) ∧ md_1 [some (.bd k1), some (.fz (ringsT rs)), x2, some (.fz (.str w)), x4, some (.fz (.str b')), x6, x7, x8] = .nx [some (.bd k2), some (.fz (ringsT rs)), x2, some (.fz (.str w)), x4, some (.fz (.str b')), some (.fz (.str r)), x7, x8] := by
    have ne := ne_tups (as := rs) (bs := []) (fun u hu => (ok.1 u hu).1) (fun _ h => nomatch h)
    cases rs with
    | nil => exact ⟨k1, [], t1, W.nil, by simp, .inl rfl, md1_no h6 ne⟩
    | cons r0 rs' =>
      obtain ⟨j, k2, hj, t2, y2⟩ := drN t1 (m := ((r0 :: rs').map D.str).length) (by simp) (by have := ok.2; rw [List.length_map]; omega)
      rw [List.length_map] at hj
      have h1 : (r0 :: rs')[j]? = some (r0 :: rs')[j] := List.getElem?_eq_getElem hj
      obtain ⟨g1, g2, _⟩ := ok.1 _ (List.getElem_mem hj)
      exact ⟨k2, (r0 :: rs')[j], t2, g1, g2, .inr (List.getElem_mem hj), md1_run h6 ne y2 (by rw [atI_n, List.getElem?_map, h1]; rfl)⟩
  obtain ⟨a, k3, ha, t3, y3⟩ := drN t2 (m := r.length + 1) (by omega) (by omega)
  rw [show (((r.length + 1 : Nat) : Int)) = (r.length : Int) + 1 from by omega] at y3
  obtain ⟨b, k4, hb, t4, y4⟩ := drN t3 (m := 2) (by omega) (by omega)
  have rw' := rot_w hr a
  have rl := rot_len r a
  have nr : Nn rs hN (rot r a) ∧ Nn rs hN (bkw (rot r a)) := by
    rcases hrm with rfl | hrm
    · have e : rot [] a = [] := by simp [rot]
      rw [e]
      exact ⟨Nn.nil, Nn.nil⟩
    · have rt : Rt r (rot r a) := ⟨r.take a, r.drop a, (List.take_append_drop a r).symm, rfl⟩
      have n1 : Nn rs hN (rot r a) := Nn.ring (known_iff.mpr ⟨r, hrm, .inl (rt_mem.mpr rt)⟩)
      exact ⟨n1, n1.inv rw'⟩
  obtain ⟨g, g1, g2, gn, ix⟩ : ∃ g, W g ∧ g.length ≤ 60 ∧ Nn rs hN g ∧ atI [D.str (rot r a), .str (bkw (rot r a))] (b : Int) = some (.str g) := by
    match b, hb with
    | 0, _ => exact ⟨rot r a, rw', by omega, nr.1, rfl⟩
    | 1, _ => exact ⟨bkw (rot r a), rw'.bkw, by rw [bkw_len]; omega, nr.2, rfl⟩
  have p2 := md2_run (x1 := some (.fz (ringsT rs))) (x2 := x2) (x4 := x4) (x8 := x8) (t := rot r a) h7 (lnS (by omega)) y3 (sl_from (by omega) a) (sl_to (by omega) a) (adS (by rw [List.length_drop, List.length_take]; omega)) (law_back_eq rw' (by omega)) y4 ix (law_back_eq hb' (by omega)) (adS (a := w) (by omega)) (adS (by rw [List.length_append]; omega)) (adS (by rw [bkw_len]; simp only [List.length_append]; omega))
  refine ⟨k4, w ++ b' ++ g ++ bkw b', some (.fz (.str b')), some (.fz (.str (rot r a))), some (.fz (.int (a : Nat))), t4, ((hw.app hb').app g1).app hb'.bkw, by
    have := (gn.conj hb').ins (u := w) (w := []) (by simpa using nn)
    simpa using this, by simp only [List.length_append, bkw_len]; omega, sf_f, sf_f, sf_f, ?_⟩
  rw [md_cut, s_fSeq, p0]
  dsimp only
  rw [s_fSeq, p1]
  dsimp only
  exact p2
theorem made_run {mo : Nat} {k k1 k2 k3 k4 : List (Key × D)} {R : D} {w w2 : List Nat} {n m : Nat} {x4 x5 x6 x7 y4 y5 y6 y7 y8 : Option S} (d1 : F__law_draw [.bd k, .fz (.int (mo : Nat))] = .ok (.fz (.int (n : Nat))) [.bd k1, .fz (.int (mo : Nat))])
    (f1 : fFor (eCons (e2 (p2 fAdd) (eC (.int 1)) (eFn F__law_draw (eCons (eVar 0) (eCons (eVar 2) eNil)))) eNil) mkR1 (gNm 4) fb__law_made_2 [some (.bd k), some (.fz R), some (.fz (.int (mo : Nat))), some (.fz (.str [])), none, none, none, none, none] = .nx [some (.bd k2), some (.fz R), some (.fz (.int (mo : Nat))), some (.fz (.str w)), x4, x5, x6, x7, none])
    (f2 : fFor (eCons (eFn F__law_draw (eCons (eVar 0) (eCons (eC (.int 4)) eNil))) eNil) mkR1 (gNm 4) fb__law_made_1 [some (.bd k2), some (.fz R), some (.fz (.int (mo : Nat))), some (.fz (.str w)), x4, x5, x6, x7, none] = .nx [some (.bd k4), some (.fz R), some (.fz (.int (mo : Nat))), some (.fz (.str w2)), y4, y5, y6, y7, y8]) :
    F__law_made [.bd k, .fz R, .fz (.int (mo : Nat))] = .ok (.fz (.str w2)) [.bd k4, .fz R, .fz (.int (mo : Nat))] := by
  rw [F__law_made_eq]
  simp [b__law_made, f1, f2, -s_fFor]
theorem made_eq {k : List (Key × D)} (t : Feed k) {rs : List (List Nat)} (ok : okR rs) (hN : okN rs) {mo : Nat} (m1 : 1 ≤ mo) (m2 : mo ≤ 2) : ∃ k' w, Feed k' ∧ W w ∧ w.length ≤ 300 ∧ Nn rs hN w ∧ F__law_made [.bd k, .fz (ringsT rs), .fz (.int (mo : Nat))] = .ok (.fz (.str w)) [.bd k', .fz (ringsT rs), .fz (.int (mo : Nat))] := by
  obtain ⟨n, k1, hn, t1, y1⟩ := drN t (m := mo) (by omega) (by omega)
  obtain ⟨r1, f1, k2, w, x4, x5, x6, x7, t2, hw, nn, hl, h4, h5, h6, h7, rfl⟩ := forL_inv (fg := gNm 4) (f := fb__law_made_2) (ds := upFrom 0 (1 + n)) (r := [some (.bd k1), some (.fz (ringsT rs)), some (.fz (.int (mo : Nat))), some (.fz (.str [])), none, none, none, none, none])
    (fun i r => ∃ k w x4 x5 x6 x7, Feed k ∧ W w ∧ Nn rs hN w ∧ w.length ≤ 68 * i ∧ sf x4 ∧ sf x5 ∧ sf x6 ∧ sf x7 ∧ r = [some (.bd k), some (.fz (ringsT rs)), some (.fz (.int (mo : Nat))), some (.fz (.str w)), x4, x5, x6, x7, none]) ⟨k1, [], none, none, none, none, t1, W.nil, Nn.nil, by simp, sf_n, sf_n, sf_n, sf_n, rfl⟩ (by
      rintro i d r hd ⟨k, w, x4, x5, x6, x7, t, hw, nn, hl, h4, h5, h6, h7, rfl⟩
      obtain ⟨hi, rfl⟩ := upFrom_get hd
      obtain ⟨k', w', x5', x6', x7', t', hw', nn', hl', g5, g6, g7, y⟩ := md_turn t ok hw (by omega) nn (x2 := some (.fz (.int (mo : Nat)))) (x4 := some (.fz (.int (0 + (i : Nat))))) (x8 := none) h5 h6 h7
      refine ⟨_, ?_, _, .inl y, k', w', _, x5', x6', x7', t', hw', nn', by omega, sf_f, g5, g6, g7, rfl⟩
      rcases h4 with rfl | ⟨d, rfl⟩ <;> simp)
  rw [upFrom_len] at hl
  obtain ⟨m, k3, hm, t3, y3⟩ := drN t2 (m := 4) (by omega) (by omega)
  obtain ⟨r2, f2, k4, w2, z4, z7, z8, t4, hw2, nn2, hl2, g4, g7, g8, rfl⟩ := forL_inv (fg := gNm 4) (f := fb__law_made_1) (ds := upFrom 0 m) (r := [some (.bd k3), some (.fz (ringsT rs)), some (.fz (.int (mo : Nat))), some (.fz (.str w)), x4, x5, x6, x7, none])
    (fun i r => ∃ k w2 x4 x7 x8, Feed k ∧ W w2 ∧ Nn rs hN w2 ∧ w2.length ≤ w.length + 2 * i ∧ sf x4 ∧ sf x7 ∧ sf x8 ∧ r = [some (.bd k), some (.fz (ringsT rs)), some (.fz (.int (mo : Nat))), some (.fz (.str w2)), x4, x5, x6, x7, x8]) ⟨k3, w, x4, x7, none, t3, hw, nn, by simp, h4, h7, sf_n, rfl⟩ (by
      rintro i d r hd ⟨k, w2, x4, x7, x8, t, hw2, nn2, hl2, h4, h7, h8, rfl⟩
      obtain ⟨hi, rfl⟩ := upFrom_get hd
      obtain ⟨k', w', x7', x8', t', hw', nn', hl', g7, g8, y⟩ := mi_turn t hw2 (by omega) nn2 (x1 := some (.fz (ringsT rs))) (x2 := some (.fz (.int (mo : Nat)))) (x4 := some (.fz (.int (0 + (i : Nat))))) (x5 := x5) (x6 := x6) h7 h8
      refine ⟨_, ?_, _, .inl y, k', w', _, x7', x8', t', hw', nn', by omega, sf_f, g7, g8, rfl⟩
      rcases h4 with rfl | ⟨d, rfl⟩ <;> simp)
  rw [upFrom_len] at hl2
  have y1 : F__law_draw [.bd k, .fz (.int (mo : Nat))] = .ok (.fz (.int (n : Nat))) [.bd k1, .fz (.int (mo : Nat))] := y1
  have y3 : F__law_draw [.bd k2, .fz (.int 4)] = .ok (.fz (.int (m : Nat))) [.bd k3, .fz (.int 4)] := y3
  have e1' : (1 : Int) + (n : Int) = ((1 + n : Nat) : Int) := by omega
  have l1 := (for_r1 (fs := eCons (e2 (p2 fAdd) (eC (.int 1)) (eFn F__law_draw (eCons (eVar 0) (eCons (eVar 2) eNil)))) eNil) (fg := gNm 4) (f := fb__law_made_2) (n := 1 + n) (r := [some (.bd k), some (.fz (ringsT rs)), some (.fz (.int (mo : Nat))), some (.fz (.str [])), none, none, none, none, none]) (r1 := [some (.bd k1), some (.fz (ringsT rs)), some (.fz (.int (mo : Nat))), some (.fz (.str [])), none, none, none, none, none]) (by simp [y1]) (by omega)).trans f1
  have l2 := (for_r1 (fs := eCons (eFn F__law_draw (eCons (eVar 0) (eCons (eC (.int 4)) eNil))) eNil) (fg := gNm 4) (f := fb__law_made_1) (n := m) (r := [some (.bd k2), some (.fz (ringsT rs)), some (.fz (.int (mo : Nat))), some (.fz (.str w)), x4, x5, x6, x7, none]) (r1 := [some (.bd k3), some (.fz (ringsT rs)), some (.fz (.int (mo : Nat))), some (.fz (.str w)), x4, x5, x6, x7, none]) (by simp [y3]) (by omega)).trans f2
  exact ⟨k4, w2, t4, hw2, by omega, nn2, made_run (k3 := k3) (m := m) y1 l1 l2⟩
end W_k91
namespace W_k91
open PySem PySem.Spec PyProof.Rows L2 GB
noncomputable def nB (rs : List (List Nat)) (h : okN rs) (w : List Nat) : Bool := by classical exact decide (Nn rs h w)
theorem nB_iff {rs : List (List Nat)} {h : okN rs} {w : List Nat} : nB rs h w = true ↔ Nn rs h w := by
  unfold nB
  exact @decide_eq_true_iff _ (Classical.propDecidable _)
theorem nB_eq {rs : List (List Nat)} {h : okN rs} {u v : List Nat} (e : Nn rs h u ↔ Nn rs h v) : nB rs h u = nB rs h v := by
  rw [Bool.eq_iff_iff, nB_iff, nB_iff, e]
noncomputable abbrev eB (rs : List (List Nat)) (h : okN rs) (u v : List Nat) : Bool := nB rs h (u ++ bkw v)
theorem eB_iff {rs : List (List Nat)} {h : okN rs} {u v : List Nat} : eB rs h u v = true ↔ Eqv rs h u v := nB_iff
theorem ln_run {R d : D} {w : List Nat} {b : Bool} (y : F_judged [.fz R, .fz (.str w)] = .ok (.fz (.tup [.str (if b = true then noW else neW), d])) [.fz R, .fz (.str w)]) : F__law_nothing [.fz R, .fz (.str w)] = .ok (.fz (.bl b)) [.fz R, .fz (.str w)] := by
  rw [F__law_nothing_eq]
  unfold noW neW at y
  cases b with
  | true =>
    have a0 : atI [D.str [110, 111, 116, 104, 105, 110, 103], d] 0 = some (.str [110, 111, 116, 104, 105, 110, 103]) := rfl
    rw [if_pos rfl] at y
    simp [b__law_nothing, y, a0]
  | false =>
    have a0 : atI [D.str [110, 111, 110, 101], d] 0 = some (.str [110, 111, 110, 101]) := rfl
    rw [if_neg (by decide)] at y
    simp [b__law_nothing, y, a0]
theorem lsame_run {R : D} {u v bv w : List Nat} {b : Bool} (y1 : F_back [.fz (.str v)] = .ok (.fz (.str bv)) [.fz (.str v)]) (y2 : F_times [.fz (.str u), .fz (.str bv)] = .ok (.fz (.str w)) [.fz (.str u), .fz (.str bv)]) (y3 : F__law_nothing [.fz R, .fz (.str w)] = .ok (.fz (.bl b)) [.fz R, .fz (.str w)]) :
    F__law_same [.fz R, .fz (.str u), .fz (.str v)] = .ok (.fz (.bl b)) [.fz R, .fz (.str u), .fz (.str v)] := by
  rw [F__law_same_eq]
  simp [b__law_same, y1, y2, y3]
section
variable {rs : List (List Nat)} (hr : okRs rs) {hN : okN rs} (tn : thickD (knownL rs) = none)
include hr tn
theorem nothing_eq {w : List Nat} (hw : W w) (hl : w.length ≤ 2000) : F__law_nothing [.fz (ringsT rs), .fz (.str w)] = .ok (.fz (.bl (nB rs hN w))) [.fz (ringsT rs), .fz (.str w)] := by
  obtain ⟨b, d, hb, y⟩ := judged_eq hr (hN := hN) tn hw hl
  have e : b = nB rs hN w := by rw [Bool.eq_iff_iff, hb, nB_iff]
  rw [← e]
  exact ln_run y
theorem same_eq {u v : List Nat} (hu : W u) (hv : W v) (hl : u.length + v.length ≤ 2000) : F__law_same [.fz (ringsT rs), .fz (.str u), .fz (.str v)] = .ok (.fz (.bl (eB rs hN u v))) [.fz (ringsT rs), .fz (.str u), .fz (.str v)] := by
  have w1 := hu.app hv.bkw
  have lr := red_len (u ++ bkw v)
  rw [List.length_append, bkw_len] at lr
  have y := lsame_run (back_eq hv (by omega)) (times_eq hu hv.bkw (by rw [bkw_len]; omega)) (nothing_eq hr (hN := hN) tn (red_w w1) (by omega))
  rw [nB_eq (nn_red w1)] at y
  exact y
theorem rr_no {k : List (Key × D)} {R : D} {x2 x3 : Option S} {r : List Nat} {m n a : Int} (fa : fAbs (.fz (.int n)) = some (.fz (.int a))) (h : ¬ a ≤ 20) : fb__law_roots_right_1 [some (.bd k), some (.fz R), x2, x3, some (.fz (.str r)), some (.fz (.int m)), some (.fz (.int n))] = .nx [some (.bd k), some (.fz R), x2, x3, some (.fz (.str r)), some (.fz (.int m)), some (.fz (.int n))] := by
  simp [fb__law_roots_right_1, fa, h, -s_fAbs]
theorem rr_yes {k : List (Key × D)} {R : D} {x2 x3 : Option S} {r p : List Nat} {m n a : Int} {b : Bool} (fa : fAbs (.fz (.int n)) = some (.fz (.int a))) (h : a ≤ 20) (y1 : F_power [.fz (.str r), .fz (.int n)] = .ok (.fz (.str p)) [.fz (.str r), .fz (.int n)]) (y2 : F__law_nothing [.fz R, .fz (.str p)] = .ok (.fz (.bl b)) [.fz R, .fz (.str p)]) (md : fModI n m = some (.fz (.int (n % m)))) (hb : b = decide (n % m = 0)) :
    fb__law_roots_right_1 [some (.bd k), some (.fz R), x2, x3, some (.fz (.str r)), some (.fz (.int m)), some (.fz (.int n))] = .nx [some (.bd k), some (.fz R), x2, x3, some (.fz (.str r)), some (.fz (.int m)), some (.fz (.int n))] := by
  have nb : ∀ c : Bool, fNe (.fz (.bl c)) (.fz (.bl c)) = some (.fz (.bl false)) := fun c => by cases c <;> rfl
  subst hb
  simp [fb__law_roots_right_1, fa, h, y1, y2, md, nb, -s_fAbs]
theorem rr_one (hN : okN rs) {ring : List Nat} (mem : ring ∈ rs) (lr : ring.length ≤ 60) {k : List (Key × D)} {x2 x3 : Option S} {n : Int} (h1 : -100 ≤ n) (h2 : n ≤ 100) :
    fb__law_roots_right_1 [some (.bd k), some (.fz (ringsT rs)), x2, x3, some (.fz (.str (ring.take (rootS ring)))), some (.fz (.int ((ring.length / rootS ring : Nat) : Nat))), some (.fz (.int n))] = .nx [some (.bd k), some (.fz (ringsT rs)), x2, x3, some (.fz (.str (ring.take (rootS ring)))), some (.fz (.int ((ring.length / rootS ring : Nat) : Nat))), some (.fz (.int n))] := by
  obtain ⟨hw, h0, cr⟩ := hN ring mem
  obtain ⟨e, m1, pr⟩ := root_spec h0
  have r0 : ring.take (rootS ring) ≠ [] := fun z => by
    rw [z] at e
    have : rep ([] : List Nat) (ring.length / rootS ring) = [] := List.length_eq_zero_iff.mp (by rw [rep_len2]; rfl)
    rw [this] at e
    exact h0 e
  have wr : W (ring.take (rootS ring)) := hw.take _
  have mem' : rep (ring.take (rootS ring)) (ring.length / rootS ring) ∈ rs := by rw [← e]; exact mem
  have lt : (ring.take (rootS ring)).length ≤ 60 := by rw [List.length_take]; omega
  have fa := abs_eq n
  generalize ring.take (rootS ring) = r at *
  generalize ring.length / rootS ring = m at *
  by_cases c : n.natAbs ≤ 20
  · have y1 := power_eq wr (by omega) (n := n) (by omega) (by omega)
    have w2 : W (rep (if 0 ≤ n then r else bkw r) n.natAbs) := by split <;> exact rep_w (by first | exact wr | exact wr.bkw) _
    have l2 := red_len (rep (if 0 ≤ n then r else bkw r) n.natAbs)
    rw [rep_len2] at l2
    have l3 : (if 0 ≤ n then r else bkw r).length ≤ 60 := by split <;> (try rw [bkw_len]) <;> exact lt
    have l4 : n.natAbs * (if 0 ≤ n then r else bkw r).length ≤ 20 * 60 := Nat.mul_le_mul c l3
    have y2 := nothing_eq hr (hN := hN) tn (red_w w2) (by omega)
    have md : fModI n (m : Int) = some (.fz (.int (n % (m : Int)))) := by unfold fModI; rw [if_pos (by omega)]
    refine rr_yes hr tn fa (by omega) y1 y2 md ?_
    rw [Bool.eq_iff_iff, nB_iff, decide_eq_true_iff, nn_pow tn wr r0 m1 mem']
  · exact rr_no hr tn fa (by omega)
end
theorem r2_run {k k' : List (Key × D)} {R : D} {x2 x4 x5 x6 : Option S} {ring r : List Nat} {m v : Int} (h4 : sf x4) (h5 : sf x5) (h6 : sf x6) (y1 : F_rooted [.fz (.str ring)] = .ok (.fz (.tup [.str r, .int m])) [.fz (.str ring)]) (y2 : F__law_draw [.bd k, .fz (.int 20)] = .ok (.fz (.int v)) [.bd k', .fz (.int 20)])
    (one : ∀ n : Int, n ∈ [1, m - 1, m, v - 10] → fb__law_roots_right_1 [some (.bd k'), some (.fz R), x2, some (.fz (.str ring)), some (.fz (.str r)), some (.fz (.int m)), some (.fz (.int n))] = .nx [some (.bd k'), some (.fz R), x2, some (.fz (.str ring)), some (.fz (.str r)), some (.fz (.int m)), some (.fz (.int n))]) :
    fb__law_roots_right_2 [some (.bd k), some (.fz R), x2, some (.fz (.str ring)), x4, x5, x6] = .nx [some (.bd k'), some (.fz R), x2, some (.fz (.str ring)), some (.fz (.str r)), some (.fz (.int m)), some (.fz (.int (v - 10)))] := by
  have g : ∀ (n : Int) (z : Option S), sf z → gNm 6 (.int n) [some (.bd k'), some (.fz R), x2, some (.fz (.str ring)), some (.fz (.str r)), some (.fz (.int m)), z] = some [some (.bd k'), some (.fz R), x2, some (.fz (.str ring)), some (.fz (.str r)), some (.fz (.int m)), some (.fz (.int n))] := by
    rintro n z (rfl | ⟨q, rfl⟩) <;> simp
  have go : forL (gNm 6) fb__law_roots_right_1 [.int 1, .int (m - 1), .int m, .int (v - 10)] [some (.bd k'), some (.fz R), x2, some (.fz (.str ring)), some (.fz (.str r)), some (.fz (.int m)), x6] = .nx [some (.bd k'), some (.fz R), x2, some (.fz (.str ring)), some (.fz (.str r)), some (.fz (.int m)), some (.fz (.int (v - 10)))] := by
    rw [forL, g _ _ h6]; dsimp only
    rw [one 1 (by simp)]; dsimp only
    rw [forL, g _ _ sf_f]; dsimp only
    rw [one (m - 1) (by simp)]; dsimp only
    rw [forL, g _ _ sf_f]; dsimp only
    rw [one m (by simp)]; dsimp only
    rw [forL, g _ _ sf_f]; dsimp only
    rw [one (v - 10) (by simp)]; rfl
  have s1 : fAsg (gTpU 2 (gsCons (gNm 4) (gsCons (gNm 5) gsNil))) (eFn F_rooted (eCons (eVar 3) eNil)) [some (.bd k), some (.fz R), x2, some (.fz (.str ring)), x4, x5, x6] = .nx [some (.bd k), some (.fz R), x2, some (.fz (.str ring)), some (.fz (.str r)), some (.fz (.int m)), x6] := by
    rcases h4 with rfl | ⟨z, rfl⟩ <;> rcases h5 with rfl | ⟨z', rfl⟩ <;> simp [y1, fAsg, ofR, gTpU]
  unfold fb__law_roots_right_2
  rw [s_fSeq, s1]; dsimp only
  refine (for_fz (d := .tup [.int 1, .int (m - 1), .int m, .int (v - 10)]) (r1 := [some (.bd k'), some (.fz R), x2, some (.fz (.str ring)), some (.fz (.str r)), some (.fz (.int m)), x6]) ?_ rfl).trans go
  simp [y2]
theorem roots_run {k k' k'' : List (Key × D)} {R : List D} {mx n v : Int} {M : List D} {x3 x4 x5 x6 : Option S} (ln : fLen (.fz (.tup R)) = some (.fz (.int n))) (mxx : (if n > 1 then n else 1) = mx) (y1 : F__law_draw [.bd k, .fz (.int mx)] = .ok (.fz (.int v)) [.bd k', .fz (.int mx)]) (sl : fSl (.fz (.tup R)) (.fz (.int v)) (.fz (.int (v + 1))) = some (.fz (.tup M)))
    (go : forL (gNm 3) fb__law_roots_right_2 M [some (.bd k'), some (.fz (.tup R)), some (.fz (.int v)), none, none, none, none] = .nx [some (.bd k''), some (.fz (.tup R)), some (.fz (.int v)), x3, x4, x5, x6]) :
    F__law_roots_right [.bd k, .fz (.tup R)] = .ok (.fz (.bl true)) [.bd k'', .fz (.tup R)] := by
  have lp : fFor (eCons (eSl (eVar 1) (some (eVar 2)) (some (e2 (p2 fAdd) (eVar 2) (eC (.int 1))))) eNil) mkSeq (gNm 3) fb__law_roots_right_2 [some (.bd k'), some (.fz (.tup R)), some (.fz (.int v)), none, none, none, none] = _ :=
    (for_fz (d := .tup M) (r1 := [some (.bd k'), some (.fz (.tup R)), some (.fz (.int v)), none, none, none, none]) (by simp [sl]) rfl).trans go
  rw [F__law_roots_right_eq]
  refine runF_rt (r := [some (.bd k''), some (.fz (.tup R)), some (.fz (.int v)), x3, x4, x5, x6]) rfl ?_ rfl
  have e0 : startR 7 [GB.S.bd k, .fz (.tup R)] = [some (.bd k), some (.fz (.tup R)), none, none, none, none, none] := rfl
  rw [e0]
  simp [b__law_roots_right, ln, mxx, y1, lp, -s_fFor, -s_lenF]
theorem roots_eq {k : List (Key × D)} (t : Feed k) {rs : List (List Nat)} (ok : okR rs) {hN : okN rs} (tn : thickD (knownL rs) = none) : ∃ k', Feed k' ∧ F__law_roots_right [.bd k, .fz (ringsT rs)] = .ok (.fz (.bl true)) [.bd k', .fz (ringsT rs)] := by
  have hl := ok.2
  obtain ⟨v, k1, hv, t1, y1⟩ := drN t (m := max 1 rs.length) (by omega) (by omega)
  have ln : fLen (.fz (.tup (rs.map D.str))) = some (.fz (.int (rs.length : Nat))) := by
    show some (S.fz (D.int (((rs.map D.str).length : Nat) : Int))) = _
    rw [List.length_map]
  have mxx : (if ((rs.length : Nat) : Int) > 1 then ((rs.length : Nat) : Int) else 1) = ((max 1 rs.length : Nat) : Int) := by split <;> omega
  have sl : fSl (.fz (.tup (rs.map D.str))) (.fz (.int (v : Nat))) (.fz (.int ((v : Int) + 1))) = some (.fz (.tup (((rs.take (v + 1)).drop v).map D.str))) := by
    rw [show ((v : Int) + 1) = ((v + 1 : Nat) : Int) by omega]
    show some (S.fz (.tup (GB.cutD (rs.map D.str) (some ((v : Nat) : Int)) (some ((v + 1 : Nat) : Int))))) = _
    rw [cut_nnD, List.map_drop, List.map_take]
  by_cases c : v < rs.length
  · have e : (rs.take (v + 1)).drop v = [rs[v]] := by
      rw [List.take_succ_eq_append_getElem c, List.drop_append_of_le_length (by rw [List.length_take]; omega), List.drop_eq_nil_of_le (by rw [List.length_take]; omega)]; rfl
    rw [e] at sl
    have mem : rs[v] ∈ rs := List.getElem_mem c
    generalize rs[v] = ring at *
    obtain ⟨hw, hlr, h0⟩ := ok.1 ring mem
    obtain ⟨x, k2, h0', hx, t2, y2⟩ := draw_eq t1 (many := 20) (by omega) (by omega)
    have rt := rooted_eq h0 (by omega)
    unfold rootD at rt
    have bnd : ring.length / rootS ring ≤ 60 := Nat.le_trans (Nat.div_le_self _ _) hlr
    have one := fun (n : Int) (h1 : -100 ≤ n) (h2 : n ≤ 100) => rr_one ok.Rs tn hN mem hlr (k := k2) (x2 := some (.fz (.int (v : Nat)))) (x3 := some (.fz (.str ring))) h1 h2
    generalize ring.take (rootS ring) = r at *
    generalize ring.length / rootS ring = m at *
    have go := r2_run (R := ringsT rs) (x2 := some (.fz (.int (v : Nat)))) sf_n sf_n sf_n rt y2 (fun n hn => one n (by
      simp only [List.mem_cons, List.not_mem_nil, or_false] at hn
      rcases hn with rfl | rfl | rfl | rfl <;> omega) (by
      simp only [List.mem_cons, List.not_mem_nil, or_false] at hn
      rcases hn with rfl | rfl | rfl | rfl <;> omega))
    refine ⟨k2, t2, roots_run (x3 := some (.fz (.str ring))) (x4 := some (.fz (.str r))) (x5 := some (.fz (.int (m : Nat)))) (x6 := some (.fz (.int (x - 10)))) ln mxx y1 sl ?_⟩
    have g : gNm 3 (.str ring) [some (.bd k1), some (.fz (.tup (rs.map D.str))), some (.fz (.int (v : Nat))), none, none, none, none] = some [some (.bd k1), some (.fz (.tup (rs.map D.str))), some (.fz (.int (v : Nat))), some (.fz (.str ring)), none, none, none] := by simp
    show forL (gNm 3) fb__law_roots_right_2 [.str ring] _ = _
    rw [forL, g]; dsimp only
    have go : fb__law_roots_right_2 [some (.bd k1), some (.fz (.tup (rs.map D.str))), some (.fz (.int (v : Nat))), some (.fz (.str ring)), none, none, none] = _ := go
    rw [go]; rfl
  · have e : (rs.take (v + 1)).drop v = [] := List.drop_eq_nil_of_le (by rw [List.length_take]; omega)
    rw [e] at sl
    exact ⟨k1, t1, roots_run ln mxx y1 sl rfl⟩
end W_k91
namespace W_k91
open PySem PySem.Spec PyProof.Rows L2 GB
def nl (x : Option S) : Prop := x = none ∨ ∃ L, x = some (.ol L)
theorem nl_n : nl none := .inl rfl
theorem nl_o {L : List D} : nl (some (.ol L)) := .inr ⟨L, rfl⟩
def ZZ (sc : Option S) (k : List (Key × D)) (x2 x3 x4 x5 x6 x7 x8 x9 x10 x11 x12 x13 x14 x15 : Option S) : Rho := [sc, some (.od k), x2, x3, x4, x5, x6, x7, x8, x9, x10, x11, x12, x13, x14, x15, none, none]
section
variable {sc x2 x3 x4 x5 x6 x7 x8 x9 x10 x11 x12 x13 x14 x15 : Option S} {k k' k'' k3 k4 : List (Key × D)}
theorem s_thin {R : D} (h : sf x3) (y : F__law_thin [.bd k] = .ok (.fz R) [.bd k']) : fSet 3 (eFn F__law_thin (eCons (eVar 1) eNil)) (ZZ sc k x2 x3 x4 x5 x6 x7 x8 x9 x10 x11 x12 x13 x14 x15) = .nx (ZZ sc k' x2 (some (.fz R)) x4 x5 x6 x7 x8 x9 x10 x11 x12 x13 x14 x15) := by
  unfold ZZ
  rcases h with rfl | ⟨z, rfl⟩ <;> simp [y]
theorem s_roots {R : D} (y : F__law_roots_right [.bd k, .fz R] = .ok (.fz (.bl true)) [.bd k', .fz R]) : fIf (eNotT (eTru (eFn F__law_roots_right (eCons (eVar 1) (eCons (eVar 3) eNil))))) (fRet (eC (.bl false))) fNil (ZZ sc k x2 (some (.fz R)) x4 x5 x6 x7 x8 x9 x10 x11 x12 x13 x14 x15) = .nx (ZZ sc k' x2 (some (.fz R)) x4 x5 x6 x7 x8 x9 x10 x11 x12 x13 x14 x15) := by
  unfold ZZ
  simp [y]
theorem s_words {w : List Nat} (h : nl x4 ∨ sf x4) (y : F__law_drawn [.bd k, .fz (.int 5), .fz (.int 12)] = .ok (.fz (.str w)) [.bd k', .fz (.int 5), .fz (.int 12)]) : fSet 4 (eLst (eCons (eFn F__law_drawn (eCons (eVar 1) (eCons (eC (.int 5)) (eCons (eC (.int 12)) eNil)))) eNil)) (ZZ sc k x2 x3 x4 x5 x6 x7 x8 x9 x10 x11 x12 x13 x14 x15) = .nx (ZZ sc k' x2 x3 (some (.ol [.str w])) x5 x6 x7 x8 x9 x10 x11 x12 x13 x14 x15) := by
  unfold ZZ
  rcases h with (rfl | ⟨z, rfl⟩) | (rfl | ⟨z, rfl⟩) <;> simp [y]
theorem w_turn {R : D} {L : List D} {w u1 u2 m z1 z2 dw v : List Nat} {n a c q : Int} {j : Int} (h6 : sf x6) (h7 : sf x7) (hL : L.length < 16777216) (ix : atI L j = some (.str w)) (ln : fLen (.fz (.str w)) = some (.fz (.int n))) (d1 : F__law_draw [.bd k, .fz (.int (n + 1))] = .ok (.fz (.int a)) [.bd k', .fz (.int (n + 1))])
    (s1 : fSl (.fz (.str w)) (.fz .non) (.fz (.int a)) = some (.fz (.str u1))) (mk : F__law_made [.bd k', .fz R, .fz (.int 1)] = .ok (.fz (.str m)) [.bd k'', .fz R, .fz (.int 1)]) (ad1 : fAdd (.fz (.str u1)) (.fz (.str m)) = some (.fz (.str z1))) (s2 : fSl (.fz (.str w)) (.fz (.int a)) (.fz .non) = some (.fz (.str u2))) (ad2 : fAdd (.fz (.str z1)) (.fz (.str u2)) = some (.fz (.str z2)))
    (dr : F__law_drawn [.bd k'', .fz (.int 5), .fz (.int 12)] = .ok (.fz (.str dw)) [.bd k3, .fz (.int 5), .fz (.int 12)]) (d2 : F__law_draw [.bd k3, .fz (.int 4)] = .ok (.fz (.int c)) [.bd k4, .fz (.int 4)]) (dv : fDivI c 3 = some (.fz (.int q))) (ix2 : atI [D.str z2, .str dw] q = some (.str v)) :
    fb_law_2 (ZZ sc k x2 (some (.fz R)) (some (.ol L)) (some (.fz (.int j))) x6 x7 x8 x9 x10 x11 x12 x13 x14 x15) = .nx (ZZ sc k4 x2 (some (.fz R)) (some (.ol (L ++ [.str v]))) (some (.fz (.int j))) (some (.fz (.str z2))) (some (.fz (.int a))) x8 x9 x10 x11 x12 x13 x14 x15) := by
  unfold ZZ
  rcases h6 with rfl | ⟨z, rfl⟩ <;> rcases h7 with rfl | ⟨z', rfl⟩ <;> simp [fb_law_2, ix, ln, d1, s1, mk, ad1, s2, ad2, dr, d2, dv, ix2, hL, -s_lenS, -s_addS]
theorem s_un {a b c : D} (h8 : sf x8) (h9 : sf x9) (h10 : sf x10) : fAsg (gTpU 3 (gsCons (gNm 8) (gsCons (gNm 9) (gsCons (gNm 10) gsNil)))) (eVar 4) (ZZ sc k x2 x3 (some (.ol [a, b, c])) x5 x6 x7 x8 x9 x10 x11 x12 x13 x14 x15) = .nx (ZZ sc k x2 x3 (some (.fz (.lst [a, b, c]))) x5 x6 x7 (some (.fz a)) (some (.fz b)) (some (.fz c)) x11 x12 x13 x14 x15) := by
  unfold ZZ
  rcases h8 with rfl | ⟨z, rfl⟩ <;> rcases h9 with rfl | ⟨z', rfl⟩ <;> rcases h10 with rfl | ⟨z'', rfl⟩ <;> simp [fAsg, ofR, gTpU, frz1]
theorem s_pairs {a b c : D} (h : nl x11) : fSet 11 (eLst (eCons (eTup (eCons (eVar 8) (eCons (eVar 9) eNil))) (eCons (eTup (eCons (eVar 9) (eCons (eVar 10) eNil))) (eCons (eTup (eCons (eVar 8) (eCons (eVar 10) eNil))) eNil)))) (ZZ sc k x2 x3 x4 x5 x6 x7 (some (.fz a)) (some (.fz b)) (some (.fz c)) x11 x12 x13 x14 x15) = .nx (ZZ sc k x2 x3 x4 x5 x6 x7 (some (.fz a)) (some (.fz b)) (some (.fz c)) (some (.ol [.tup [a, b], .tup [b, c], .tup [a, c]])) x12 x13 x14 x15) := by
  unfold ZZ
  rcases h with rfl | ⟨z, rfl⟩ <;> simp
theorem s_kinds {R a b c : D} {b1 b2 b3 : Bool} (h : nl x12) (y1 : F__law_same [.fz R, .fz a, .fz b] = .ok (.fz (.bl b1)) [.fz R, .fz a, .fz b]) (y2 : F__law_same [.fz R, .fz b, .fz c] = .ok (.fz (.bl b2)) [.fz R, .fz b, .fz c]) (y3 : F__law_same [.fz R, .fz a, .fz c] = .ok (.fz (.bl b3)) [.fz R, .fz a, .fz c]) :
    fSet 12 (eLc (eCons (eVar 11) eNil) mkSeq (gTp 2 (gsCons (gNm 16) (gsCons (gNm 17) gsNil))) eYes ce_law_1 [16, 17]) (ZZ sc k x2 (some (.fz R)) x4 x5 x6 x7 x8 x9 x10 (some (.ol [.tup [a, b], .tup [b, c], .tup [a, c]])) x12 x13 x14 x15) = .nx (ZZ sc k x2 (some (.fz R)) x4 x5 x6 x7 x8 x9 x10 (some (.ol [.tup [a, b], .tup [b, c], .tup [a, c]])) (some (.ol [.bl b1, .bl b2, .bl b3])) x13 x14 x15) := by
  have one : ∀ (L : List D) (u v : D) (bb : Bool), F__law_same [.fz R, .fz u, .fz v] = .ok (.fz (.bl bb)) [.fz R, .fz u, .fz v] → cturn (gTp 2 (gsCons (gNm 16) (gsCons (gNm 17) gsNil))) eYes ce_law_1 [16, 17] (.tup [u, v]) [sc, some (.od k), x2, some (.fz R), x4, x5, x6, x7, x8, x9, x10, some (.lk L), x12, x13, x14, x15, none, none] = some ([.bl bb], [sc, some (.od k), x2, some (.fz R), x4, x5, x6, x7, x8, x9, x10, some (.lk L), x12, x13, x14, x15, none, none]) := fun L u v bb y => by
    simp [cturn, ce_law_1, y]
  have lc : ∀ L, cmpL (gTp 2 (gsCons (gNm 16) (gsCons (gNm 17) gsNil))) eYes ce_law_1 [16, 17] [.tup [a, b], .tup [b, c], .tup [a, c]] [sc, some (.od k), x2, some (.fz R), x4, x5, x6, x7, x8, x9, x10, some (.lk L), x12, x13, x14, x15, none, none] [] = .ok [.bl b1, .bl b2, .bl b3] [sc, some (.od k), x2, some (.fz R), x4, x5, x6, x7, x8, x9, x10, some (.lk L), x12, x13, x14, x15, none, none] := fun L => by
    rw [cmpL_turn (one L a b b1 y1) (by simp), cmpL_turn (one L b c b2 y2) (by simp), cmpL_turn (one L a c b3 y3) (by simp)]; rfl
  have el : eLc (eCons (eVar 11) eNil) mkSeq (gTp 2 (gsCons (gNm 16) (gsCons (gNm 17) gsNil))) eYes ce_law_1 [16, 17] [sc, some (.od k), x2, some (.fz R), x4, x5, x6, x7, x8, x9, x10, some (.ol [.tup [a, b], .tup [b, c], .tup [a, c]]), x12, x13, x14, x15, none, none] = _ :=
    lc_gen (r1 := [sc, some (.od k), x2, some (.fz R), x4, x5, x6, x7, x8, x9, x10, some (.ol [.tup [a, b], .tup [b, c], .tup [a, c]]), x12, x13, x14, x15, none, none]) (r2 := [sc, some (.od k), x2, some (.fz R), x4, x5, x6, x7, x8, x9, x10, some (.lk [.tup [a, b], .tup [b, c], .tup [a, c]]), x12, x13, x14, x15, none, none]) (os := [.loc 11]) (ss := [.lk [.tup [a, b], .tup [b, c], .tup [a, c]]]) (u := [(11, .ol [.tup [a, b], .tup [b, c], .tup [a, c]])]) (ds := [.tup [a, b], .tup [b, c], .tup [a, c]]) (by simp) (by simp) rfl (by simp) (lc _)
  unfold ZZ
  rcases h with rfl | ⟨z, rfl⟩ <;> simp [el, -s_eLc]
end
end W_k91
namespace W_k91
open PySem PySem.Spec PyProof.Rows L2 GB
def cn3 (a b c : Bool) : Int := (if a then 1 else 0) + (if b then 1 else 0) + (if c then 1 else 0)
theorem cn3_eq (a b c : Bool) : fLCount (.ol [.bl a, .bl b, .bl c]) (.fz (.bl true)) = some (.fz (.int (cn3 a b c))) := by
  cases a <;> cases b <;> cases c <;> rfl
theorem nbb (c d : Bool) : fNe (.fz (.bl c)) (.fz (.bl d)) = some (.fz (.bl (c != d))) := by
  cases c <;> cases d <;> rfl
section
variable {sc x2 x3 x4 x5 x6 x7 x8 x9 x10 x11 x12 x13 x14 x15 : Option S} {k k' : List (Key × D)}
theorem s_cnt {R a b : D} {b1 b2 b3 : Bool} (hc : cn3 b1 b2 b3 ≠ 2) (y : F__law_same [.fz R, .fz b, .fz a] = .ok (.fz (.bl b1)) [.fz R, .fz b, .fz a]) :
    fIf (eOrT (eBl (e2 (p2 fEq) (eMeth isLs (p2 fLCount) (eVar 12) (eCons (eC (.bl true)) eNil)) (eC (.int 2)))) (eBl (e2 (p2 fNe) (eFn F__law_same (eCons (eVar 3) (eCons (eVar 9) (eCons (eVar 8) eNil)))) (e2 qIx (eVar 12) (eC (.int 0)))))) (fRet (eC (.bl false))) fNil (ZZ sc k x2 (some (.fz R)) x4 x5 x6 x7 (some (.fz a)) (some (.fz b)) x10 x11 (some (.ol [.bl b1, .bl b2, .bl b3])) x13 x14 x15) = .nx (ZZ sc k x2 (some (.fz R)) x4 x5 x6 x7 (some (.fz a)) (some (.fz b)) x10 x11 (some (.ol [.bl b1, .bl b2, .bl b3])) x13 x14 x15) := by
  have c1 := cn3_eq b1 b2 b3
  have a0 : atI [D.bl b1, .bl b2, .bl b3] 0 = some (.bl b1) := rfl
  have n := nbb b1 b1
  have nn : (b1 != b1) = false := by cases b1 <;> rfl
  rw [nn] at n
  unfold ZZ
  simp [c1, hc, y, a0, n]
theorem s_by {w : List Nat} (h : sf x13) (y : F__law_some [.bd k, .fz (.int 5), .fz (.int 4)] = .ok (.fz (.str w)) [.bd k', .fz (.int 5), .fz (.int 4)]) : fSet 13 (eFn F__law_some (eCons (eVar 1) (eCons (eC (.int 5)) (eCons (eC (.int 4)) eNil)))) (ZZ sc k x2 x3 x4 x5 x6 x7 x8 x9 x10 x11 x12 x13 x14 x15) = .nx (ZZ sc k' x2 x3 x4 x5 x6 x7 x8 x9 x10 x11 x12 (some (.fz (.str w))) x14 x15) := by
  unfold ZZ
  rcases h with rfl | ⟨z, rfl⟩ <;> simp [y]
theorem s_jud {R a b : D} {b1 b2 b3 c : Bool} (ya : b1 = true → F__law_nothing [.fz R, .fz a] = .ok (.fz (.bl c)) [.fz R, .fz a] ∧ F__law_nothing [.fz R, .fz b] = .ok (.fz (.bl c)) [.fz R, .fz b]) :
    fIf (eAndT (eTru (e2 qIx (eVar 12) (eC (.int 0)))) (eBl (e2 (p2 fNe) (eFn F__law_nothing (eCons (eVar 3) (eCons (eVar 8) eNil))) (eFn F__law_nothing (eCons (eVar 3) (eCons (eVar 9) eNil)))))) (fRet (eC (.bl false))) fNil (ZZ sc k x2 (some (.fz R)) x4 x5 x6 x7 (some (.fz a)) (some (.fz b)) x10 x11 (some (.ol [.bl b1, .bl b2, .bl b3])) x13 x14 x15) = .nx (ZZ sc k x2 (some (.fz R)) x4 x5 x6 x7 (some (.fz a)) (some (.fz b)) x10 x11 (some (.ol [.bl b1, .bl b2, .bl b3])) x13 x14 x15) := by
  have a0 : atI [D.bl b1, .bl b2, .bl b3] 0 = some (.bl b1) := rfl
  have n := nbb c c
  have nn : (c != c) = false := by cases c <;> rfl
  rw [nn] at n
  unfold ZZ
  cases b1 with
  | false => simp [a0]
  | true =>
    obtain ⟨y1, y2⟩ := ya rfl
    simp [a0, y1, y2, n]
theorem s_ahead {R : D} {u v p pu pv : List Nat} {c : Bool} (h : sf x14) (e1' : fAdd (.fz (.str p)) (.fz (.str u)) = some (.fz (.str pu))) (e2' : fAdd (.fz (.str p)) (.fz (.str v)) = some (.fz (.str pv))) (y : F__law_same [.fz R, .fz (.str pu), .fz (.str pv)] = .ok (.fz (.bl c)) [.fz R, .fz (.str pu), .fz (.str pv)]) :
    fSet 14 (eFn F__law_same (eCons (eVar 3) (eCons (e2 (p2 fAdd) (eVar 13) (eVar 8)) (eCons (e2 (p2 fAdd) (eVar 13) (eVar 9)) eNil)))) (ZZ sc k x2 (some (.fz R)) x4 x5 x6 x7 (some (.fz (.str u))) (some (.fz (.str v))) x10 x11 x12 (some (.fz (.str p))) x14 x15) = .nx (ZZ sc k x2 (some (.fz R)) x4 x5 x6 x7 (some (.fz (.str u))) (some (.fz (.str v))) x10 x11 x12 (some (.fz (.str p))) (some (.fz (.bl c))) x15) := by
  unfold ZZ
  rcases h with rfl | ⟨z, rfl⟩ <;> simp [e1', e2', y, -s_addS]
theorem s_later {R : D} {u v p pu pv : List Nat} {c : Bool} (h : sf x15) (e1' : fAdd (.fz (.str u)) (.fz (.str p)) = some (.fz (.str pu))) (e2' : fAdd (.fz (.str v)) (.fz (.str p)) = some (.fz (.str pv))) (y : F__law_same [.fz R, .fz (.str pu), .fz (.str pv)] = .ok (.fz (.bl c)) [.fz R, .fz (.str pu), .fz (.str pv)]) :
    fSet 15 (eFn F__law_same (eCons (eVar 3) (eCons (e2 (p2 fAdd) (eVar 8) (eVar 13)) (eCons (e2 (p2 fAdd) (eVar 9) (eVar 13)) eNil)))) (ZZ sc k x2 (some (.fz R)) x4 x5 x6 x7 (some (.fz (.str u))) (some (.fz (.str v))) x10 x11 x12 (some (.fz (.str p))) x14 x15) = .nx (ZZ sc k x2 (some (.fz R)) x4 x5 x6 x7 (some (.fz (.str u))) (some (.fz (.str v))) x10 x11 x12 (some (.fz (.str p))) x14 (some (.fz (.bl c)))) := by
  unfold ZZ
  rcases h with rfl | ⟨z, rfl⟩ <;> simp [e1', e2', y, -s_addS]
theorem s_both {b1 b2 b3 : Bool} : fIf (eOrT (eBl (e2 (p2 fNe) (eVar 14) (e2 qIx (eVar 12) (eC (.int 0))))) (eBl (e2 (p2 fNe) (eVar 15) (e2 qIx (eVar 12) (eC (.int 0)))))) (fRet (eC (.bl false))) fNil (ZZ sc k x2 x3 x4 x5 x6 x7 x8 x9 x10 x11 (some (.ol [.bl b1, .bl b2, .bl b3])) x13 (some (.fz (.bl b1))) (some (.fz (.bl b1)))) = .nx (ZZ sc k x2 x3 x4 x5 x6 x7 x8 x9 x10 x11 (some (.ol [.bl b1, .bl b2, .bl b3])) x13 (some (.fz (.bl b1))) (some (.fz (.bl b1)))) := by
  have a0 : atI [D.bl b1, .bl b2, .bl b3] 0 = some (.bl b1) := rfl
  have n := nbb b1 b1
  have nn : (b1 != b1) = false := by cases b1 <;> rfl
  rw [nn] at n
  unfold ZZ
  simp [a0, n]
theorem s_self {R : D} {u v bu bv : List Nat} {b1 b2 b3 : Bool} (y1 : F__law_same [.fz R, .fz (.str u), .fz (.str u)] = .ok (.fz (.bl true)) [.fz R, .fz (.str u), .fz (.str u)]) (yu : F_back [.fz (.str u)] = .ok (.fz (.str bu)) [.fz (.str u)]) (yv : F_back [.fz (.str v)] = .ok (.fz (.str bv)) [.fz (.str v)]) (y2 : F__law_same [.fz R, .fz (.str bu), .fz (.str bv)] = .ok (.fz (.bl b1)) [.fz R, .fz (.str bu), .fz (.str bv)]) :
    fIf (eOrT (eNotT (eTru (eFn F__law_same (eCons (eVar 3) (eCons (eVar 8) (eCons (eVar 8) eNil)))))) (eBl (e2 (p2 fNe) (e2 qIx (eVar 12) (eC (.int 0))) (eFn F__law_same (eCons (eVar 3) (eCons (eFn F_back (eCons (eVar 8) eNil)) (eCons (eFn F_back (eCons (eVar 9) eNil)) eNil))))))) (fRet (eC (.bl false))) fNil (ZZ sc k x2 (some (.fz R)) x4 x5 x6 x7 (some (.fz (.str u))) (some (.fz (.str v))) x10 x11 (some (.ol [.bl b1, .bl b2, .bl b3])) x13 x14 x15) = .nx (ZZ sc k x2 (some (.fz R)) x4 x5 x6 x7 (some (.fz (.str u))) (some (.fz (.str v))) x10 x11 (some (.ol [.bl b1, .bl b2, .bl b3])) x13 x14 x15) := by
  have a0 : atI [D.bl b1, .bl b2, .bl b3] 0 = some (.bl b1) := rfl
  have n := nbb b1 b1
  have nn : (b1 != b1) = false := by cases b1 <;> rfl
  rw [nn] at n
  unfold ZZ
  simp [y1, yu, yv, y2, a0, n]
end
/-- one more word -/
theorem word_turn {sc x2 x7 x8 x9 x10 x11 x12 x13 x14 x15 x6 : Option S} {k : List (Key × D)} (t : Feed k) {rs : List (List Nat)} (ok : okR rs) (hN : okN rs) {L : List (List Nat)} {B : Nat} (hL : ∀ w ∈ L, W w ∧ w.length ≤ B) (b1 : 12 ≤ B) (b2 : B ≤ 700) (ll : L.length ≤ 10) {j : Nat} (hj : j < L.length) (h6 : sf x6) (h7 : sf x7) :
    ∃ k' v y6 y7, Feed k' ∧ W v ∧ v.length ≤ B + 300 ∧ sf y6 ∧ sf y7 ∧ fb_law_2 (ZZ sc k x2 (some (.fz (ringsT rs))) (some (.ol (L.map D.str))) (some (.fz (.int (j : Nat)))) x6 x7 x8 x9 x10 x11 x12 x13 x14 x15) = .nx (ZZ sc k' x2 (some (.fz (ringsT rs))) (some (.ol ((L ++ [v]).map D.str))) (some (.fz (.int (j : Nat)))) y6 y7 x8 x9 x10 x11 x12 x13 x14 x15) := by
  have e0 : L[j]? = some L[j] := List.getElem?_eq_getElem hj
  obtain ⟨hw, wl⟩ := hL _ (List.getElem_mem hj)
  have ix : atI (L.map D.str) (j : Nat) = some (.str L[j]) := by rw [atI_n, List.getElem?_map, e0]; rfl
  generalize L[j] = w at *
  obtain ⟨a, k1, ha, t1, y1⟩ := drN t (m := w.length + 1) (by omega) (by omega)
  rw [show ((w.length + 1 : Nat) : Int) = (w.length : Int) + 1 by omega] at y1
  obtain ⟨k2, m, t2, hm, ml, nm, y2⟩ := made_eq t1 ok hN (mo := 1) (by omega) (by omega)
  have y2 : F__law_made [.bd k1, .fz (ringsT rs), .fz (.int 1)] = .ok (.fz (.str m)) [.bd k2, .fz (ringsT rs), .fz (.int 1)] := y2
  obtain ⟨k3, u, t3, hu, ul, y3⟩ := drawn_eq t2 (m := 5) (mo := 12) (by omega) (by omega) (by omega) (by omega)
  have y3 : F__law_drawn [.bd k2, .fz (.int 5), .fz (.int 12)] = .ok (.fz (.str u)) [.bd k3, .fz (.int 5), .fz (.int 12)] := y3
  obtain ⟨c, k4, hc, t4, y4⟩ := drN t3 (m := 4) (by omega) (by omega)
  have y4 : F__law_draw [.bd k3, .fz (.int 4)] = .ok (.fz (.int (c : Nat))) [.bd k4, .fz (.int 4)] := y4
  have wz : W (w.take a ++ m ++ w.drop a) := ((hw.take a).app hm).app (hw.drop a)
  have lz : (w.take a ++ m ++ w.drop a).length ≤ w.length + 300 := by simp only [List.length_append, List.length_take, List.length_drop]; omega
  have dv : fDivI ((c : Nat) : Int) 3 = some (.fz (.int ((c / 3 : Nat) : Int))) := div_n (b := 3) (by omega) (by omega)
  obtain ⟨v, hv, vl, ix2⟩ : ∃ v, W v ∧ v.length ≤ B + 300 ∧ atI [D.str (w.take a ++ m ++ w.drop a), .str u] ((c / 3 : Nat) : Int) = some (.str v) := by
    by_cases c3 : c = 3
    · subst c3
      exact ⟨u, hu, by omega, rfl⟩
    · have : c / 3 = 0 := by omega
      rw [this]
      exact ⟨_, wz, by omega, rfl⟩
  have l12 : (w.take a).length + m.length ≤ 1000000 := by rw [List.length_take]; omega
  have r := w_turn (sc := sc) (x2 := x2) (x8 := x8) (x9 := x9) (x10 := x10) (x11 := x11) (x12 := x12) (x13 := x13) (x14 := x14) (x15 := x15) h6 h7 (by rw [List.length_map]; omega) ix (lnS (by omega)) y1 (sl_to (by omega) a) y2 (adS l12) (sl_from (by omega) a) (adS (by simp only [List.length_append, List.length_take, List.length_drop]; omega)) y3 y4 dv ix2
  refine ⟨k4, v, some (.fz (.str (w.take a ++ m ++ w.drop a))), some (.fz (.int (a : Nat))), t4, hv, vl, sf_f, sf_f, ?_⟩
  rw [List.map_append]
  exact r
theorem law_turn {sc x2 x3 x4 x5 x6 x7 x8 x9 x10 x11 x12 x13 x14 x15 : Option S} {k : List (Key × D)} (t : Feed k) (h3 : sf x3) (h4 : nl x4 ∨ sf x4) (h5 : sf x5) (h6 : sf x6) (h7 : sf x7) (h8 : sf x8) (h9 : sf x9) (h10 : sf x10) (h11 : nl x11) (h12 : nl x12) (h13 : sf x13) (h14 : sf x14) (h15 : sf x15) :
    ∃ k' y3 y4 y5 y6 y7 y8 y9 y10 y11 y12 y13 y14 y15, Feed k' ∧ sf y3 ∧ (nl y4 ∨ sf y4) ∧ sf y5 ∧ sf y6 ∧ sf y7 ∧ sf y8 ∧ sf y9 ∧ sf y10 ∧ nl y11 ∧ nl y12 ∧ sf y13 ∧ sf y14 ∧ sf y15 ∧ fb_law_3 (ZZ sc k x2 x3 x4 x5 x6 x7 x8 x9 x10 x11 x12 x13 x14 x15) = .nx (ZZ sc k' x2 y3 y4 y5 y6 y7 y8 y9 y10 y11 y12 y13 y14 y15) := by
  obtain ⟨k1, rs, t1, ok, hN, tn, q1⟩ := thin_eqC t
  obtain ⟨k2, t2, q2⟩ := roots_eq t1 ok (hN := hN) tn
  obtain ⟨k3, a, t3, ha, al, q3⟩ := drawn_eq t2 (m := 5) (mo := 12) (by omega) (by omega) (by omega) (by omega)
  have q3 : F__law_drawn [.bd k2, .fz (.int 5), .fz (.int 12)] = .ok (.fz (.str a)) [.bd k3, .fz (.int 5), .fz (.int 12)] := q3
  obtain ⟨k4, b, u6, u7, t4, hb, bl, g6, g7, q4⟩ := word_turn (sc := sc) (x2 := x2) (x8 := x8) (x9 := x9) (x10 := x10) (x11 := x11) (x12 := x12) (x13 := x13) (x14 := x14) (x15 := x15) t3 ok hN (L := [a]) (B := 12) (fun w hw => by rw [List.mem_singleton.mp hw]; exact ⟨ha, al⟩) (by omega) (by omega) (by simp) (j := 0) (by simp) h6 h7
  obtain ⟨k5, c, v6, v7, t5, hc, cl, e6, e7, q5⟩ := word_turn (sc := sc) (x2 := x2) (x8 := x8) (x9 := x9) (x10 := x10) (x11 := x11) (x12 := x12) (x13 := x13) (x14 := x14) (x15 := x15) t4 ok hN (L := [a, b]) (B := 312) (fun w hw => by
    rcases List.mem_cons.mp hw with rfl | hw
    · exact ⟨ha, by omega⟩
    · rw [List.mem_singleton.mp hw]; exact ⟨hb, bl⟩) (by omega) (by omega) (by simp) (j := 1) (by simp) g6 g7
  have g : ∀ (kk : List (Key × D)) (L : List D) (i : Int) (y6 y7 z : Option S), sf z → gNm 5 (.int i) (ZZ sc kk x2 (some (.fz (ringsT rs))) (some (.ol L)) z y6 y7 x8 x9 x10 x11 x12 x13 x14 x15) = some (ZZ sc kk x2 (some (.fz (ringsT rs))) (some (.ol L)) (some (.fz (.int i))) y6 y7 x8 x9 x10 x11 x12 x13 x14 x15) := by
    rintro kk L i y6 y7 z (rfl | ⟨q, rfl⟩) <;> simp [ZZ]
  have q4 : fb_law_2 (ZZ sc k3 x2 (some (.fz (ringsT rs))) (some (.ol [.str a])) (some (.fz (.int 0))) x6 x7 x8 x9 x10 x11 x12 x13 x14 x15) = .nx (ZZ sc k4 x2 (some (.fz (ringsT rs))) (some (.ol [.str a, .str b])) (some (.fz (.int 0))) u6 u7 x8 x9 x10 x11 x12 x13 x14 x15) := q4
  have q5 : fb_law_2 (ZZ sc k4 x2 (some (.fz (ringsT rs))) (some (.ol [.str a, .str b])) (some (.fz (.int 1))) u6 u7 x8 x9 x10 x11 x12 x13 x14 x15) = .nx (ZZ sc k5 x2 (some (.fz (ringsT rs))) (some (.ol [.str a, .str b, .str c])) (some (.fz (.int 1))) v6 v7 x8 x9 x10 x11 x12 x13 x14 x15) := q5
  have go : forL (gNm 5) fb_law_2 (upFrom 0 2) (ZZ sc k3 x2 (some (.fz (ringsT rs))) (some (.ol [.str a])) x5 x6 x7 x8 x9 x10 x11 x12 x13 x14 x15) = .nx (ZZ sc k5 x2 (some (.fz (ringsT rs))) (some (.ol [.str a, .str b, .str c])) (some (.fz (.int 1))) v6 v7 x8 x9 x10 x11 x12 x13 x14 x15) := by
    show forL (gNm 5) fb_law_2 [.int 0, .int 1] _ = _
    rw [forL, g _ _ _ _ _ _ h5]; dsimp only
    rw [q4]; dsimp only
    rw [forL, g _ _ _ _ _ _ sf_f]; dsimp only
    rw [q5]; rfl
  have lp : fFor (eCons (eC (.int 2)) eNil) mkR1 (gNm 5) fb_law_2 (ZZ sc k3 x2 (some (.fz (ringsT rs))) (some (.ol [.str a])) x5 x6 x7 x8 x9 x10 x11 x12 x13 x14 x15) = _ :=
    (for_r1 (n := 2) (r1 := ZZ sc k3 x2 (some (.fz (ringsT rs))) (some (.ol [.str a])) x5 x6 x7 x8 x9 x10 x11 x12 x13 x14 x15) (by simp) (by omega)).trans go
  have bl : b.length ≤ 312 := by omega
  have cl : c.length ≤ 612 := by omega
  obtain ⟨k6, p, t6, hp, pl, q6⟩ := some_eq t5 (m := 5) (mo := 4) (by omega) (by omega) (by omega)
  have q6 : F__law_some [.bd k5, .fz (.int 5), .fz (.int 4)] = .ok (.fz (.str p)) [.bd k6, .fz (.int 5), .fz (.int 4)] := q6
  have sm := fun {u v : List Nat} (hu : W u) (hv : W v) (hl : u.length + v.length ≤ 2000) => same_eq ok.Rs (hN := hN) tn hu hv hl
  have y1 := sm ha hb (by omega)
  have y2 := sm hb hc (by omega)
  have y3 := sm ha hc (by omega)
  have y4 := sm hb ha (by omega)
  have e4 : eB rs hN b a = eB rs hN a b := by
    rw [Bool.eq_iff_iff, eB_iff, eB_iff]
    exact ⟨fun z => z.symm hb ha, fun z => z.symm ha hb⟩
  rw [e4] at y4
  have cn : cn3 (eB rs hN a b) (eB rs hN b c) (eB rs hN a c) ≠ 2 := by
    have i1 := eB_iff (h := hN) (u := a) (v := b)
    have i2 := eB_iff (h := hN) (u := b) (v := c)
    have i3 := eB_iff (h := hN) (u := a) (v := c)
    cases z1 : eB rs hN a b <;> cases z2 : eB rs hN b c <;> cases z3 : eB rs hN a c <;> rw [z1] at i1 <;> rw [z2] at i2 <;> rw [z3] at i3 <;> (try (simp [cn3]; done))
    · exact absurd (i1.mpr ((i3.mp rfl).trans ha hc hb ((i2.mp rfl).symm hb hc))) (by decide)
    · exact absurd (i2.mpr (((i1.mp rfl).symm ha hb).trans hb ha hc (i3.mp rfl))) (by decide)
    · exact absurd (i3.mpr ((i1.mp rfl).trans ha hb hc (i2.mp rfl))) (by decide)
  have nt := fun {u : List Nat} (hu : W u) (hl : u.length ≤ 2000) => nothing_eq ok.Rs (hN := hN) tn hu hl
  have na := nt ha (by omega)
  have nb := nt hb (by omega)
  have jd : eB rs hN a b = true → F__law_nothing [.fz (ringsT rs), .fz (.str a)] = .ok (.fz (.bl (nB rs hN a))) [.fz (ringsT rs), .fz (.str a)] ∧ F__law_nothing [.fz (ringsT rs), .fz (.str b)] = .ok (.fz (.bl (nB rs hN a))) [.fz (ringsT rs), .fz (.str b)] := fun z => by
    refine ⟨na, ?_⟩
    have e : nB rs hN b = nB rs hN a := nB_eq (by
      have := Eqv.in (x := []) (y := []) ha hb (eB_iff.mp z) W.nil W.nil
      simpa using this.symm)
    rw [← e]
    exact nb
  have ya := sm (hp.app ha) (hp.app hb) (by simp only [List.length_append]; omega)
  have yl := sm (ha.app hp) (hb.app hp) (by simp only [List.length_append]; omega)
  have yb := sm ha.bkw hb.bkw (by rw [bkw_len, bkw_len]; omega)
  have ys := sm ha ha (by omega)
  rw [show eB rs hN (p ++ a) (p ++ b) = eB rs hN a b by rw [Bool.eq_iff_iff, eB_iff, eB_iff]; exact Eqv.ahead hp] at ya
  rw [show eB rs hN (a ++ p) (b ++ p) = eB rs hN a b by rw [Bool.eq_iff_iff, eB_iff, eB_iff]; exact Eqv.later hp] at yl
  rw [show eB rs hN (bkw a) (bkw b) = eB rs hN a b by rw [Bool.eq_iff_iff, eB_iff, eB_iff]; exact Eqv.back ha hb] at yb
  rw [show eB rs hN a a = true by rw [eB_iff]; exact Eqv.refl ha] at ys
  have fin : fb_law_3 (ZZ sc k x2 x3 x4 x5 x6 x7 x8 x9 x10 x11 x12 x13 x14 x15) = .nx (ZZ sc k6 x2 (some (.fz (ringsT rs))) (some (.fz (.lst [.str a, .str b, .str c]))) (some (.fz (.int 1))) v6 v7 (some (.fz (.str a))) (some (.fz (.str b))) (some (.fz (.str c))) (some (.ol [.tup [.str a, .str b], .tup [.str b, .str c], .tup [.str a, .str c]])) (some (.ol [.bl (eB rs hN a b), .bl (eB rs hN b c), .bl (eB rs hN a c)])) (some (.fz (.str p))) (some (.fz (.bl (eB rs hN a b)))) (some (.fz (.bl (eB rs hN a b))))) := by
    unfold fb_law_3
    rw [s_fSeq, s_thin h3 q1]; dsimp only
    rw [s_fSeq, s_roots q2]; dsimp only
    rw [s_fSeq, s_words h4 q3]; dsimp only
    rw [s_fSeq, lp]; dsimp only
    rw [s_fSeq, s_un h8 h9 h10]; dsimp only
    rw [s_fSeq, s_pairs h11]; dsimp only
    rw [s_fSeq, s_kinds h12 y1 y2 y3]; dsimp only
    rw [s_fSeq, s_cnt cn y4]; dsimp only
    rw [s_fSeq, s_by h13 q6]; dsimp only
    rw [s_fSeq, s_jud jd]; dsimp only
    rw [s_fSeq, s_ahead h14 (adS (by omega)) (adS (by omega)) ya]; dsimp only
    rw [s_fSeq, s_later h15 (adS (by omega)) (adS (by omega)) yl]; dsimp only
    rw [s_fSeq, s_both]; dsimp only
    exact s_self ys (back_eq ha (by omega)) (back_eq hb (by omega)) yb
  exact ⟨k6, _, _, _, _, _, _, _, _, _, _, _, _, _, t6, sf_f, .inr sf_f, sf_f, e6, e7, sf_f, sf_f, sf_f, nl_o, nl_o, sf_f, sf_f, sf_f, fin⟩
theorem law_eq (ns : List Int) : F_law [.fz (.scr (ns.map D.int))] = .ok (.fz (.bl true)) [.fz (.scr (ns.map D.int))] := by
  obtain ⟨k0, t0, y0⟩ := feed_eq ns
  generalize ns.map D.int = sc at *
  obtain ⟨r', f, k, x2, x3, x4, x5, x6, x7, x8, x9, x10, x11, x12, x13, x14, x15, t, h2, h3, h4, h5, h6, h7, h8, h9, h10, h11, h12, h13, h14, h15, rfl⟩ := forL_inv (fg := gNm 2) (f := fb_law_3) (ds := upFrom 0 2) (r := ZZ (some (.fz (.scr sc))) k0 none none none none none none none none none none none none none none)
    (fun _ r => ∃ k x2 x3 x4 x5 x6 x7 x8 x9 x10 x11 x12 x13 x14 x15, Feed k ∧ sf x2 ∧ sf x3 ∧ (nl x4 ∨ sf x4) ∧ sf x5 ∧ sf x6 ∧ sf x7 ∧ sf x8 ∧ sf x9 ∧ sf x10 ∧ nl x11 ∧ nl x12 ∧ sf x13 ∧ sf x14 ∧ sf x15 ∧ r = ZZ (some (.fz (.scr sc))) k x2 x3 x4 x5 x6 x7 x8 x9 x10 x11 x12 x13 x14 x15) ⟨k0, none, none, none, none, none, none, none, none, none, none, none, none, none, none, t0, sf_n, sf_n, .inl nl_n, sf_n, sf_n, sf_n, sf_n, sf_n, sf_n, nl_n, nl_n, sf_n, sf_n, sf_n, rfl⟩ (by
      rintro i d r hd ⟨k, x2, x3, x4, x5, x6, x7, x8, x9, x10, x11, x12, x13, x14, x15, t, h2, h3, h4, h5, h6, h7, h8, h9, h10, h11, h12, h13, h14, h15, rfl⟩
      obtain ⟨k', y3, y4, y5, y6, y7, y8, y9, y10, y11, y12, y13, y14, y15, t', g3, g4, g5, g6, g7, g8, g9, g10, g11, g12, g13, g14, g15, y⟩ := law_turn (sc := some (.fz (.scr sc))) (x2 := some (.fz d)) t h3 h4 h5 h6 h7 h8 h9 h10 h11 h12 h13 h14 h15
      refine ⟨_, ?_, _, .inl y, k', _, y3, y4, y5, y6, y7, y8, y9, y10, y11, y12, y13, y14, y15, t', sf_f, g3, g4, g5, g6, g7, g8, g9, g10, g11, g12, g13, g14, g15, rfl⟩
      rcases h2 with rfl | ⟨z, rfl⟩ <;> simp [ZZ])
  have lp : fFor (eCons (eC (.int 2)) eNil) mkR1 (gNm 2) fb_law_3 (ZZ (some (.fz (.scr sc))) k0 none none none none none none none none none none none none none none) = _ :=
    (for_r1 (n := 2) (r1 := ZZ (some (.fz (.scr sc))) k0 none none none none none none none none none none none none none none) (by simp) (by omega)).trans f
  rw [F_law_eq]
  refine runF_rt (r := ZZ (some (.fz (.scr sc))) k x2 x3 x4 x5 x6 x7 x8 x9 x10 x11 x12 x13 x14 x15) rfl ?_ rfl
  have e0 : startR 18 [GB.S.fz (.scr sc)] = [some (.fz (.scr sc)), none, none, none, none, none, none, none, none, none, none, none, none, none, none, none, none, none] := rfl
  rw [e0]
  have e1' : fSet 1 (eFn F__law_feed (eCons (eVar 0) eNil)) [some (.fz (.scr sc)), none, none, none, none, none, none, none, none, none, none, none, none, none, none, none, none, none] = .nx (ZZ (some (.fz (.scr sc))) k0 none none none none none none none none none none none none none none) := by
    unfold ZZ
    simp [y0]
  unfold b_law
  rw [s_fSeq, e1']; dsimp only
  rw [s_fSeq, lp]; dsimp only
  simp
end W_k91
open PySem PySem.W PyProof.Rows
set_option maxHeartbeats 0 in
theorem PySem.Challenge.cw_ringwords_k91_whole_one_and_the_same_wor_holds : PySem.Challenge.rw_ringwords_k91_whole_one_and_the_same_wor.Holds := by
  w_on; o_law; k_head; (case hw => w_witness2)
  k_fill
  refine GB.law_walk (l := PySem.Challenge.rw_ringwords_k91_whole_one_and_the_same_wor) (n := 63) (k := 10) (x := "_law_script") (F := W_k91.F_law) rfl (by decide) rfl ⟨rfl, by decide, by decide⟩ (fun w h Y => PySem.W.kIn_of Y) ?G (fun ns hn => W_k91.law_eq ns)
  case G =>
    intro w mg fa h KX G hmg
    refine' W_k91.all_mk KX G hmg ?xa0 ?xl0 ?xg0 ?xk0 ?xa1 ?xl1 ?xg1 ?xk1 ?xa2 ?xl2 ?xg2 ?xk2 ?xa3 ?xl3 ?xg3 ?xk3 ?xa4 ?xl4 ?xg4 ?xk4 ?xa5 ?xl5 ?xg5 ?xk5 ?xa6 ?xl6 ?xg6 ?xk6 ?xa7 ?xl7 ?xg7 ?xk7 ?xa8 ?xl8 ?xg8 ?xk8 ?xa9 ?xl9 ?xg9 ?xk9 ?xa10 ?xl10 ?xg10 ?xk10 ?xa11 ?xl11 ?xg11 ?xk11 ?xa12 ?xl12 ?xg12 ?xk12 ?xa13 ?xl13 ?xg13 ?xk13 ?xa14 ?xl14 ?xg14 ?xk14 ?xa15 ?xl15 ?xg15 ?xk15 ?xa16 ?xl16 ?xg16 ?xk16 ?xa17 ?xl17 ?xg17 ?xk17 ?xa18 ?xl18 ?xg18 ?xk18 ?xa19 ?xl19 ?xg19 ?xk19 ?xa20 ?xl20 ?xg20 ?xk20 ?xa21 ?xl21 ?xg21 ?xk21 ?xa22 ?xl22 ?xg22 ?xk22 ?xa23 ?xl23 ?xg23 ?xk23 ?xa24 ?xl24 ?xg24 ?xk24 ?xa25 ?xl25 ?xg25 ?xk25 ?xa26 ?xl26 ?xg26 ?xk26 ?xa27 ?xl27 ?xg27 ?xk27 ?xa28 ?xl28 ?xg28 ?xk28 ?xa29 ?xl29 ?xg29 ?xk29 ?xa30 ?xl30 ?xg30 ?xk30 ?xa31 ?xl31 ?xg31 ?xk31 ?xa32 ?xl32 ?xg32 ?xk32 ?xa33 ?xl33 ?xg33 ?xk33 ?xa34 ?xl34 ?xg34 ?xk34 ?xa35 ?xl35 ?xg35 ?xk35 ?xa36 ?xl36 ?xg36 ?xk36 ?xa37 ?xl37 ?xg37 ?xk37 ?xz0 ?xz1 ?xz2 ?xz3 ?xz4 ?xz5 ?xz6 ?xz7 ?xz8 ?xz9 ?xz10 ?xz11 ?xv0 ?xr0 ?xv1 ?xr1 ?gka_NoThin ?gka_RingError ?gkr_RingError ?gks_RingError ?gki_RingError ?gxL_NoThin ?gxs_NoThin ?gxe_NoThin ?gxt_NoThin ?gxk_NoThin ?gxi_NoThin ?gxj_NoThin ?gxl_NoThin ?gxg_NoThin ?gxq_NoThin ?gxf_NoThin_turn ?gxf_NoThin_other ?gxf_NoThin_piece
    (case xa0 => k_is); (case xl0 => k_is); (case xg0 => k_is); (case xk0 => k_is); (case xa1 => k_is); (case xl1 => k_is); (case xg1 => k_is); (case xk1 => k_is); (case xa2 => k_is); (case xl2 => k_is); (case xg2 => k_is); (case xk2 => k_is); (case xa3 => k_is); (case xl3 => k_is); (case xg3 => k_is); (case xk3 => k_is); (case xa4 => k_is); (case xl4 => k_is); (case xg4 => k_is); (case xk4 => k_is); (case xa5 => k_is); (case xl5 => k_is); (case xg5 => k_is); (case xk5 => k_is); (case xa6 => k_is); (case xl6 => k_is); (case xg6 => k_is); (case xk6 => k_is); (case xa7 => k_is); (case xl7 => k_is); (case xg7 => k_is); (case xk7 => k_is); (case xa8 => k_is); (case xl8 => k_is); (case xg8 => k_is); (case xk8 => k_is); (case xa9 => k_is); (case xl9 => k_is); (case xg9 => k_is); (case xk9 => k_is); (case xa10 => k_is); (case xl10 => k_is); (case xg10 => k_is); (case xk10 => k_is); (case xa11 => k_is); (case xl11 => k_is); (case xg11 => k_is); (case xk11 => k_is); (case xa12 => k_is); (case xl12 => k_is); (case xg12 => k_is); (case xk12 => k_is); (case xa13 => k_is); (case xl13 => k_is); (case xg13 => k_is); (case xk13 => k_is); (case xa14 => k_is); (case xl14 => k_is); (case xg14 => k_is); (case xk14 => k_is); (case xa15 => k_is); (case xl15 => k_is); (case xg15 => k_is); (case xk15 => k_is); (case xa16 => k_is); (case xl16 => k_is); (case xg16 => k_is); (case xk16 => k_is); (case xa17 => k_is); (case xl17 => k_is); (case xg17 => k_is); (case xk17 => k_is); (case xa18 => k_is); (case xl18 => k_is); (case xg18 => k_is); (case xk18 => k_is); (case xa19 => k_is); (case xl19 => k_is); (case xg19 => k_is); (case xk19 => k_is); (case xa20 => k_is); (case xl20 => k_is); (case xg20 => k_is); (case xk20 => k_is); (case xa21 => k_is); (case xl21 => k_is); (case xg21 => k_is); (case xk21 => k_is); (case xa22 => k_is); (case xl22 => k_is); (case xg22 => k_is); (case xk22 => k_is); (case xa23 => k_is); (case xl23 => k_is); (case xg23 => k_is); (case xk23 => k_is); (case xa24 => k_is); (case xl24 => k_is); (case xg24 => k_is); (case xk24 => k_is); (case xa25 => k_is); (case xl25 => k_is); (case xg25 => k_is); (case xk25 => k_is); (case xa26 => k_is); (case xl26 => k_is); (case xg26 => k_is); (case xk26 => k_is); (case xa27 => k_is); (case xl27 => k_is); (case xg27 => k_is); (case xk27 => k_is); (case xa28 => k_is); (case xl28 => k_is); (case xg28 => k_is); (case xk28 => k_is); (case xa29 => k_is); (case xl29 => k_is); (case xg29 => k_is); (case xk29 => k_is); (case xa30 => k_is); (case xl30 => k_is); (case xg30 => k_is); (case xk30 => k_is); (case xa31 => k_is); (case xl31 => k_is); (case xg31 => k_is); (case xk31 => k_is); (case xa32 => k_is); (case xl32 => k_is); (case xg32 => k_is); (case xk32 => k_is); (case xa33 => k_is); (case xl33 => k_is); (case xg33 => k_is); (case xk33 => k_is); (case xa34 => k_is); (case xl34 => k_is); (case xg34 => k_is); (case xk34 => k_is); (case xa35 => k_is); (case xl35 => k_is); (case xg35 => k_is); (case xk35 => k_is); (case xa36 => k_is); (case xl36 => k_is); (case xg36 => k_is); (case xk36 => k_is); (case xa37 => k_is); (case xl37 => k_is); (case xg37 => k_is); (case xk37 => k_is); (case xz0 => k_is); (case xz1 => k_is); (case xz2 => k_is); (case xz3 => k_is); (case xz4 => k_is); (case xz5 => k_is); (case xz6 => k_is); (case xz7 => k_is); (case xz8 => k_is); (case xz9 => k_is); (case xz10 => k_is); (case xz11 => k_is)
    (case xv0 => k_is); (case xr0 => exact ⟨_, rfl⟩)
    (case xv1 => k_is); (case xr1 => exact ⟨_, rfl⟩)
    (case gka_NoThin => first | k_is | rfl)
    (case gka_RingError => first | k_is | rfl)
    (case gkr_RingError => first | k_is | rfl)
    (case gks_RingError => first | k_is | rfl)
    (case gki_RingError => first | k_is | rfl)
    (case gxL_NoThin => first | k_is | rfl)
    (case gxs_NoThin => first | k_is | rfl)
    (case gxe_NoThin => first | k_is | rfl)
    (case gxt_NoThin => first | k_is | rfl)
    (case gxk_NoThin => first | k_is | rfl)
    (case gxi_NoThin => first | k_is | rfl)
    (case gxj_NoThin => first | k_is | rfl)
    (case gxl_NoThin => first | k_is | rfl)
    (case gxg_NoThin => first | k_is | rfl)
    (case gxq_NoThin => first | k_is | rfl)
    (case gxf_NoThin_turn => first | k_is | rfl)
    (case gxf_NoThin_other => first | k_is | rfl)
    (case gxf_NoThin_piece => first | k_is | rfl)
