import PyProof.Rows.All
import Wide.All
import OpenK.AllK
import Wide.FinOn
import HandS.ForMost
import HandS.ForExc
import HandS.IsInst
import HandS.TupAny
import HandS.Lambda
import HandS.ExcInit
import KE.KExcSuper
import HandS.ExcIs
import HandS.ExcField
import HandS.Deep
import KE.KExcIs
import PyProof.Rows.CountFlat
import HandS.Steps
import HandS.Wide
import HandS.WideBits
import HandS.TupLe
import HandS.Style
import KE.DataMinMax
import HandS.Dict
import KE.KDictDisplayH
import HandS.TupSets
import PyProof.ReprRoads
import PyProof.CallFns
import HandS.EndTab
import HandS.Sort
import HandS.SortRule
import HandS.Iter
import KE.KTupSum
import KE.KStateDown
import HandS.Base
import HandS.Call
import HandS.Ends
import HandS.More
import HandS.Words
import HandS.WordsExc
import HandS.Defaults
import HandS.Head0
import HandS.Head1
import HandS.Head2
import HandS.Head3
import HandS.HeadEnd
import HandS.HeadHook1
import HandS.HeadHook2
import HandS.HeadHook3
import HandS.HeadHook4
import PySem.Challenge.RW_anyserve_k79_tables_of_days
set_option Elab.async false
section
set_option Elab.async false
set_option linter.all false
set_option maxRecDepth 100000
/-! EvBase: a value semantics over the hand layer: data are PyData, a frame is a list of slots. -/
namespace EV
open PySem PySem.Spec PyProof.Rows L2

/-- a slot: nothing known, data that nobody changes, a list or dict that this frame alone holds (lent: by its caller) -/
inductive SD where
  | no | fz (d : PyData) | ow (lent : Bool) (d : PyData)
abbrev Fr := List SD
abbrev Xn := Nat × PyData
abbrev M (α : Type) := Fr → Option (Except Xn α × Fr)
def M.pure {α : Type} (a : α) : M α := fun fr => some (.ok a, fr)
def M.bind {α β : Type} (m : M α) (f : α → M β) : M β := fun fr => match m fr with
  | some (.ok a, fr1) => f a fr1
  | some (.error x, fr1) => some (.error x, fr1)
  | none => none
def keyD (ks : List Key) : PyData := .tuple (ks.map fun | .inl i => .int i | .inr s => .str s)
def keyK : Key → PyData | .inl i => .int i | .inr s => .str s

abbrev AS := Addr → Prop
/-- the classes of the errors, by number; the tables of code objects that stand in the heap -/
structure EC where
  ad : Nat → Addr
  tb : List (Addr × Str)
/-- no table of code objects -/
def NT (o : HO) : Prop := ∀ ps, o ≠ .tbl ps
/-- nothing is tracked at b but a table, perhaps -/
def Fq (H : Hp) (b : Addr) : Prop := ∀ o, H b = some o → ¬ NT o
theorem fq_none {H : Hp} {b : Addr} (h : H b = none) : Fq H b := fun o e => by rw [h] at e; cases e
variable (K : PySem.W.Frag)

/-- a list that may be read at a: not one of B, or a written one -/
def LAt (H : Hp) (B : AS) (a : Addr) (xs : List V) : Prop :=
  (Rd H a (.lst xs) ∧ ¬ B a) ∨
    ∃ (o : Obj) (its : Array Value) (n : Nat), K.lookup a = some o ∧ o.cls = .type "list" ∧ o.dict = none ∧ o.data = .seq its n ∧ its.size ≤ sizeLine ∧ Vals xs its.toList
def TAt (H : Hp) (B : AS) (a : Addr) (xs : List V) : Prop := H a = some (.tup xs) ∧ ¬ B a
mutual
/-- v stands for the data d, and nothing of it is in B -/
inductive RD (H : Hp) (B : AS) : PyData → V → Prop
  | non : RD H B .none .non
  | bl (b : Bool) : RD H B (.bool b) (.bl b)
  | int (i : Int) : RD H B (.int i) (.int i)
  | str (x : Str) : RD H B (.str x) (.str x)
  | lst {a : Addr} {xs : List V} {ds : List PyData} : LAt K H B a xs → RDs H B ds xs → RD H B (.list ds) (.ref a)
  | tup {a : Addr} {xs : List V} {ds : List PyData} : TAt H B a xs → RDs H B ds xs → RD H B (.tuple ds) (.ref a)
  | dT {a : Addr} {ds : List (PyData × PyData)} {kvs : List (List Key × V)} : H a = some (.dT kvs) → ¬ B a → RKT H B ds kvs → RD H B (.dict ds) (.ref a)
  | dK {a : Addr} {ds : List (PyData × PyData)} {kvs : List (Key × V)} : H a = some (.dK kvs) → ¬ B a → RKK H B ds kvs → ds ≠ [] → RD H B (.dict ds) (.ref a)
inductive RDs (H : Hp) (B : AS) : List PyData → List V → Prop
  | nil : RDs H B [] []
  | cons {d : PyData} {v : V} {ds : List PyData} {vs : List V} : RD H B d v → RDs H B ds vs → RDs H B (d :: ds) (v :: vs)
inductive RKT (H : Hp) (B : AS) : List (PyData × PyData) → List (List Key × V) → Prop
  | nil : RKT H B [] []
  | cons {ks : List Key} {d : PyData} {v : V} {ds : List (PyData × PyData)} {vs : List (List Key × V)} : RD H B d v → RKT H B ds vs → RKT H B ((keyD ks, d) :: ds) ((ks, v) :: vs)
inductive RKK (H : Hp) (B : AS) : List (PyData × PyData) → List (Key × V) → Prop
  | nil : RKK H B [] []
  | cons {k : Key} {d : PyData} {v : V} {ds : List (PyData × PyData)} {vs : List (Key × V)} : RD H B d v → RKK H B ds vs → RKK H B ((keyK k, d) :: ds) ((k, v) :: vs)
end
/-- the inside of a list or dict that this frame holds -/
inductive OwnIn (H : Hp) (B : AS) (a : Addr) : PyData → Prop
  | lst {xs : List V} {ds : List PyData} : H a = some (.lst xs) → RDs K H B ds xs → OwnIn H B a (.list ds)
  | dT {ds : List (PyData × PyData)} {kvs : List (List Key × V)} : H a = some (.dT kvs) → RKT K H B ds kvs → OwnIn H B a (.dict ds)
  | dK {ds : List (PyData × PyData)} {kvs : List (Key × V)} : H a = some (.dK kvs) → RKK K H B ds kvs → ds ≠ [] → OwnIn H B a (.dict ds)
def OwnAt (H : Hp) (B : AS) (a : Addr) (d : PyData) : Prop := B a ∧ OwnIn K H B a d

def Wr (fr : Fr) (σ : L2.St) (b : Addr) : Prop := ∃ (i : Nat) (l : Bool) (d : PyData), fr[i]? = some (SD.ow l d) ∧ σ[i]? = some (some (V.ref b))

/-- the frame's slots stand for fr -/
structure RF (ec : EC) (H : Hp) (B : AS) (fr : Fr) (σ : L2.St) : Prop where
  len : fr.length = σ.length
  fz : ∀ (i : Nat) (d : PyData), fr[i]? = some (SD.fz d) → ∃ v, σ[i]? = some (some v) ∧ RD K H B d v
  ow : ∀ (i : Nat) (l : Bool) (d : PyData), fr[i]? = some (SD.ow l d) → ∃ a, σ[i]? = some (some (V.ref a)) ∧ OwnAt K H B a d
  dis : ∀ (i j : Nat) (l l' : Bool) (d d' : PyData) (a : Addr), fr[i]? = some (SD.ow l d) → fr[j]? = some (SD.ow l' d') → σ[i]? = some (some (V.ref a)) → σ[j]? = some (some (V.ref a)) → i = j
  bdom : ∀ a, B a → ∃ o, H a = some o ∧ NT o
  tabs : LamX.Tabs ec.tb H

structure Step (fr : Fr) (σ : L2.St) (B : AS) (H : Hp) (fr' : Fr) (σ' : L2.St) (B' : AS) (H' : Hp) : Prop where
  keep : ∀ b o, H b = some o → NT o → ¬ Wr fr σ b → H' b = some o
  bk : ∀ b, B b → ¬ Wr fr σ b → B' b
  bn : ∀ b, B' b → B b ∨ Fq H b
  wn : ∀ b, Wr fr' σ' b → Wr fr σ b ∨ Fq H b
  dm : ∀ b o, H b = some o → NT o → ∃ o', H' b = some o' ∧ NT o'
  ln : ∀ (j : Nat) (d' : PyData), fr'[j]? = some (SD.ow true d') → (∃ d : PyData, fr[j]? = some (SD.ow true d)) ∧ σ'[j]? = σ[j]?

variable {K}
variable {ec : EC} {H H1 H2 H' : Hp} {B B1 B2 B' : AS} {fr fr1 fr2 fr' : Fr} {σ σ1 σ2 σ' : L2.St}

theorem RF.wrB (R : RF K ec H B fr σ) {b : Addr} (w : Wr fr σ b) : B b := by
  obtain ⟨i, l, d, h1, h2⟩ := w
  obtain ⟨a, h3, h4⟩ := R.ow i l d h1
  rw [h2] at h3
  cases h3
  exact h4.1
theorem RF.bd (R : RF K ec H B fr σ) {a : Addr} (h : B a) : H a ≠ none := fun z => by
  obtain ⟨o, e, _⟩ := R.bdom a h
  rw [z] at e; cases e
abbrev BD (H : Hp) (B : AS) : Prop := ∀ a, B a → H a ≠ none
theorem RF.BD (R : RF K ec H B fr σ) : EV.BD H B := fun a h => R.bd h
theorem Step.refl : Step fr σ B H fr σ B H := ⟨fun _ _ h _ _ => h, fun _ h _ => h, fun _ h => .inl h, fun _ h => .inl h, fun _ o h n => ⟨o, h, n⟩, fun _ d h => ⟨⟨d, h⟩, rfl⟩⟩
/-- what is new behind a step was new ahead of it -/
theorem Step.back (s : Step fr σ B H fr1 σ1 B1 H1) {c : Addr} (h : Fq H1 c) : Fq H c := fun o e nt => by
  obtain ⟨o', e', nt'⟩ := s.dm c o e nt
  exact h o' e' nt'
theorem Step.trans (R : RF K ec H B fr σ) (a : Step fr σ B H fr1 σ1 B1 H1) (b : Step fr1 σ1 B1 H1 fr2 σ2 B2 H2) : Step fr σ B H fr2 σ2 B2 H2 where
  keep := fun c o h nt n => b.keep c o (a.keep c o h nt n) nt fun w => by
    rcases a.wn c w with z | z
    · exact n z
    · exact z o h nt
  bk := fun c h n => b.bk c (a.bk c h n) fun w => by
    rcases a.wn c w with z | z
    · exact n z
    · obtain ⟨o, e, nt⟩ := R.bdom c h
      exact z o e nt
  bn := fun c h => by
    rcases b.bn c h with z | z
    · exact a.bn c z
    · exact .inr (a.back z)
  wn := fun c h => by
    rcases b.wn c h with z | z
    · exact a.wn c z
    · exact .inr (a.back z)
  dm := fun c o e nt => let ⟨_, e1, n1⟩ := a.dm c o e nt; b.dm c _ e1 n1
  ln := fun j d h => by
    obtain ⟨⟨d1, e1⟩, s1⟩ := b.ln j d h
    obtain ⟨e2, s2⟩ := a.ln j d1 e1
    exact ⟨e2, s1.trans s2⟩

/-- what is kept of H, B: enough for data to stay -/
structure Kp (B : AS) (H : Hp) (B' : AS) (H' : Hp) : Prop where
  keep : ∀ b o, H b = some o → NT o → ¬ B b → H' b = some o
  bn : ∀ b o, H b = some o → NT o → ¬ B b → ¬ B' b
theorem nt_lst {xs : List V} : NT (.lst xs) := fun _ z => by cases z
theorem nt_tup {xs : List V} : NT (.tup xs) := fun _ z => by cases z
theorem nt_dT {xs : List (List Key × V)} : NT (.dT xs) := fun _ z => by cases z
theorem nt_dK {xs : List (Key × V)} : NT (.dK xs) := fun _ z => by cases z
theorem nt_frz {o : Obj} {u : HO} : NT (.frz o u) := fun _ z => by cases z
theorem Rd.kp {a : Addr} {u : HO} (k : Kp B H B' H') (nt : NT u) (h : Rd H a u) (n : ¬ B a) : Rd H' a u ∧ ¬ B' a := by
  rcases h with h | ⟨o, h⟩
  · exact ⟨.inl (k.keep _ _ h nt n), k.bn _ _ h nt n⟩
  · exact ⟨.inr ⟨o, k.keep _ _ h nt_frz n⟩, k.bn _ _ h nt_frz n⟩
theorem LAt.kp {a : Addr} {xs : List V} (k : Kp B H B' H') (h : LAt K H B a xs) : LAt K H' B' a xs := by
  rcases h with ⟨h, n⟩ | h
  · exact .inl (EV.Rd.kp k nt_lst h n)
  · exact .inr h
theorem TAt.kp {a : Addr} {xs : List V} (k : Kp B H B' H') (h : TAt H B a xs) : TAt H' B' a xs := ⟨k.keep _ _ h.1 nt_tup h.2, k.bn _ _ h.1 nt_tup h.2⟩
mutual
theorem RD.kp (k : Kp B H B' H') : ∀ {d : PyData} {v : V}, RD K H B d v → RD K H' B' d v
  | _, _, .non => .non
  | _, _, .bl b => .bl b
  | _, _, .int i => .int i
  | _, _, .str x => .str x
  | _, _, .lst h t => .lst (h.kp k) (RDs.kp k t)
  | _, _, .tup h t => .tup (h.kp k) (RDs.kp k t)
  | _, _, .dT h n t => .dT (k.keep _ _ h nt_dT n) (k.bn _ _ h nt_dT n) (RKT.kp k t)
  | _, _, .dK h n t ne => .dK (k.keep _ _ h nt_dK n) (k.bn _ _ h nt_dK n) (RKK.kp k t) ne
theorem RDs.kp (k : Kp B H B' H') : ∀ {d : List PyData} {v : List V}, RDs K H B d v → RDs K H' B' d v
  | _, _, .nil => .nil
  | _, _, .cons h t => .cons (RD.kp k h) (RDs.kp k t)
theorem RKT.kp (k : Kp B H B' H') : ∀ {d : List (PyData × PyData)} {v : List (List Key × V)}, RKT K H B d v → RKT K H' B' d v
  | _, _, .nil => .nil
  | _, _, .cons h t => .cons (RD.kp k h) (RKT.kp k t)
theorem RKK.kp (k : Kp B H B' H') : ∀ {d : List (PyData × PyData)} {v : List (Key × V)}, RKK K H B d v → RKK K H' B' d v
  | _, _, .nil => .nil
  | _, _, .cons h t => .cons (RD.kp k h) (RKK.kp k t)
end
theorem Step.kp (R : RF K ec H B fr σ) (s : Step fr σ B H fr' σ' B' H') : Kp B H B' H' :=
  ⟨fun b o h nt n => s.keep b o h nt fun w => n (R.wrB w), fun b o h nt n z => by
    rcases s.bn b z with q | q
    · exact n q
    · exact q o h nt⟩
theorem RDs.length : ∀ {ds : List PyData} {vs : List V}, RDs K H B ds vs → ds.length = vs.length
  | _, _, .nil => rfl
  | _, _, .cons _ t => by simp only [List.length_cons, RDs.length t]
theorem RDs.get : ∀ {ds : List PyData} {vs : List V} {i : Nat} {d : PyData}, RDs K H B ds vs → ds[i]? = some d → ∃ v, vs[i]? = some v ∧ RD K H B d v
  | _, _, _, _, .nil, e => by simp at e
  | _, _, 0, _, .cons r _, e => by simp at e; subst e; exact ⟨_, rfl, r⟩
  | _, _, i + 1, d, .cons _ t, e => by
    obtain ⟨u, h1, h2⟩ := RDs.get (i := i) (d := d) t (by simpa using e)
    exact ⟨u, by simpa using h1, h2⟩
theorem RDs.append : ∀ {ds ds' : List PyData} {vs vs' : List V}, RDs K H B ds vs → RDs K H B ds' vs' → RDs K H B (ds ++ ds') (vs ++ vs')
  | _, _, _, _, .nil, s => s
  | _, _, _, _, .cons r t, s => .cons r (RDs.append t s)
theorem RDs.take : ∀ {ds : List PyData} {vs : List V} (n : Nat), RDs K H B ds vs → RDs K H B (ds.take n) (vs.take n)
  | _, _, 0, _ => .nil
  | _, _, _ + 1, .nil => .nil
  | _, _, n + 1, .cons r t => .cons r (RDs.take n t)
theorem RDs.drop : ∀ {ds : List PyData} {vs : List V} (n : Nat), RDs K H B ds vs → RDs K H B (ds.drop n) (vs.drop n)
  | _, _, 0, r => r
  | _, _, _ + 1, .nil => .nil
  | _, _, n + 1, .cons _ t => RDs.drop n t
theorem RDs.set {d : PyData} {v : V} (r : RD K H B d v) : ∀ {ds : List PyData} {vs : List V} (i : Nat), RDs K H B ds vs → RDs K H B (ds.set i d) (vs.set i v)
  | _, _, _, .nil => .nil
  | _, _, 0, .cons _ t => .cons r t
  | _, _, i + 1, .cons q t => .cons q (RDs.set r i t)

/-- a new object at p -/
theorem Kp.new {p : Addr} {o : HO} (bd : ∀ a, B a → H a ≠ none) (hp : H p = none) : Kp B H B (upd H p o) :=
  ⟨fun b u h _ n => by rw [upd_ne (ne_of_none h hp)]; exact h, fun b u h _ n z => n z⟩
theorem RF.kp_fz (R : RF K ec H B fr σ) (k : Kp B H B' H') (i : Nat) (d : PyData) (h : fr[i]? = some (SD.fz d)) : ∃ v, σ[i]? = some (some v) ∧ RD K H' B' d v := by
  obtain ⟨v, h1, h2⟩ := R.fz i d h
  exact ⟨v, h1, h2.kp k⟩
theorem OwnIn.kp {a : Addr} {d : PyData} (k : Kp B H B' H') (ha : ∀ o, H a = some o → NT o → H' a = some o) (h : OwnIn K H B a d) : OwnIn K H' B' a d := by
  cases h with
  | lst e r => exact .lst (ha _ e nt_lst) (r.kp k)
  | dT e r => exact .dT (ha _ e nt_dT) (r.kp k)
  | dK e r ne => exact .dK (ha _ e nt_dK) (r.kp k) ne
/-- all tracked objects stay, but tables may have grown -/
structure Sm (T : List (Addr × Str)) (H H' : Hp) : Prop where
  keep : ∀ b o, H b = some o → NT o → H' b = some o
  tabs : LamX.Tabs T H'
theorem Sm.kp {T : List (Addr × Str)} (s : Sm T H H') : Kp B H B H' := ⟨fun b o e nt _ => s.keep b o e nt, fun _ _ _ _ n => n⟩
theorem Same.sm {T : List (Addr × Str)} (s : Same H H') (t : LamX.Tabs T H) : Sm T H H' := ⟨fun b o e _ => s b o e, t.ext s⟩
theorem RF.exs (R : RF K ec H B fr σ) (s : Sm ec.tb H H') : RF K ec H' B fr σ where
  len := R.len
  fz := fun i d h => R.kp_fz s.kp i d h
  ow := fun i l d h => by
    obtain ⟨a, h1, h2, h3⟩ := R.ow i l d h
    exact ⟨a, h1, h2, h3.kp s.kp fun o e nt => s.keep _ _ e nt⟩
  dis := R.dis
  bdom := fun a h => let ⟨o, e, nt⟩ := R.bdom a h; ⟨o, s.keep a o e nt, nt⟩
  tabs := s.tabs
theorem Step.exs {T : List (Addr × Str)} (s : Sm T H H') : Step fr σ B H fr σ B H' :=
  ⟨fun b o h nt _ => s.keep b o h nt, fun _ h _ => h, fun _ h => .inl h, fun _ h => .inl h, fun b o h nt => ⟨o, s.keep b o h nt, nt⟩, fun _ d h => ⟨⟨d, h⟩, rfl⟩⟩
theorem RF.ext (R : RF K ec H B fr σ) (s : Same H H') : RF K ec H' B fr σ := R.exs (EV.Same.sm s R.tabs)
theorem Step.ext (s : Same H H') : Step fr σ B H fr σ B H' :=
  ⟨fun b o h _ _ => s b o h, fun _ h _ => h, fun _ h => .inl h, fun _ h => .inl h, fun b o h nt => ⟨o, s b o h, nt⟩, fun _ d h => ⟨⟨d, h⟩, rfl⟩⟩
theorem Same.new {p : Addr} {o : HO} (hp : H p = none) : Same H (upd H p o) := fun b u h => by rw [upd_ne (ne_of_none h hp)]; exact h
/-- what is no list stays: the tables stand -/
theorem _root_.LamX.Tabs.mono {T : List (Addr × Str)} (t : LamX.Tabs T H) (h : ∀ b u, H b = some u → (∀ xs, u ≠ .lst xs) → H' b = some u) : LamX.Tabs T H' := fun p hp => by
  obtain ⟨ps, h1, h2, h3⟩ := t p hp
  refine ⟨ps, h _ _ h1 (fun _ z => by cases z), h2, fun pos cv hc => ?_⟩
  obtain ⟨c, e1, e2⟩ := h3 pos cv hc
  exact ⟨c, e1, h _ _ e2 (fun _ z => by unfold LamX.CodeO at z; cases z)⟩
/-- a list or dict written: the tables stand -/
theorem tabs_upd {T : List (Addr × Str)} {a : Addr} {d : PyData} {o : HO} (h : OwnIn K H B a d) (t : LamX.Tabs T H) : LamX.Tabs T (upd H a o) := fun p hp => by
  obtain ⟨ps, h1, h2, h3⟩ := t p hp
  have n : ∀ b u, H b = some u → (∀ xs, u ≠ .lst xs) → (∀ xs, u ≠ .dT xs) → (∀ xs, u ≠ .dK xs) → b ≠ a := fun b u e n1 n2 n3 z => by
    subst z
    cases h with
    | lst e2 _ => rw [e] at e2; exact n1 _ (Option.some.inj e2)
    | dT e2 _ => rw [e] at e2; exact n2 _ (Option.some.inj e2)
    | dK e2 _ _ => rw [e] at e2; exact n3 _ (Option.some.inj e2)
  refine ⟨ps, by rw [upd_ne (n _ _ h1 (fun _ z => by cases z) (fun _ z => by cases z) (fun _ z => by cases z))]; exact h1, h2, fun pos cv hc => ?_⟩
  obtain ⟨c, e1, e2⟩ := h3 pos cv hc
  refine ⟨c, e1, ?_⟩
  rw [upd_ne (n _ _ e2 (fun _ z => by unfold LamX.CodeO at z; cases z) (fun _ z => by unfold LamX.CodeO at z; cases z) (fun _ z => by unfold LamX.CodeO at z; cases z))]
  exact e2

/-- what the reading of a piece asks: the continuation at its result, or the wish at its error -/
def Res {α : Type} (K : PySem.W.Frag) (ec : EC) (W : XK) (fr : Fr) (σ : L2.St) (B : AS) (H : Hp) (r : Except Xn α) (fr' : Fr) (k : α → L2.St → Hp → AS → Prop) : Prop :=
  match r with
  | .ok a => ∀ σ' H' B', Step fr σ B H fr' σ' B' H' → RF K ec H' B' fr' σ' → k a σ' H' B'
  | .error x => ∀ σ' H' B' dx v, Step fr σ B H fr' σ' B' H' → RF K ec H' B' fr' σ' → H' dx = some (.xd [(("value" : Str), v)]) → RD K H' B' x.2 v → W (.ref (ec.ad x.1)) (some dx) H'
theorem Res.after {α : Type} {ec : EC} {W : XK} {r : Except Xn α} {k : α → L2.St → Hp → AS → Prop} (R : RF K ec H B fr σ) (s : Step fr σ B H fr1 σ1 B1 H1) (h : Res K ec W fr σ B H r fr' k) : Res K ec W fr1 σ1 B1 H1 r fr' k := by
  cases r with
  | ok a => exact fun σ' H' B' s' R' => h σ' H' B' (s.trans R s') R'
  | error x => exact fun σ' H' B' dx v s' R' e r => h σ' H' B' dx v (s.trans R s') R' e r
theorem Res.imp {α : Type} {ec : EC} {W : XK} {r : Except Xn α} {k k' : α → L2.St → Hp → AS → Prop} (h : Res K ec W fr σ B H r fr' k) (f : ∀ a σ' H' B', Step fr σ B H fr' σ' B' H' → RF K ec H' B' fr' σ' → k a σ' H' B' → k' a σ' H' B') : Res K ec W fr σ B H r fr' k' := by
  cases r with
  | ok a => exact fun σ' H' B' s' R' => f _ _ _ _ s' R' (h σ' H' B' s' R')
  | error x => exact h

/-- what a piece's reading t asks, by its meaning m: Rel tells what the value stands for -/
def Spc {α β : Type} (K : PySem.W.Frag) (ec : EC) (W : XK) (Rel : Hp → L2.St → Fr → Hp → AS → α → β → Prop) (t : L2.St → Hp → (β → Hp → Prop) → Prop) (m : M α) : Prop :=
  ∀ (σ : L2.St) (H : Hp) (B : AS) (fr : Fr) (r : Except Xn α) (fr' : Fr) (Q : β → Hp → Prop), RF K ec H B fr σ → m fr = some (r, fr') →
    Res K ec W fr σ B H r fr' (fun a σ' H' B' => σ' = σ → ∀ b, Rel H σ fr' H' B' a b → Q b H') → t σ H Q
theorem M.bind_some {α β : Type} {m : M α} {f : α → M β} {fr fr' : Fr} {r : Except Xn β} (h : M.bind m f fr = some (r, fr')) :
    (∃ a fr1, m fr = some (.ok a, fr1) ∧ f a fr1 = some (r, fr')) ∨ ∃ x, m fr = some (.error x, fr') ∧ r = .error x := by
  unfold M.bind at h
  split at h
  · rename_i a fr1 e
    exact .inl ⟨a, fr1, e, h⟩
  · rename_i x fr1 e
    cases h
    exact .inr ⟨x, e, rfl⟩
  · cases h
theorem Spc.thn {α β γ : Type} {ec : EC} {W : XK} {Rel : Hp → L2.St → Fr → Hp → AS → α → β → Prop} {t : L2.St → Hp → (β → Hp → Prop) → Prop} {m : M α} {f : α → M γ} {r : Except Xn γ} {k : γ → L2.St → Hp → AS → Prop} {Q1 : β → Hp → Prop}
    (h1 : Spc K ec W Rel t m) (R : RF K ec H B fr σ) (e : M.bind m f fr = some (r, fr')) (h : Res K ec W fr σ B H r fr' k)
    (hk : ∀ a b fr1 H1 B1, RF K ec H1 B1 fr1 σ → Step fr σ B H fr1 σ B1 H1 → f a fr1 = some (r, fr') → Rel H σ fr1 H1 B1 a b → Res K ec W fr1 σ B1 H1 r fr' k → Q1 b H1) : t σ H Q1 := by
  rcases M.bind_some e with ⟨a, fr1, e1, e2⟩ | ⟨x, e1, rfl⟩
  · refine h1 σ H B fr (.ok a) fr1 Q1 R e1 ?_
    intro σ' H1 B1 s R1 hs b rel
    subst hs
    exact hk a b fr1 H1 B1 R1 s e2 rel (h.after R s)
  · exact h1 σ H B fr (.error x) fr' Q1 R e1 h

/-- the judgements. Exceptions: ec gives each kind's class; W is the wish -/
abbrev rlE (K : PySem.W.Frag) : Hp → L2.St → Fr → Hp → AS → PyData → V → Prop := fun _ _ _ H' B' d v => RD K H' B' d v
abbrev rlN (K : PySem.W.Frag) : Hp → L2.St → Fr → Hp → AS → PyData → V → Prop := fun H σ fr' H' B' d v => ∃ a, v = .ref a ∧ OwnAt K H' B' a d ∧ ¬ Wr fr' σ a ∧ Fq H a
abbrev Opd := PyData ⊕ Nat
def RO (K : PySem.W.Frag) (H : Hp) (B : AS) (σ : L2.St) (o : Opd) (v : V) : Prop := match o with
  | .inl d => RD K H B d v
  | .inr i => σ[i]? = some (some v)
abbrev rlO (K : PySem.W.Frag) : Hp → L2.St → Fr → Hp → AS → Opd → V → Prop := fun _ σ _ H' B' o v => RO K H' B' σ o v
abbrev rlA (K : PySem.W.Frag) : Hp → L2.St → Fr → Hp → AS → List Opd → List V → Prop := fun _ σ _ H' B' o v => Paired (RO K H' B' σ) o v
abbrev rlT : Hp → L2.St → Fr → Hp → AS → Bool → Bool → Prop := fun _ _ _ _ _ a b => b = a
/-- the reading that a meaning makes -/
def tOf {α β : Type} (K : PySem.W.Frag) (ec : EC) (W : XK) (Rel : Hp → L2.St → Fr → Hp → AS → α → β → Prop) (m : M α) : L2.St → Hp → (β → Hp → Prop) → Prop := fun σ H Q =>
  ∃ (B : AS) (fr : Fr) (r : Except Xn α) (fr' : Fr), RF K ec H B fr σ ∧ m fr = some (r, fr') ∧ Res K ec W fr σ B H r fr' (fun a σ' H' B' => σ' = σ → ∀ b, Rel H σ fr' H' B' a b → Q b H')
theorem tOf_sp {α β : Type} {ec : EC} {W : XK} {Rel : Hp → L2.St → Fr → Hp → AS → α → β → Prop} {m : M α} : Spc K ec W Rel (tOf K ec W Rel m) m := fun σ H B fr r fr' Q R e h => ⟨B, fr, r, fr', R, e, h⟩
theorem Spc.of {α β : Type} {ec : EC} {W : XK} {Rel : Hp → L2.St → Fr → Hp → AS → α → β → Prop} {t : L2.St → Hp → (β → Hp → Prop) → Prop} {m : M α} (h : Spc K ec W Rel t m) {σ : L2.St} {H : Hp} {Q : β → Hp → Prop} (q : tOf K ec W Rel m σ H Q) : t σ H Q :=
  let ⟨B, fr, r, fr', R, e, hr⟩ := q; h σ H B fr r fr' Q R e hr
def EvE (X : Cx) (ec : EC) (W : XK) (e : Expr) (m : M PyData) : Prop := PE X e (tOf X.K ec W (rlE X.K) m)
/-- .. whose value is a new list or dict that nobody else holds -/
def EvN (X : Cx) (ec : EC) (W : XK) (e : Expr) (m : M PyData) : Prop := PE X e (tOf X.K ec W (rlN X.K) m)
/-- .. an operand: a value, or a slot that is looked at late -/
def EvO (X : Cx) (ec : EC) (W : XK) (e : Expr) (m : M Opd) : Prop := PE X e (tOf X.K ec W (rlO X.K) m)
def EvT (X : Cx) (ec : EC) (W : XK) (e : Expr) (m : M Bool) : Prop := PT X e (tOf X.K ec W rlT m)
def EvW (X : Cx) (ec : EC) (W : XK) (e : Expr) (m : M Bool) : Prop := PW X e (tOf X.K ec W rlT m)
def EvA (X : Cx) (ec : EC) (W : XK) (es : List Expr) (m : M (List Opd)) : Prop := PA X es (tOf X.K ec W (rlA X.K) m)
section
variable {X : Cx} {ec : EC} {W : XK} {e : Expr} {es : List Expr}
theorem EvE.mk {t : TE} {m : M PyData} (h : PE X e t) (s : Spc X.K ec W (rlE X.K) t m) : EvE X ec W e m := ⟨fun pins sh σ H Q I q => h.run pins sh σ H Q I (s.of q)⟩
theorem EvE.out {m : M PyData} (h : EvE X ec W e m) : ∃ t, PE X e t ∧ Spc X.K ec W (rlE X.K) t m := ⟨_, h, tOf_sp⟩
theorem EvN.mk {t : TE} {m : M PyData} (h : PE X e t) (s : Spc X.K ec W (rlN X.K) t m) : EvN X ec W e m := ⟨fun pins sh σ H Q I q => h.run pins sh σ H Q I (s.of q)⟩
theorem EvN.out {m : M PyData} (h : EvN X ec W e m) : ∃ t, PE X e t ∧ Spc X.K ec W (rlN X.K) t m := ⟨_, h, tOf_sp⟩
theorem EvO.mk {t : TE} {m : M Opd} (h : PE X e t) (s : Spc X.K ec W (rlO X.K) t m) : EvO X ec W e m := ⟨fun pins sh σ H Q I q => h.run pins sh σ H Q I (s.of q)⟩
theorem EvO.out {m : M Opd} (h : EvO X ec W e m) : ∃ t, PE X e t ∧ Spc X.K ec W (rlO X.K) t m := ⟨_, h, tOf_sp⟩
theorem EvT.mk {t : TT} {m : M Bool} (h : PT X e t) (s : Spc X.K ec W rlT t m) : EvT X ec W e m := ⟨fun pins sh σ H Q I q => h.run pins sh σ H Q I (s.of q)⟩
theorem EvT.out {m : M Bool} (h : EvT X ec W e m) : ∃ t, PT X e t ∧ Spc X.K ec W rlT t m := ⟨_, h, tOf_sp⟩
theorem EvW.mk {t : TT} {m : M Bool} (h : PW X e t) (s : Spc X.K ec W rlT t m) : EvW X ec W e m := ⟨fun q pins sh σ H Q I z => h.run q pins sh σ H Q I (s.of z)⟩
theorem EvW.out {m : M Bool} (h : EvW X ec W e m) : ∃ t, PW X e t ∧ Spc X.K ec W rlT t m := ⟨_, h, tOf_sp⟩
theorem EvA.mk {t : TA} {m : M (List Opd)} (h : PA X es t) (s : Spc X.K ec W (rlA X.K) t m) : EvA X ec W es m := ⟨fun pos pins sh σ H Q I q => h.run pos pins sh σ H Q I (s.of q)⟩
theorem EvA.out {m : M (List Opd)} (h : EvA X ec W es m) : ∃ t, PA X es t ∧ Spc X.K ec W (rlA X.K) t m := ⟨_, h, tOf_sp⟩
end

/-- statements -/
inductive Fl where | nx | rt (d : PyData) | bk | ct
abbrev MS := M Fl
/-- what a statement's flow wants of its ends -/
def kEnd (K : PySem.W.Frag) (D : Ends) (f : Fl) (σ' : L2.St) (H' : Hp) (B' : AS) : Prop := match f with
  | .nx => D.nx σ' H'
  | .rt d => ∀ v, RD K H' B' d v → D.rt v H'
  | .bk => D.bk σ' H'
  | .ct => D.ct σ' H'
def SpS (K : PySem.W.Frag) (ec : EC) (W : XK) (t : TS) (m : MS) : Prop :=
  ∀ (σ : L2.St) (H : Hp) (B : AS) (fr : Fr) (r : Except Xn Fl) (fr' : Fr) (D : Ends), RF K ec H B fr σ → m fr = some (r, fr') →
    Res K ec W fr σ B H r fr' (kEnd K D) → t D σ H
def tOfS (K : PySem.W.Frag) (ec : EC) (W : XK) (m : MS) : TS := fun D σ H =>
  ∃ (B : AS) (fr : Fr) (r : Except Xn Fl) (fr' : Fr), RF K ec H B fr σ ∧ m fr = some (r, fr') ∧ Res K ec W fr σ B H r fr' (kEnd K D)
theorem tOfS_sp {ec : EC} {W : XK} {m : MS} : SpS K ec W (tOfS K ec W m) m := fun σ H B fr r fr' D R e h => ⟨B, fr, r, fr', R, e, h⟩
theorem SpS.of {ec : EC} {W : XK} {t : TS} {m : MS} (h : SpS K ec W t m) {σ : L2.St} {H : Hp} {D : Ends} (q : tOfS K ec W m D σ H) : t D σ H :=
  let ⟨B, fr, r, fr', R, e, hr⟩ := q; h σ H B fr r fr' D R e hr
def EvS (X : Cx) (ec : EC) (W : XK) (st : Stmt) (m : MS) : Prop := PS X st (tOfS X.K ec W m)
def EvSs (X : Cx) (ec : EC) (W : XK) (sts : List Stmt) (m : MS) : Prop := PSs X sts (tOfS X.K ec W m)
section
variable {X : Cx} {ec : EC} {W : XK} {st : Stmt} {sts : List Stmt}
theorem EvS.mk {t : TS} {m : MS} (h : PS X st t) (s : SpS X.K ec W t m) : EvS X ec W st m := ⟨fun pins sh σ H Q I q => h.run pins sh σ H Q I (s.of q)⟩
theorem EvS.out {m : MS} (h : EvS X ec W st m) : ∃ t, PS X st t ∧ SpS X.K ec W t m := ⟨_, h, tOfS_sp⟩
theorem EvSs.mk {t : TS} {m : MS} (h : PSs X sts t) (s : SpS X.K ec W t m) : EvSs X ec W sts m := ⟨fun pins sh σ H Q I q => h.run pins sh σ H Q I (s.of q)⟩
theorem EvSs.out {m : MS} (h : EvSs X ec W sts m) : ∃ t, PSs X sts t ∧ SpS X.K ec W t m := ⟨_, h, tOfS_sp⟩
end
end EV
end

section
set_option Elab.async false
set_option linter.all false
set_option maxRecDepth 100000
/-! Ev1: expressions. -/
namespace EV
open PySem PySem.Spec PyProof.Rows L2
variable {K : PySem.W.Frag} {H H1 H2 H' : Hp} {B B1 B2 B' : AS} {fr fr1 fr2 fr' : Fr} {σ σ1 σ2 σ' : L2.St} {ec : EC} {W : XK}

/-! ### frames: freezing -/
theorem get_set {fr : Fr} {i j : Nat} {s t : SD} (h : (fr.set i s)[j]? = some t) : (j = i ∧ s = t) ∨ (j ≠ i ∧ fr[j]? = some t) := by
  by_cases e : i = j
  · subst e
    rw [List.getElem?_set] at h
    simp only [if_true] at h
    split at h
    · exact .inl ⟨rfl, Option.some.inj h⟩
    · cases h
  · rw [List.getElem?_set_ne e] at h
    exact .inr ⟨fun z => e z.symm, h⟩
/-- an owned list is frozen: its address leaves B -/
theorem freeze {i : Nat} {d : PyData} (R : RF K ec H B fr σ) (h : fr[i]? = some (SD.ow false d)) :
    ∃ B1 v, Step fr σ B H (fr.set i (.fz d)) σ B1 H ∧ RF K ec H B1 (fr.set i (.fz d)) σ ∧ σ[i]? = some (some v) ∧ RD K H B1 d v := by
  obtain ⟨a, ha, hB, hin⟩ := R.ow i _ _ h
  have kp : Kp B H (fun b => B b ∧ b ≠ a) H := ⟨fun b o e _ _ => e, fun b o e _ n z => n z.1⟩
  have nodom : ¬ (B a ∧ a ≠ a) := fun z => z.2 rfl
  have rd : RD K H (fun b => B b ∧ b ≠ a) d (.ref a) := by
    cases hin with
    | lst e r => exact .lst (.inl ⟨.inl e, nodom⟩) (r.kp kp)
    | dT e r => exact .dT e nodom (r.kp kp)
    | dK e r ne => exact .dK e nodom (r.kp kp) ne
  have wr : ∀ b, Wr (fr.set i (.fz d)) σ b → Wr fr σ b := fun b ⟨j, l, d', h1, h2⟩ => by
    rcases get_set h1 with ⟨_, z⟩ | ⟨_, z⟩
    · cases z
    · exact ⟨j, l, d', z, h2⟩
  refine ⟨fun b => B b ∧ b ≠ a, .ref a, ⟨fun b o e _ _ => e, fun b hb n => ⟨hb, fun z => n (z ▸ ⟨i, _, _, h, ha⟩)⟩, fun b z => .inl z.1, fun b w => .inl (wr b w), fun b o e nt => ⟨o, e, nt⟩, fun j d' z => ?_⟩, ⟨?_, fun j d' z => ?_, fun j l d' z => ?_, fun j k l l' d1 d2 a' z1 z2 => ?_, fun b z => R.bdom b z.1, R.tabs⟩, ha, rd⟩
  · rcases get_set z with ⟨_, z⟩ | ⟨_, z⟩
    · cases z
    · exact ⟨⟨d', z⟩, rfl⟩
  · rw [List.length_set]; exact R.len
  · rcases get_set z with ⟨e, z⟩ | ⟨_, z⟩
    · cases z; subst e; exact ⟨_, ha, rd⟩
    · exact R.kp_fz kp j d' z
  · rcases get_set z with ⟨_, z⟩ | ⟨ne, z⟩
    · cases z
    · obtain ⟨c, hc, hB', hin'⟩ := R.ow j l d' z
      have nc : c ≠ a := fun e => ne (R.dis j i l _ d' d c z h hc (e ▸ ha))
      exact ⟨c, hc, ⟨hB', nc⟩, hin'.kp kp fun o e _ => e⟩
  · rcases get_set z1 with ⟨_, z1⟩ | ⟨_, z1⟩
    · cases z1
    · rcases get_set z2 with ⟨_, z2⟩ | ⟨_, z2⟩
      · cases z2
      · exact R.dis j k l l' d1 d2 a' z1 z2

/-! ### names -/
def mVar (i : Nat) : M PyData := fun fr => match fr[i]? with
  | some (.fz d) => some (.ok d, fr)
  | some (.ow false d) => some (.ok d, fr.set i (.fz d))
  | _ => none
theorem sp_var (i : Nat) : Spc K ec W (rlE K) (tVar i) (mVar i) := by
  intro σ H B fr r fr' Q R e h
  unfold mVar at e
  split at e
  · rename_i d q
    cases e
    obtain ⟨v, h1, h2⟩ := R.fz i d q
    exact ⟨v, h1, h σ H B .refl R rfl v h2⟩
  · rename_i d q
    cases e
    obtain ⟨B1, v, s, R1, h1, h2⟩ := freeze R q
    exact ⟨v, h1, h σ H B1 s R1 rfl v h2⟩
  · cases e
theorem ev_var {X : Cx} {i : Nat} {x : Str} {pos : Pos} (hN : X.N[i]? = some x) (hv : Vis X.env.scope x) (hd : (x == ("__debug__" : Str)) = false) (hcd : (x == ("__classdict__" : Str)) = false) : EvE X ec W (.Name x pos) (mVar i) :=
  .mk (pe_var hN hv hd hcd) (sp_var i)
/-- the slot's data, looked at -/
def rsv (fr : Fr) : Opd → Option PyData
  | .inl d => some d
  | .inr i => match fr[i]? with
    | some (.fz d) => some d
    | some (.ow _ d) => some d
    | _ => none
def mSlot (i : Nat) : M Opd := fun fr => match rsv fr (.inr i) with
  | some _ => some (.ok (.inr i), fr)
  | none => none
theorem slot_there {i : Nat} {d : PyData} (R : RF K ec H B fr σ) (h : rsv fr (.inr i) = some d) : ∃ v, σ[i]? = some (some v) := by
  simp only [rsv] at h
  split at h
  · rename_i d' q
    obtain ⟨v, h1, _⟩ := R.fz i _ q
    exact ⟨v, h1⟩
  · rename_i l d' q
    obtain ⟨a, h1, _⟩ := R.ow i _ _ q
    exact ⟨_, h1⟩
  · cases h
theorem sp_slot (i : Nat) : Spc K ec W (rlO K) (tVar i) (mSlot i) := by
  intro σ H B fr r fr' Q R e h
  unfold mSlot at e
  split at e
  · rename_i d q
    cases e
    obtain ⟨v, h1⟩ := slot_there R q
    exact ⟨v, h1, h σ H B .refl R rfl v h1⟩
  · cases e
theorem evO_var {X : Cx} {i : Nat} {x : Str} {pos : Pos} (hN : X.N[i]? = some x) (hv : Vis X.env.scope x) (hd : (x == ("__debug__" : Str)) = false) (hcd : (x == ("__classdict__" : Str)) = false) : EvO X ec W (.Name x pos) (mSlot i) :=
  .mk (pe_var hN hv hd hcd) (sp_slot i)
def mVal (m : M PyData) : M Opd := m.bind fun d => M.pure (.inl d)
theorem sp_val {t : TE} {m : M PyData} (h : Spc K ec W (rlE K) t m) : Spc K ec W (rlO K) t (mVal m) := by
  intro σ H B fr r fr' Q R e hr
  refine h.thn R e hr fun a b fr1 H1 B1 R1 s e1 rel hr1 => ?_
  cases e1
  exact hr1 σ H1 B1 .refl R1 rfl b rel
theorem evO_val {X : Cx} {e : Expr} {m : M PyData} (h : EvE X ec W e m) : EvO X ec W e (mVal m) := let ⟨t, h1, h2⟩ := h.out; .mk h1 (sp_val h2)

/-! ### what an operand is worth: its top may be held -/
def RT (K : PySem.W.Frag) (H : Hp) (B : AS) (d : PyData) (v : V) : Prop := RD K H B d v ∨ ∃ a, v = .ref a ∧ B a ∧ OwnIn K H B a d
theorem rsv_rt {o : Opd} {v : V} {d : PyData} (R : RF K ec H B fr σ) (h : RO K H B σ o v) (e : rsv fr o = some d) : RT K H B d v := by
  cases o with
  | inl d' => cases e; exact .inl h
  | inr i =>
    have h' : σ[i]? = some (some v) := h
    simp only [rsv] at e
    split at e
    · rename_i d' q
      cases e
      obtain ⟨v', h1, h2⟩ := R.fz i _ q
      rw [h'] at h1; cases h1
      exact .inl h2
    · rename_i l d' q
      cases e
      obtain ⟨a, h1, h2, h3⟩ := R.ow i _ _ q
      rw [h'] at h1; cases h1
      exact .inr ⟨a, rfl, h2, h3⟩
    · cases e
theorem RO.step {o : Opd} {v : V} (k : Kp B H B' H') (h : RO K H B σ o v) : RO K H' B' σ o v := by
  cases o with
  | inl d => exact RD.kp k h
  | inr i => exact h
theorem ROs.step (k : Kp B H B' H') : ∀ {os : List Opd} {vs : List V}, Paired (RO K H B σ) os vs → Paired (RO K H' B' σ) os vs
  | _, _, .nil => .nil
  | _, _, .cons h t => .cons (RO.step k h) (ROs.step k t)
/-- of lists and tuples: their items -/
theorem RT.lst {ds : List PyData} {v : V} (h : RT K H B (.list ds) v) : ∃ a xs, v = .ref a ∧ SqL K H a xs ∧ RDs K H B ds xs := by
  rcases h with h | ⟨a, rfl, _, h⟩
  · cases h with
    | lst h1 h2 => exact ⟨_, _, rfl, h1.elim (fun z => .inl z.1) .inr, h2⟩
  · cases h with
    | lst h1 h2 => exact ⟨_, _, rfl, .inl (.inl h1), h2⟩
theorem RT.tup {ds : List PyData} {v : V} (h : RT K H B (.tuple ds) v) : ∃ a xs, v = .ref a ∧ SqT K H a xs ∧ RDs K H B ds xs := by
  rcases h with h | ⟨a, rfl, _, h⟩
  · cases h with
    | tup h1 h2 => exact ⟨_, _, rfl, .inl (.inl h1.1), h2⟩
  · cases h
theorem RT.tupH {ds : List PyData} {v : V} (h : RT K H B (.tuple ds) v) : ∃ a xs, v = .ref a ∧ H a = some (.tup xs) ∧ RDs K H B ds xs := by
  rcases h with h | ⟨a, rfl, _, h⟩
  · cases h with
    | tup h1 h2 => exact ⟨_, _, rfl, h1.1, h2⟩
  · cases h
theorem RT.int {i : Int} {v : V} (h : RT K H B (.int i) v) : v = .int i := by
  rcases h with h | ⟨a, rfl, _, h⟩
  · cases h; rfl
  · cases h
theorem RT.bool {i : Bool} {v : V} (h : RT K H B (.bool i) v) : v = .bl i := by
  rcases h with h | ⟨a, rfl, _, h⟩
  · cases h; rfl
  · cases h
theorem RT.str {i : Str} {v : V} (h : RT K H B (.str i) v) : v = .str i := by
  rcases h with h | ⟨a, rfl, _, h⟩
  · cases h; rfl
  · cases h
theorem RT.none {v : V} (h : RT K H B .none v) : v = .non := by
  rcases h with h | ⟨a, rfl, _, h⟩
  · cases h; rfl
  · cases h

/-! ### constants -/
def mC (d : PyData) : M PyData := M.pure d
theorem sp_c {d : PyData} {v : V} (h : ∀ H B, RD K H B d v) : Spc K ec W (rlE K) (tC v) (mC d) := by
  intro σ H B fr r fr' Q R e hr
  cases e
  exact hr σ H B .refl R rfl v (h H B)
theorem ev_int {X : Cx} {i j pos} : EvE X ec W (.Constant (.int i) j pos) (mC (.int i)) := .mk (pe_int) (sp_c fun _ _ => .int i)
theorem ev_bl {X : Cx} {i j pos} : EvE X ec W (.Constant (.bool i) j pos) (mC (.bool i)) := .mk (pe_bl) (sp_c fun _ _ => .bl i)
theorem ev_str {X : Cx} {i j pos} : EvE X ec W (.Constant (.str i) j pos) (mC (.str i)) := .mk (pe_str) (sp_c fun _ _ => .str i)
theorem ev_non {X : Cx} {j pos} : EvE X ec W (.Constant .none j pos) (mC .none) := .mk (pe_non) (sp_c fun _ _ => .non)
/-- a constant of the module's top -/
theorem ev_glob {X : Cx} {x : Str} {v : V} {u : Value} {pos : Pos} {d : PyData} (hg : Gl X x) (hm : X.mg x = some u) (r : RelV v u) (h : ∀ H B, RD X.K H B d v) (hd : (x == ("__debug__" : Str)) = false) : EvE X ec W (.Name x pos) (mC d) :=
  .mk (pe_glob hg hm r hd) (sp_c h)

/-! ### argument lists -/
def mNil : M (List Opd) := M.pure []
def mCons (a : M Opd) (b : M (List Opd)) : M (List Opd) := a.bind fun x => b.bind fun y => M.pure (x :: y)
theorem sp_nil : Spc K ec W (rlA K) tNil mNil := by
  intro σ H B fr r fr' Q R e hr
  cases e
  exact hr σ H B .refl R rfl [] .nil
theorem sp_cons {ta : TE} {tb : TA} {ma : M Opd} {mb : M (List Opd)} (ha : Spc K ec W (rlO K) ta ma) (hb : Spc K ec W (rlA K) tb mb) : Spc K ec W (rlA K) (tCons ta tb) (mCons ma mb) := by
  intro σ H B fr r fr' Q R e hr
  refine ha.thn R e hr fun x v fr1 H1 B1 R1 s1 e1 r1 hr1 => ?_
  refine hb.thn R1 e1 hr1 fun y vs fr2 H2 B2 R2 s2 e2 r2 hr2 => ?_
  cases e2
  exact hr2 σ H2 B2 .refl R2 rfl _ (.cons (r1.step (s2.kp R1)) r2)
theorem evA_nil {X : Cx} : EvA X ec W [] mNil := .mk (pa_nil) (sp_nil)
theorem evA_cons {X : Cx} {e : Expr} {es : List Expr} {ma : M Opd} {mb : M (List Opd)} (ha : EvO X ec W e ma) (hb : EvA X ec W es mb) (hs : starEach (e :: es) X.env = (false, eval e X.env) :: starEach es X.env) : EvA X ec W (e :: es) (mCons ma mb) :=
  let ⟨_, h1, h2⟩ := ha.out; let ⟨_, h3, h4⟩ := hb.out; .mk (pa_cons h1 h3 hs) (sp_cons h2 h4)

/-! ### primitives by values -/
def rsvs (fr : Fr) : List Opd → Option (List PyData)
  | [] => some []
  | o :: os => match rsv fr o with
    | some d => match rsvs fr os with
      | some ds => some (d :: ds)
      | none => none
    | none => none
theorem rsvs_rt (R : RF K ec H B fr σ) : ∀ {os : List Opd} {vs : List V} {ds : List PyData}, Paired (RO K H B σ) os vs → rsvs fr os = some ds → Paired (RT K H B) ds vs
  | [], _, _, .nil, e => by cases e; exact .nil
  | o :: os, _, _, .cons h t, e => by
    unfold rsvs at e
    split at e
    · rename_i d q
      split at e
      · rename_i ds q2
        cases e
        exact .cons (rsv_rt R h q) (rsvs_rt R t q2)
      · cases e
    · cases e
/-- r serves p, an operation on data: the result is data, what was tracked stands -/
def Pr2 (K : PySem.W.Frag) (r : R2) (p : PyData → PyData → Option PyData) : Prop := ∀ (H : Hp) (B : AS) (x y : V) (dx dy d : PyData) (Q : VK), BD H B → RT K H B dx x → RT K H B dy y → p dx dy = some d →
  (∀ v H', Same H H' → RD K H' B d v → Q v H') → r x y H Q
def PrN (K : PySem.W.Frag) (r : List V → Hp → VK → Prop) (p : List PyData → Option PyData) : Prop := ∀ (H : Hp) (B : AS) (xs : List V) (ds : List PyData) (d : PyData) (Q : VK), BD H B → Paired (RT K H B) ds xs → p ds = some d →
  (∀ v H', Same H H' → RD K H' B d v → Q v H') → r xs H Q
/-- a new list or dict at a, of things that stood before -/
inductive NewIn (K : PySem.W.Frag) (H : Hp) (B : AS) (H' : Hp) (a : Addr) : PyData → Prop
  | lst {xs : List V} {ds : List PyData} : H' a = some (.lst xs) → RDs K H B ds xs → NewIn K H B H' a (.list ds)
  | dT {ds : List (PyData × PyData)} {kvs : List (List Key × V)} : H' a = some (.dT kvs) → RKT K H B ds kvs → NewIn K H B H' a (.dict ds)
  | dK {ds : List (PyData × PyData)} {kvs : List (Key × V)} : H' a = some (.dK kvs) → RKK K H B ds kvs → ds ≠ [] → NewIn K H B H' a (.dict ds)
theorem NewIn.own {a : Addr} {d : PyData} (k : Kp B H B' H') (h : NewIn K H B H' a d) : OwnIn K H' B' a d := by
  cases h with
  | lst e r => exact .lst e (r.kp k)
  | dT e r => exact .dT e (r.kp k)
  | dK e r ne => exact .dK e (r.kp k) ne
/-- .. a new list or dict -/
def Nw2 (K : PySem.W.Frag) (r : R2) (p : PyData → PyData → Option PyData) : Prop := ∀ (H : Hp) (B : AS) (x y : V) (dx dy d : PyData) (Q : VK), BD H B → RT K H B dx x → RT K H B dy y → p dx dy = some d →
  (∀ a H', H a = none → Same H H' → NewIn K H B H' a d → Q (.ref a) H') → r x y H Q
def NwN (K : PySem.W.Frag) (r : List V → Hp → VK → Prop) (p : List PyData → Option PyData) : Prop := ∀ (H : Hp) (B : AS) (xs : List V) (ds : List PyData) (d : PyData) (Q : VK), BD H B → Paired (RT K H B) ds xs → p ds = some d →
  (∀ a H', H a = none → Same H H' → NewIn K H B H' a d → Q (.ref a) H') → r xs H Q
def mP2 (p : PyData → PyData → Option PyData) (a b : M Opd) : M PyData := a.bind fun x => b.bind fun y => fun fr => match rsv fr x, rsv fr y with
  | some dx, some dy => (match p dx dy with
    | some d => some (.ok d, fr)
    | none => none)
  | _, _ => none
def mPN (p : List PyData → Option PyData) (as : M (List Opd)) : M PyData := as.bind fun xs => fun fr => match rsvs fr xs with
  | some ds => (match p ds with
    | some d => some (.ok d, fr)
    | none => none)
  | none => none
theorem sp_p2 {r : R2} {p : PyData → PyData → Option PyData} {ta tb : TE} {ma mb : M Opd} (hp : Pr2 K r p) (ha : Spc K ec W (rlO K) ta ma) (hb : Spc K ec W (rlO K) tb mb) : Spc K ec W (rlE K) (tOp r ta tb) (mP2 p ma mb) := by
  intro σ H B fr rr fr' Q R e hr
  refine ha.thn R e hr fun x v fr1 H1 B1 R1 s1 e1 r1 hr1 => ?_
  refine hb.thn R1 e1 hr1 fun y u fr2 H2 B2 R2 s2 e2 r2 hr2 => ?_
  split at e2
  · rename_i dx dy qx qy
    split at e2
    · rename_i d qd
      cases e2
      refine hp H2 B2 v u dx dy d Q R2.BD (rsv_rt R2 (r1.step (s2.kp R1)) qx) (rsv_rt R2 r2 qy) qd fun w H3 sm rd => ?_
      exact hr2 σ H3 B2 (.ext sm) (R2.ext sm) rfl w rd
    · cases e2
  · cases e2
theorem Kp.join {a : Addr} (hn : H a = none) (s : Same H H') : Kp B H (fun b => B b ∨ b = a) H' :=
  ⟨fun b o e _ _ => s b o e, fun b o e _ n z => z.elim n fun q => by subst q; rw [hn] at e; cases e⟩
/-- the list a new owned one: it joins B -/
theorem join {a : Addr} {d : PyData} (R : RF K ec H B fr σ) (hn : H a = none) (s : Same H H') (o : NewIn K H B H' a d) :
    Step fr σ B H fr σ (fun b => B b ∨ b = a) H' ∧ RF K ec H' (fun b => B b ∨ b = a) fr σ ∧ OwnAt K H' (fun b => B b ∨ b = a) a d ∧ ¬ Wr fr σ a := by
  have nB : ¬ B a := fun z => R.bd z hn
  have kp : Kp B H (fun b => B b ∨ b = a) H' := Kp.join hn s
  have a' : ∃ o, H' a = some o ∧ NT o := by
    cases o with
    | lst e _ => exact ⟨_, e, nt_lst⟩
    | dT e _ => exact ⟨_, e, nt_dT⟩
    | dK e _ _ => exact ⟨_, e, nt_dK⟩
  refine ⟨⟨fun b o e _ _ => s b o e, fun b h _ => .inl h, fun b h => h.imp id fun (e : b = a) => fq_none (e.symm ▸ hn), fun b h => .inl h, fun b o e nt => ⟨o, s b o e, nt⟩, fun _ d h => ⟨⟨d, h⟩, rfl⟩⟩, ⟨R.len, fun i d h => R.kp_fz kp i d h, fun i l d h => ?_, R.dis, fun b h => ?_, R.tabs.ext s⟩, ⟨.inr rfl, o.own kp⟩, fun w => nB (R.wrB w)⟩
  · obtain ⟨c, h1, h2, h3⟩ := R.ow i l d h
    exact ⟨c, h1, .inl h2, h3.kp kp fun o e _ => s _ o e⟩
  · rcases h with h | h
    · obtain ⟨o, e, nt⟩ := R.bdom b h
      exact ⟨o, s b o e, nt⟩
    · rw [h]; exact a'
theorem sp_nw2 {r : R2} {p : PyData → PyData → Option PyData} {ta tb : TE} {ma mb : M Opd} (hp : Nw2 K r p) (ha : Spc K ec W (rlO K) ta ma) (hb : Spc K ec W (rlO K) tb mb) : Spc K ec W (rlN K) (tOp r ta tb) (mP2 p ma mb) := by
  intro σ H B fr rr fr' Q R e hr
  refine ha.thn R e hr fun x v fr1 H1 B1 R1 s1 e1 r1 hr1 => ?_
  refine hb.thn R1 e1 hr1 fun y u fr2 H2 B2 R2 s2 e2 r2 hr2 => ?_
  split at e2
  · rename_i dx dy qx qy
    split at e2
    · rename_i d qd
      cases e2
      refine hp H2 B2 v u dx dy d Q R2.BD (rsv_rt R2 (r1.step (s2.kp R1)) qx) (rsv_rt R2 r2 qy) qd fun a H3 hn sm nw => ?_
      obtain ⟨j1, j2, j3, j4⟩ := join R2 hn sm nw
      exact hr2 σ H3 _ j1 j2 rfl _ ⟨a, rfl, j3, j4, (s1.trans R s2).back (fq_none hn)⟩
    · cases e2
  · cases e2
theorem sp_pN {r : List V → Hp → VK → Prop} {p : List PyData → Option PyData} {ta : TA} {ma : M (List Opd)} (hp : PrN K r p) (ha : Spc K ec W (rlA K) ta ma) : Spc K ec W (rlE K) (tCB r ta) (mPN p ma) := by
  intro σ H B fr rr fr' Q R e hr
  refine ha.thn R e hr fun x v fr1 H1 B1 R1 s1 e1 r1 hr1 => ?_
  split at e1
  · rename_i ds qx
    split at e1
    · rename_i d qd
      cases e1
      refine hp H1 B1 v ds d Q R1.BD (rsvs_rt R1 r1 qx) qd fun w H3 sm rd => ?_
      exact hr1 σ H3 B1 (.ext sm) (R1.ext sm) rfl w rd
    · cases e1
  · cases e1
theorem sp_nwN {r : List V → Hp → VK → Prop} {p : List PyData → Option PyData} {ta : TA} {ma : M (List Opd)} (hp : NwN K r p) (ha : Spc K ec W (rlA K) ta ma) : Spc K ec W (rlN K) (tCB r ta) (mPN p ma) := by
  intro σ H B fr rr fr' Q R e hr
  refine ha.thn R e hr fun x v fr1 H1 B1 R1 s1 e1 r1 hr1 => ?_
  split at e1
  · rename_i ds qx
    split at e1
    · rename_i d qd
      cases e1
      refine hp H1 B1 v ds d Q R1.BD (rsvs_rt R1 r1 qx) qd fun a H3 hn sm nw => ?_
      obtain ⟨j1, j2, j3, j4⟩ := join R1 hn sm nw
      exact hr1 σ H3 _ j1 j2 rfl _ ⟨a, rfl, j3, j4, s1.back (fq_none hn)⟩
    · cases e1
  · cases e1
end EV
end

section
set_option Elab.async false
set_option linter.all false
set_option maxRecDepth 100000
/-! Ev2: displays, operators, calls of built-ins, tests. -/
namespace EV
open PySem PySem.Spec PyProof.Rows L2
variable {K : PySem.W.Frag} {H H1 H2 H' : Hp} {B B1 B2 B' : AS} {fr fr1 fr2 fr' : Fr} {σ σ1 σ2 σ' : L2.St} {ec : EC} {W : XK} {X : Cx}

/-- the new list is not held on -/
theorem unown {a : Addr} {d : PyData} (R : RF K ec H B fr σ) (o : OwnAt K H B a d) (nw : ¬ Wr fr σ a) :
    RF K ec H (fun b => B b ∧ b ≠ a) fr σ ∧ RD K H (fun b => B b ∧ b ≠ a) d (.ref a) := by
  have kp : Kp B H (fun b => B b ∧ b ≠ a) H := ⟨fun b o e _ _ => e, fun b o e _ n z => n z.1⟩
  have nodom : ¬ (B a ∧ a ≠ a) := fun z => z.2 rfl
  refine ⟨⟨R.len, fun i d h => R.kp_fz kp i d h, fun i l d h => ?_, R.dis, fun b z => R.bdom b z.1, R.tabs⟩, ?_⟩
  · obtain ⟨c, h1, h2, h3⟩ := R.ow i l d h
    exact ⟨c, h1, ⟨h2, fun e => nw ⟨i, l, d, h, e ▸ h1⟩⟩, h3.kp kp fun o e _ => e⟩
  · obtain ⟨_, o⟩ := o
    cases o with
    | lst e r => exact .lst (.inl ⟨.inl e, nodom⟩) (r.kp kp)
    | dT e r => exact .dT e nodom (r.kp kp)
    | dK e r ne => exact .dK e nodom (r.kp kp) ne
theorem sp_fz {t : TE} {m : M PyData} (h : Spc K ec W (rlN K) t m) : Spc K ec W (rlE K) t m := by
  intro σ H B fr r fr' Q R e hr
  refine h σ H B fr r fr' Q R e ?_
  cases r with
  | error x => exact hr
  | ok d =>
    intro σ' H' B' s R' es v ⟨a, ev, oa, nw, hn⟩
    subst es ev
    obtain ⟨R2, rd⟩ := unown R' oa nw
    refine hr σ' H' _ ⟨s.keep, fun b hb n => ⟨s.bk b hb n, fun z => ?_⟩, fun b z => s.bn b z.1, s.wn, s.dm, s.ln⟩ R2 rfl _ rd
    subst z
    obtain ⟨o, e1, nt⟩ := R.bdom b hb
    exact hn o e1 nt
theorem ev_fz {e : Expr} {m : M PyData} (h : EvN X ec W e m) : EvE X ec W e m := let ⟨t, h1, h2⟩ := h.out; .mk h1 (sp_fz h2)

/-! ### displays -/
def inls : List Opd → Option (List PyData)
  | [] => some []
  | .inl d :: os => match inls os with
    | some ds => some (d :: ds)
    | none => none
  | .inr _ :: _ => none
theorem inls_rd : ∀ {os : List Opd} {vs : List V} {ds : List PyData}, Paired (RO K H B σ) os vs → inls os = some ds → RDs K H B ds vs
  | [], _, _, .nil, e => by cases e; exact .nil
  | .inl d :: os, _, _, .cons h t, e => by
    unfold inls at e
    split at e
    · rename_i ds q
      cases e
      exact .cons h (inls_rd t q)
    · cases e
  | .inr _ :: _, _, _, _, e => by cases e
def mTup (as : M (List Opd)) : M PyData := as.bind fun xs => fun fr => match inls xs with
  | some ds => if ds.length ≤ sizeLine then some (.ok (.tuple ds), fr) else none
  | none => none
def mLst (as : M (List Opd)) : M PyData := as.bind fun xs => fun fr => match inls xs with
  | some ds => if ds.length ≤ sizeLine then some (.ok (.list ds), fr) else none
  | none => none
theorem sp_tup {ta : TA} {ma : M (List Opd)} (ha : Spc K ec W (rlA K) ta ma) : Spc K ec W (rlE K) (tTup ta) (mTup ma) := by
  intro σ H B fr r fr' Q R e hr
  refine ha.thn R e hr fun xs vs fr1 H1 B1 R1 s1 e1 r1 hr1 => ?_
  split at e1
  · rename_i ds q
    split at e1
    · rename_i hl
      cases e1
      have rd := inls_rd r1 q
      refine ⟨rd.length ▸ hl, fun p hp => hr1 σ _ B1 (.ext (EV.Same.new hp)) (R1.ext (EV.Same.new hp)) rfl _ ?_⟩
      exact .tup ⟨upd_same, fun z => R1.bd z hp⟩ (rd.kp (.new R1.BD hp))
    · cases e1
  · cases e1
theorem sp_lst {ta : TA} {ma : M (List Opd)} (ha : Spc K ec W (rlA K) ta ma) : Spc K ec W (rlN K) (tLst ta) (mLst ma) := by
  intro σ H B fr r fr' Q R e hr
  refine ha.thn R e hr fun xs vs fr1 H1 B1 R1 s1 e1 r1 hr1 => ?_
  split at e1
  · rename_i ds q
    split at e1
    · rename_i hl
      cases e1
      have rd := inls_rd r1 q
      refine ⟨rd.length ▸ hl, fun p hp => ?_⟩
      obtain ⟨j1, j2, j3, j4⟩ := join R1 hp (EV.Same.new hp) (.lst (upd_same (o := .lst vs)) rd)
      exact hr1 σ _ _ j1 j2 rfl _ ⟨p, rfl, j3, j4, s1.back (fq_none hp)⟩
    · cases e1
  · cases e1
theorem ev_tup {es : List Expr} {ma : M (List Opd)} {x1 pos} (ha : EvA X ec W es ma) : EvE X ec W (.Tuple es x1 pos) (mTup ma) := let ⟨_, h1, h2⟩ := ha.out; .mk (pe_tup h1) (sp_tup h2)
theorem evN_lst {es : List Expr} {ma : M (List Opd)} {pos} (ha : EvA X ec W es ma) : EvN X ec W (.List es pos) (mLst ma) := let ⟨_, h1, h2⟩ := ha.out; .mk (pe_lst h1) (sp_lst h2)

/-! ### operators -/
section
variable {a b c : Expr} {ma mb mc : M Opd} {pos : Pos} {r r' : R2} {p p' : PyData → PyData → Option PyData}
theorem ev_op {op : Operator} (ho : OpR X (binaryOp op) r) (hp : Pr2 X.K r p) (ha : EvO X ec W a ma) (hb : EvO X ec W b mb) : EvE X ec W (.BinOp a op b pos) (mP2 p ma mb) :=
  let ⟨_, h1, h2⟩ := ha.out; let ⟨_, h3, h4⟩ := hb.out; .mk (pe_op ho h1 h3) (sp_p2 hp h2 h4)
theorem evN_op {op : Operator} (ho : OpR X (binaryOp op) r) (hp : Nw2 X.K r p) (ha : EvO X ec W a ma) (hb : EvO X ec W b mb) : EvN X ec W (.BinOp a op b pos) (mP2 p ma mb) :=
  let ⟨_, h1, h2⟩ := ha.out; let ⟨_, h3, h4⟩ := hb.out; .mk (pe_op ho h1 h3) (sp_nw2 hp h2 h4)
theorem ev_cmp {op : CmpOp} (ho : OpR X (compareOp op) r) (hp : Pr2 X.K r p) (ha : EvO X ec W a ma) (hb : EvO X ec W b mb) (hm : behindInMarks op b = false) : EvE X ec W (.Compare a [op] [b] pos) (mP2 p ma mb) :=
  let ⟨_, h1, h2⟩ := ha.out; let ⟨_, h3, h4⟩ := hb.out; .mk (pe_cmpR ho h1 h3 hm) (sp_p2 hp h2 h4)
theorem ev_ix (ho : IxR X r) (hp : Pr2 X.K r p) (ha : EvO X ec W a ma) (hb : EvO X ec W b mb) (hs : PlainIx b) : EvE X ec W (.Subscript a b pos) (mP2 p ma mb) :=
  let ⟨_, h1, h2⟩ := ha.out; let ⟨_, h3, h4⟩ := hb.out; .mk (pe_ix ho h1 h3 hs) (sp_p2 hp h2 h4)
def asB (m : M PyData) : M Bool := m.bind fun d => fun fr => match d with
  | .bool b => some (.ok b, fr)
  | _ => none
theorem sp_asB {t : TE} {m : M PyData} (h : Spc K ec W (rlE K) t m) : Spc K ec W rlT (tTest t) (asB m) := by
  intro σ H B fr r fr' Q R e hr
  refine h.thn R e hr fun d v fr1 H1 B1 R1 s1 e1 r1 hr1 => ?_
  split at e1
  · rename_i b
    cases e1
    cases r1
    exact ⟨b, rfl, hr1 σ H1 B1 .refl R1 rfl b rfl⟩
  · cases e1
theorem evT_cmp {op : CmpOp} (ho : OpR X (compareOp op) r) (hp : Pr2 X.K r p) (ha : EvO X ec W a ma) (hb : EvO X ec W b mb) (hm : behindInMarks op b = false) : EvT X ec W (.Compare a [op] [b] pos) (asB (mP2 p ma mb)) :=
  let ⟨_, h1, h2⟩ := ha.out; let ⟨_, h3, h4⟩ := hb.out; .mk (pt_cmpR ho h1 h3 hm) (sp_asB (sp_p2 hp h2 h4))
theorem evT_val {e : Expr} {m : M PyData} (h : EvE X ec W e m) (he : ∀ whole, isTrue e X.env whole = (do let v ← whole; standAt e.pos; holding [v] (truthy v))) : EvT X ec W e (asB m) :=
  let ⟨_, h1, h2⟩ := h.out; .mk (pt_val h1 he) (sp_asB h2)
/-- a op b op' c -/
def mChain (p p' : PyData → PyData → Option PyData) (ma mb mc : M Opd) : M PyData := ma.bind fun x => mb.bind fun y => fun fr => match rsv fr x, rsv fr y with
  | some dx, some dy => (match p dx dy with
    | some (.bool true) => M.bind mc (fun z => fun fr => match rsv fr y, rsv fr z with
      | some dy, some dz => (match p' dy dz with
        | some d => some (.ok d, fr)
        | none => none)
      | _, _ => none) fr
    | some (.bool false) => some (.ok (.bool false), fr)
    | _ => none)
  | _, _ => none
theorem sp_chain {ta tb tc : TE} (hp : Pr2 K r p) (hp' : Pr2 K r' p') (ha : Spc K ec W (rlO K) ta ma) (hb : Spc K ec W (rlO K) tb mb) (hc : Spc K ec W (rlO K) tc mc) : Spc K ec W (rlE K) (tChain r r' ta tb tc) (mChain p p' ma mb mc) := by
  intro σ H B fr rr fr' Q R e hr
  refine ha.thn R e hr fun x v fr1 H1 B1 R1 s1 e1 r1 hr1 => ?_
  refine hb.thn R1 e1 hr1 fun y u fr2 H2 B2 R2 s2 e2 r2 hr2 => ?_
  split at e2
  · rename_i dx dy qx qy
    have rx := rsv_rt R2 (r1.step (s2.kp R1)) qx
    have ry := rsv_rt R2 r2 qy
    split at e2
    · rename_i d qd
      refine hp H2 B2 v u dx dy _ _ R2.BD rx ry qd fun w H3 sm rd => ?_
      cases rd
      refine ⟨true, rfl, iteT ?_⟩
      have R3 := R2.ext sm
      have s3 : Step fr2 σ B2 H2 fr2 σ B2 H3 := .ext sm
      refine hc.thn R3 e2 (hr2.after R2 s3) fun z u' fr4 H4 B4 R4 s4 e4 r4 hr4 => ?_
      split at e4
      · rename_i dy' dz qy' qz
        split at e4
        · rename_i d qd'
          cases e4
          refine hp' H4 B4 u u' dy' dz d Q R4.BD (rsv_rt R4 ((r2.step (s3.kp R2)).step (s4.kp R3)) qy') (rsv_rt R4 r4 qz) qd' fun w H5 sm5 rd => ?_
          exact hr4 σ H5 B4 (.ext sm5) (R4.ext sm5) rfl w rd
        · cases e4
      · cases e4
    · rename_i d qd
      cases e2
      refine hp H2 B2 v u dx dy _ _ R2.BD rx ry qd fun w H3 sm rd => ?_
      cases rd
      exact ⟨false, rfl, iteF (hr2 σ H3 B2 (.ext sm) (R2.ext sm) rfl _ (.bl false))⟩
    · cases e2
  · cases e2
theorem ev_chain {op op' : CmpOp} (ho : OpR X (compareOp op) r) (hp : Pr2 X.K r p) (ho' : OpR X (compareOp op') r') (hp' : Pr2 X.K r' p') (ha : EvO X ec W a ma) (hb : EvO X ec W b mb) (hc : EvO X ec W c mc)
    (hm : lastMarks [op, op'] [b, c] = false) : EvE X ec W (.Compare a [op, op'] [b, c] pos) (mChain p p' ma mb mc) :=
  let ⟨_, h1, h2⟩ := ha.out; let ⟨_, h3, h4⟩ := hb.out; let ⟨_, h5, h6⟩ := hc.out; .mk (pe_chain ho ho' h1 h3 h5 hm) (sp_chain hp hp' h2 h4 h6)
theorem evT_chain {op op' : CmpOp} (ho : OpR X (compareOp op) r) (hp : Pr2 X.K r p) (ho' : OpR X (compareOp op') r') (hp' : Pr2 X.K r' p') (ha : EvO X ec W a ma) (hb : EvO X ec W b mb) (hc : EvO X ec W c mc)
    (hm : lastMarks [op, op'] [b, c] = false) : EvT X ec W (.Compare a [op, op'] [b, c] pos) (asB (mChain p p' ma mb mc)) :=
  let ⟨_, h1, h2⟩ := ha.out; let ⟨_, h3, h4⟩ := hb.out; let ⟨_, h5, h6⟩ := hc.out; .mk (pt_chain ho ho' h1 h3 h5 hm) (sp_asB (sp_chain hp hp' h2 h4 h6))
end

/-! ### and, or, not, if -/
section
variable {a b c : Expr} {ma mb : M PyData} {pos : Pos} {rest : List Expr}
def mAnd (ma mb : M PyData) : M PyData := (asB ma).bind fun x => match x with
  | true => mb
  | false => M.pure (.bool false)
def mOr (ma mb : M PyData) : M PyData := (asB ma).bind fun x => match x with
  | true => M.pure (.bool true)
  | false => mb
def mNot (ma : M PyData) : M PyData := (asB ma).bind fun x => M.pure (.bool (!x))
theorem asB_of {m : M PyData} {r : Except Xn Bool} (h : asB m fr = some (r, fr')) : (∃ b, m fr = some (.ok (.bool b), fr') ∧ r = .ok b) ∨ ∃ x, m fr = some (.error x, fr') ∧ r = .error x := by
  rcases M.bind_some h with ⟨d, fr1, e1, e2⟩ | ⟨x, e1, rfl⟩
  · split at e2
    · cases e2; exact .inl ⟨_, e1, rfl⟩
    · cases e2
  · exact .inr ⟨x, e1, rfl⟩
/-- a test by its value: asB m read off a value's reading -/
theorem Spc.thnB {γ : Type} {t : TE} {m : M PyData} {f : Bool → M γ} {r : Except Xn γ} {k : γ → L2.St → Hp → AS → Prop} {Q1 : V → Hp → Prop}
    (h1 : Spc K ec W (rlE K) t m) (R : RF K ec H B fr σ) (e : M.bind (asB m) f fr = some (r, fr')) (h : Res K ec W fr σ B H r fr' k)
    (hk : ∀ b fr1 H1 B1, RF K ec H1 B1 fr1 σ → Step fr σ B H fr1 σ B1 H1 → f b fr1 = some (r, fr') → Res K ec W fr1 σ B1 H1 r fr' k → Q1 (.bl b) H1) : t σ H Q1 := by
  rcases M.bind_some e with ⟨b, fr1, e1, e2⟩ | ⟨x, e1, rfl⟩
  · rcases asB_of e1 with ⟨b', e3, e4⟩ | ⟨x, _, e4⟩
    · cases e4
      refine h1 σ H B fr _ fr1 Q1 R e3 ?_
      intro σ' H1 B1 s R1 hs v rd
      subst hs
      cases rd
      exact hk b fr1 H1 B1 R1 s e2 (h.after R s)
    · cases e4
  · rcases asB_of e1 with ⟨b', _, e4⟩ | ⟨x', e3, e4⟩
    · cases e4
    · cases e4
      exact h1 σ H B fr _ fr' Q1 R e3 h
theorem ev_and (ha : EvE X ec W a ma) (hb : EvE X ec W (.BoolOp .And (b :: rest) pos) mb) : EvE X ec W (.BoolOp .And (a :: b :: rest) pos) (mAnd ma mb) := by
  obtain ⟨ta, h1, h2⟩ := ha.out
  obtain ⟨tb, h3, h4⟩ := hb.out
  refine .mk (pe_and h1 h3) (fun σ H B fr r fr' Q R e hr => ?_)
  refine h2.thnB R e hr fun x fr1 H1 B1 R1 s1 e1 hr1 => ⟨x, rfl, ?_⟩
  cases x with
  | true => exact iteT (h4 σ H1 B1 fr1 r fr' Q R1 e1 hr1)
  | false =>
    cases e1
    exact iteF (hr1 σ H1 B1 .refl R1 rfl _ (.bl false))
theorem ev_or (ha : EvE X ec W a ma) (hb : EvE X ec W (.BoolOp .Or (b :: rest) pos) mb) : EvE X ec W (.BoolOp .Or (a :: b :: rest) pos) (mOr ma mb) := by
  obtain ⟨ta, h1, h2⟩ := ha.out
  obtain ⟨tb, h3, h4⟩ := hb.out
  refine .mk (pe_or h1 h3) (fun σ H B fr r fr' Q R e hr => ?_)
  refine h2.thnB R e hr fun x fr1 H1 B1 R1 s1 e1 hr1 => ⟨x, rfl, ?_⟩
  cases x with
  | false => exact iteF (h4 σ H1 B1 fr1 r fr' Q R1 e1 hr1)
  | true =>
    cases e1
    exact iteT (hr1 σ H1 B1 .refl R1 rfl _ (.bl true))
theorem ev_one {op} (ha : EvE X ec W a ma) : EvE X ec W (.BoolOp op [a] pos) ma := let ⟨_, h1, h2⟩ := ha.out; .mk (pe_one h1) h2
theorem ev_not (ha : EvE X ec W a ma) : EvE X ec W (.UnaryOp .Not a pos) (mNot ma) := by
  obtain ⟨ta, h1, h2⟩ := ha.out
  refine .mk (pe_not h1) (fun σ H B fr r fr' Q R e hr => ?_)
  refine h2.thnB R e hr fun x fr1 H1 B1 R1 s1 e1 hr1 => ⟨x, rfl, ?_⟩
  cases e1
  exact hr1 σ H1 B1 .refl R1 rfl _ (.bl _)

/-! tests -/
variable {na nb : M Bool}
def nAnd (ma mb : M Bool) : M Bool := ma.bind fun x => match x with
  | true => mb
  | false => M.pure false
def nOr (ma mb : M Bool) : M Bool := ma.bind fun x => match x with
  | true => M.pure true
  | false => mb
def nNot (ma : M Bool) : M Bool := ma.bind fun x => M.pure (!x)
theorem evT_w {e : Expr} (h : EvW X ec W e na) : EvT X ec W e na := let ⟨_, h1, h2⟩ := h.out; .mk h1.pt h2
theorem evW_and1 (ha : EvT X ec W a na) : EvW X ec W (.BoolOp .And [a] pos) na := let ⟨_, h1, h2⟩ := ha.out; .mk (pw_and1 h1) h2
theorem evW_or1 (ha : EvT X ec W a na) : EvW X ec W (.BoolOp .Or [a] pos) na := let ⟨_, h1, h2⟩ := ha.out; .mk (pw_or1 h1) h2
theorem evW_and (ha : EvT X ec W a na) (hb : EvW X ec W (.BoolOp .And (b :: rest) pos) nb) : EvW X ec W (.BoolOp .And (a :: b :: rest) pos) (nAnd na nb) := by
  obtain ⟨ta, h1, h2⟩ := ha.out
  obtain ⟨tb, h3, h4⟩ := hb.out
  refine .mk (pw_and h1 h3) (fun σ H B fr r fr' Q R e hr => ?_)
  refine h2.thn R e hr fun x y fr1 H1 B1 R1 s1 e1 exy hr1 => ?_
  subst exy
  cases y with
  | true => exact iteT (h4 σ H1 B1 fr1 r fr' Q R1 e1 hr1)
  | false =>
    cases e1
    exact iteF (hr1 σ H1 B1 .refl R1 rfl _ rfl)
theorem evW_or (ha : EvT X ec W a na) (hb : EvW X ec W (.BoolOp .Or (b :: rest) pos) nb) : EvW X ec W (.BoolOp .Or (a :: b :: rest) pos) (nOr na nb) := by
  obtain ⟨ta, h1, h2⟩ := ha.out
  obtain ⟨tb, h3, h4⟩ := hb.out
  refine .mk (pw_or h1 h3) (fun σ H B fr r fr' Q R e hr => ?_)
  refine h2.thn R e hr fun x y fr1 H1 B1 R1 s1 e1 exy hr1 => ?_
  subst exy
  cases y with
  | false => exact iteF (h4 σ H1 B1 fr1 r fr' Q R1 e1 hr1)
  | true =>
    cases e1
    exact iteT (hr1 σ H1 B1 .refl R1 rfl _ rfl)
theorem evT_not (ha : EvT X ec W a na) : EvT X ec W (.UnaryOp .Not a pos) (nNot na) := by
  obtain ⟨ta, h1, h2⟩ := ha.out
  refine .mk (pt_not h1) (fun σ H B fr r fr' Q R e hr => ?_)
  refine h2.thn R e hr fun x y fr1 H1 B1 R1 s1 e1 exy hr1 => ?_
  subst exy
  cases e1
  exact hr1 σ H1 B1 .refl R1 rfl _ rfl
def mIf {α : Type} (n : M Bool) (ma mb : M α) : M α := n.bind fun x => match x with
  | true => ma
  | false => mb
theorem sp_if {α : Type} {Rel : Hp → L2.St → Fr → Hp → AS → PyData → V → Prop} {tc : TT} {ta tb : TE} {mc md : M PyData} (hc : Spc K ec W rlT tc na) (ha : Spc K ec W (rlE K) ta mc) (hb : Spc K ec W (rlE K) tb md) : Spc K ec W (rlE K) (tIf tc ta tb) (mIf na mc md) := by
  intro σ H B fr r fr' Q R e hr
  refine hc.thn R e hr fun x y fr1 H1 B1 R1 s1 e1 exy hr1 => ?_
  subst exy
  cases y with
  | true => exact iteT (ha σ H1 B1 fr1 r fr' Q R1 e1 hr1)
  | false => exact iteF (hb σ H1 B1 fr1 r fr' Q R1 e1 hr1)
theorem ev_if {mc md : M PyData} (hc : EvT X ec W c na) (ha : EvE X ec W a mc) (hb : EvE X ec W b md) : EvE X ec W (.IfExp c a b pos) (mIf na mc md) :=
  let ⟨_, h1, h2⟩ := hc.out; let ⟨_, h3, h4⟩ := ha.out; let ⟨_, h5, h6⟩ := hb.out; .mk (pe_ifExp h1 h3 h5) (sp_if (α := Unit) (Rel := rlE X.K) h2 h4 h6)
end

/-! ### built-ins by name -/
section
variable {e : Expr} {es : List Expr} {mas : M (List Opd)} {r : List V → Hp → VK → Prop} {p : List PyData → Option PyData} {x : Str} {np pos : Pos}
theorem ev_callB {id : String} (hc : CallR X (.builtin id) r) (hp : PrN X.K r p) (hg : Gl X x) (hm : X.mg x = none) (hv : bootBuiltins x = some (.builtin id)) (ha : EvA X ec W (e :: es) mas) (hn : x ≠ "__name__") (hdb : (x == ("__debug__" : Str)) = false)
    (he : starEach (e :: es) X.env = (false, eval e X.env) :: starEach es X.env) (hpl : (backTo pos (starEach es X.env)).any (·.1) = false) : EvE X ec W (.Call (.Name x np) (e :: es) [] pos) (mPN p mas) :=
  let ⟨_, h1, h2⟩ := ha.out; .mk (pe_callB hc hg hm hv h1 hn hdb he hpl) (sp_pN hp h2)
theorem ev_callTy {T : String} (hc : CallR X (.type T) r) (hp : PrN X.K r p) (hg : Gl X x) (hm : X.mg x = none) (hv : bootBuiltins x = some (.type T)) (ha : EvA X ec W (e :: es) mas) (hn : x ≠ "__name__") (hdb : (x == ("__debug__" : Str)) = false)
    (he : starEach (e :: es) X.env = (false, eval e X.env) :: starEach es X.env) (hpl : (backTo pos (starEach es X.env)).any (·.1) = false) : EvE X ec W (.Call (.Name x np) (e :: es) [] pos) (mPN p mas) :=
  let ⟨_, h1, h2⟩ := ha.out; .mk (pe_callTy hc hg hm hv h1 hn hdb he hpl) (sp_pN hp h2)
theorem evN_callB {id : String} (hc : CallR X (.builtin id) r) (hp : NwN X.K r p) (hg : Gl X x) (hm : X.mg x = none) (hv : bootBuiltins x = some (.builtin id)) (ha : EvA X ec W (e :: es) mas) (hn : x ≠ "__name__") (hdb : (x == ("__debug__" : Str)) = false)
    (he : starEach (e :: es) X.env = (false, eval e X.env) :: starEach es X.env) (hpl : (backTo pos (starEach es X.env)).any (·.1) = false) : EvN X ec W (.Call (.Name x np) (e :: es) [] pos) (mPN p mas) :=
  let ⟨_, h1, h2⟩ := ha.out; .mk (pe_callB hc hg hm hv h1 hn hdb he hpl) (sp_nwN hp h2)
theorem evN_callTy {T : String} (hc : CallR X (.type T) r) (hp : NwN X.K r p) (hg : Gl X x) (hm : X.mg x = none) (hv : bootBuiltins x = some (.type T)) (ha : EvA X ec W (e :: es) mas) (hn : x ≠ "__name__") (hdb : (x == ("__debug__" : Str)) = false)
    (he : starEach (e :: es) X.env = (false, eval e X.env) :: starEach es X.env) (hpl : (backTo pos (starEach es X.env)).any (·.1) = false) : EvN X ec W (.Call (.Name x np) (e :: es) [] pos) (mPN p mas) :=
  let ⟨_, h1, h2⟩ := ha.out; .mk (pe_callTy hc hg hm hv h1 hn hdb he hpl) (sp_nwN hp h2)
end
end EV
end

section
set_option Elab.async false
set_option linter.all false
set_option maxRecDepth 100000
/-! Ev3: targets, statements, loops, calls of defs. -/
namespace EV
open PySem PySem.Spec PyProof.Rows L2
variable {K : PySem.W.Frag} {H H1 H2 H' : Hp} {B B1 B2 B' : AS} {fr fr1 fr2 fr' : Fr} {σ σ1 σ2 σ' : L2.St} {ec : EC} {W : XK} {X : Cx}

/-! ### stores to names -/
theorem st_get {σ : L2.St} {i j : Nat} {v : Option V} {w : V} (h : (σ.set i v)[j]? = some (some w)) : (j = i ∧ v = some w) ∨ (j ≠ i ∧ σ[j]? = some (some w)) := by
  by_cases e : i = j
  · subst e
    rw [List.getElem?_set] at h
    simp only [if_true] at h
    split at h
    · exact .inl ⟨rfl, Option.some.inj h⟩
    · cases h
  · rw [List.getElem?_set_ne e] at h
    exact .inr ⟨fun z => e z.symm, h⟩
/-- a slot takes data -/
theorem set_fz {d : PyData} {v : V} (R : RF K ec H B fr σ) (i : Nat) (rd : RD K H B d v) :
    Step fr σ B H (fr.set i (.fz d)) (σ.set i (some v)) B H ∧ RF K ec H B (fr.set i (.fz d)) (σ.set i (some v)) := by
  have wr : ∀ {j l d' b}, (fr.set i (.fz d))[j]? = some (SD.ow l d') → (σ.set i (some v))[j]? = some (some (V.ref b)) → fr[j]? = some (SD.ow l d') ∧ σ[j]? = some (some (V.ref b)) := fun {j l d' b} h1 h2 => by
    rcases get_set h1 with ⟨_, z⟩ | ⟨ne, z⟩
    · cases z
    · rcases st_get h2 with ⟨e, _⟩ | ⟨_, z2⟩
      · exact absurd e ne
      · exact ⟨z, z2⟩
  refine ⟨⟨fun b o e _ _ => e, fun b h _ => h, fun b h => .inl h, fun b ⟨j, l, d', h1, h2⟩ => ?_, fun b o e nt => ⟨o, e, nt⟩, fun j d' z => ?_⟩, ⟨?_, fun j d' z => ?_, fun j l d' z => ?_, fun j k l l' d1 d2 a z1 z2 z3 z4 => ?_, R.bdom, R.tabs⟩⟩
  · obtain ⟨q1, q2⟩ := wr h1 h2
    exact .inl ⟨j, l, d', q1, q2⟩
  · rcases get_set z with ⟨_, z⟩ | ⟨ne, z⟩
    · cases z
    · exact ⟨⟨d', z⟩, List.getElem?_set_ne (Ne.symm ne)⟩
  · rw [List.length_set, List.length_set]; exact R.len
  · rcases get_set z with ⟨e, z⟩ | ⟨ne, z⟩
    · cases z
      subst e
      have hj : j < σ.length := by
        have : j < (fr.set j (SD.fz d)).length := by
          by_cases q : j < (fr.set j (SD.fz d)).length
          · exact q
          · rw [List.getElem?_eq_none (Nat.le_of_not_lt q)] at *; simp_all
        rw [List.length_set] at this
        rw [← R.len]; exact this
      exact ⟨v, List.getElem?_set_self hj, rd⟩
    · obtain ⟨w, h1, h2⟩ := R.fz j d' z
      exact ⟨w, by rw [List.getElem?_set_ne (Ne.symm ne)]; exact h1, h2⟩
  · rcases get_set z with ⟨_, z⟩ | ⟨ne, z⟩
    · cases z
    · obtain ⟨w, h1, h2⟩ := R.ow j l d' z
      exact ⟨w, by rw [List.getElem?_set_ne (Ne.symm ne)]; exact h1, h2⟩
  · exact R.dis j k l l' d1 d2 a (wr z1 z3).1 (wr z2 z4).1 (wr z1 z3).2 (wr z2 z4).2
/-- a slot takes a new list -/
theorem set_ow {d : PyData} {a : Addr} (R : RF K ec H B fr σ) (i : Nat) (o : OwnAt K H B a d) (nw : ¬ Wr fr σ a) (hn : Fq H0 a) (hi : i < fr.length)
    (s : Step fr0 σ0 B0 H0 fr σ B H) (R0 : RF K ec H0 B0 fr0 σ0) : Step fr0 σ0 B0 H0 (fr.set i (.ow false d)) (σ.set i (some (.ref a))) B H ∧ RF K ec H B (fr.set i (.ow false d)) (σ.set i (some (.ref a))) := by
  have hiσ : i < σ.length := by rw [← R.len]; exact hi
  have wr : ∀ {j l d' b}, (fr.set i (.ow false d))[j]? = some (SD.ow l d') → (σ.set i (some (.ref a)))[j]? = some (some (V.ref b)) → (j = i ∧ b = a ∧ l = false ∧ d' = d) ∨ (j ≠ i ∧ fr[j]? = some (SD.ow l d') ∧ σ[j]? = some (some (V.ref b))) := fun {j l d' b} h1 h2 => by
    rcases get_set h1 with ⟨e, z⟩ | ⟨ne, z⟩
    · subst e
      rcases st_get h2 with ⟨_, z2⟩ | ⟨ne, _⟩
      · cases z; cases z2; exact .inl ⟨rfl, rfl, rfl, rfl⟩
      · exact absurd rfl ne
    · rcases st_get h2 with ⟨e, _⟩ | ⟨_, z2⟩
      · exact absurd e ne
      · exact .inr ⟨ne, z, z2⟩
  refine ⟨⟨s.keep, s.bk, s.bn, fun b ⟨j, l, d', h1, h2⟩ => ?_, s.dm, fun j d' z => ?_⟩, ⟨?_, fun j d' z => ?_, fun j l d' z => ?_, fun j k l l' d1 d2 c z1 z2 z3 z4 => ?_, R.bdom, R.tabs⟩⟩
  · rcases wr h1 h2 with ⟨_, e, _⟩ | ⟨_, q1, q2⟩
    · exact .inr (e ▸ hn)
    · exact s.wn b ⟨j, l, d', q1, q2⟩
  · rcases get_set z with ⟨_, z⟩ | ⟨ne, z⟩
    · cases z
    · rw [List.getElem?_set_ne (Ne.symm ne)]
      exact s.ln j d' z
  · rw [List.length_set, List.length_set]; exact R.len
  · rcases get_set z with ⟨_, z⟩ | ⟨ne, z⟩
    · cases z
    · obtain ⟨w, h1, h2⟩ := R.fz j d' z
      exact ⟨w, by rw [List.getElem?_set_ne (Ne.symm ne)]; exact h1, h2⟩
  · rcases get_set z with ⟨e, z⟩ | ⟨ne, z⟩
    · cases z
      subst e
      exact ⟨a, List.getElem?_set_self hiσ, o⟩
    · obtain ⟨w, h1, h2⟩ := R.ow j l d' z
      exact ⟨w, by rw [List.getElem?_set_ne (Ne.symm ne)]; exact h1, h2⟩
  · rcases wr z1 z3 with ⟨e1, e2, _⟩ | ⟨_, q1, q2⟩
    · rcases wr z2 z4 with ⟨e3, _⟩ | ⟨_, q3, q4⟩
      · rw [e1, e3]
      · exact absurd ⟨k, l', d2, q3, e2 ▸ q4⟩ nw
    · rcases wr z2 z4 with ⟨_, e2, _⟩ | ⟨_, q3, q4⟩
      · exact absurd ⟨j, l, d1, q1, e2 ▸ q2⟩ nw
      · exact R.dis j k l l' d1 d2 c q1 q3 q2 q4
/-- what was tracked and is not this frame's to change stays also if an owned list changes -/
theorem set_in {i : Nat} {l : Bool} {d d' : PyData} {a : Addr} {o : HO} (R : RF K ec H B fr σ) (h : fr[i]? = some (SD.ow l d)) (ha : σ[i]? = some (some (V.ref a))) (o' : OwnIn K (upd H a o) B a d') :
    Step fr σ B H (fr.set i (.ow l d')) σ B (upd H a o) ∧ RF K ec (upd H a o) B (fr.set i (.ow l d')) σ := by
  obtain ⟨a', ha', hB, hin⟩ := R.ow i l d h
  rw [ha] at ha'; cases ha'
  have hw : Wr fr σ a := ⟨i, l, d, h, ha⟩
  have kp : Kp B H B (upd H a o) := ⟨fun b u e _ n => by rw [upd_ne (fun (z : b = a) => n (z.symm ▸ hB))]; exact e, fun b u e _ n => n⟩
  have nto : NT o := by
    cases o' with
    | lst e _ => rw [upd_same] at e; cases e; exact nt_lst
    | dT e _ => rw [upd_same] at e; cases e; exact nt_dT
    | dK e _ _ => rw [upd_same] at e; cases e; exact nt_dK
  have dm : ∀ b u, H b = some u → NT u → ∃ u', upd H a o b = some u' ∧ NT u' := fun b u hb nt => by
    by_cases e : b = a
    · subst e; exact ⟨o, upd_same, nto⟩
    · exact ⟨u, by rw [upd_ne e]; exact hb, nt⟩
  have wr : ∀ {j l' d1}, (fr.set i (.ow l d'))[j]? = some (SD.ow l' d1) → (j = i ∧ l' = l ∧ d1 = d') ∨ (j ≠ i ∧ fr[j]? = some (SD.ow l' d1)) := fun {j l' d1} h1 => by
    rcases get_set h1 with ⟨e, z⟩ | ⟨ne, z⟩
    · cases z; exact .inl ⟨e, rfl, rfl⟩
    · exact .inr ⟨ne, z⟩
  have own : ∀ {j l' d1}, (fr.set i (.ow l d'))[j]? = some (SD.ow l' d1) → ∃ d2, fr[j]? = some (SD.ow l' d2) := fun {j l' d1} h1 => by
    rcases wr h1 with ⟨e, e2, _⟩ | ⟨_, q⟩
    · subst e e2; exact ⟨d, h⟩
    · exact ⟨_, q⟩
  refine ⟨⟨fun b u e _ n => ?_, fun b h _ => h, fun b h => .inl h, fun b ⟨j, l', d1, h1, h2⟩ => ?_, dm, fun j d1 z => ?_⟩, ⟨?_, fun j d1 z => ?_, fun j l' d1 z => ?_, fun j k l1 l2 d1 d2 c z1 z2 z3 z4 => ?_, fun b hb => let ⟨u, e, nt⟩ := R.bdom b hb; dm b u e nt, tabs_upd hin R.tabs⟩⟩
  · rw [upd_ne (fun (z : b = a) => n (z.symm ▸ hw))]; exact e
  · obtain ⟨d2, q⟩ := own h1
    exact .inl ⟨j, l', d2, q, h2⟩
  · obtain ⟨d2, q⟩ := own z
    exact ⟨⟨d2, q⟩, rfl⟩
  · rw [List.length_set]; exact R.len
  · rcases get_set z with ⟨_, z⟩ | ⟨ne, z⟩
    · cases z
    · exact R.kp_fz kp j d1 z
  · rcases wr z with ⟨e, _, e3⟩ | ⟨ne, q⟩
    · subst e e3
      exact ⟨a, ha, hB, o'⟩
    · obtain ⟨c, h1, h2, h3⟩ := R.ow j l' d1 q
      have nc : c ≠ a := fun e => ne (R.dis j i l' l d1 d c q h h1 (e ▸ ha))
      exact ⟨c, h1, h2, h3.kp kp fun u e _ => by rw [upd_ne nc]; exact e⟩
  · obtain ⟨d3, q1⟩ := own z1
    obtain ⟨d4, q2⟩ := own z2
    exact R.dis j k l1 l2 d3 d4 c q1 q2 z3 z4

/-! ### targets -/
abbrev G := PyData → Fr → Option Fr
/-- the slots outside vs are as they were -/
def Off (vs : List Nat) (σ σ' : L2.St) : Prop := σ'.length = σ.length ∧ ∀ (j : Nat), j ∉ vs → σ'[j]? = σ[j]?
def SpG (K : PySem.W.Frag) (ec : EC) (vs : List Nat) (t : TG) (g : G) : Prop := ∀ (σ : L2.St) (H : Hp) (B : AS) (fr : Fr) (d : PyData) (v : V) (fr' : Fr) (Q : L2.St → Hp → Prop), RF K ec H B fr σ → RD K H B d v → g d fr = some fr' →
  (∀ σ', RF K ec H B fr' σ' → Step fr σ B H fr' σ' B H → Off vs σ σ' → Q σ' H) → t v σ H Q
def tOfG (K : PySem.W.Frag) (ec : EC) (vs : List Nat) (g : G) : TG := fun v σ H Q => ∃ (B : AS) (fr : Fr) (d : PyData) (fr' : Fr), RF K ec H B fr σ ∧ RD K H B d v ∧ g d fr = some fr' ∧ ∀ σ', RF K ec H B fr' σ' → Step fr σ B H fr' σ' B H → Off vs σ σ' → Q σ' H
def EvG (X : Cx) (ec : EC) (vs : List Nat) (tg : Expr) (g : G) : Prop := PG X tg (tOfG X.K ec vs g)
theorem tOfG_sp {vs : List Nat} {g : G} : SpG K ec vs (tOfG K ec vs g) g := fun σ H B fr d v fr' Q R r e h => ⟨B, fr, d, fr', R, r, e, h⟩
theorem EvG.mk {vs : List Nat} {tg : Expr} {t : TG} {g : G} (h : PG X tg t) (s : SpG X.K ec vs t g) : EvG X ec vs tg g :=
  ⟨fun pins sh σ H v u Q I r q => h.run pins sh σ H v u Q I r (let ⟨B, fr, d, fr', R, rd, e, hq⟩ := q; s σ H B fr d v fr' Q R rd e hq)⟩
theorem EvG.out {vs : List Nat} {tg : Expr} {g : G} (h : EvG X ec vs tg g) : ∃ t, PG X tg t ∧ SpG X.K ec vs t g := ⟨_, h, tOfG_sp⟩
def gN (i : Nat) : G := fun d fr => some (fr.set i (.fz d))
theorem spG_name (i : Nat) : SpG K ec [i] (gName i) (gN i) := by
  intro σ H B fr d v fr' Q R rd e h
  cases e
  obtain ⟨s, R'⟩ := set_fz R i rd
  exact h _ R' s ⟨List.length_set, fun j hj => List.getElem?_set_ne (fun e => hj (List.mem_singleton.mpr e.symm))⟩
theorem evG_name {i : Nat} {x : Str} {pos : Pos} (hN : X.N.Nodup) (hi : X.N[i]? = some x) (hx : Loc X.env.scope x) (hf : X.fn x = true ∨ X.env.scope.names.lookup x = some .local) : EvG X ec [i] (.Name x pos) (gN i) := .mk (pg_name hN hi hx hf) (spG_name i)
abbrev Gs := List PyData → Fr → Option Fr
def SpGs (K : PySem.W.Frag) (ec : EC) (vs : List Nat) (t : TGs) (g : Gs) : Prop := ∀ (σ : L2.St) (H : Hp) (B : AS) (fr : Fr) (d : List PyData) (v : List V) (fr' : Fr) (Q : L2.St → Hp → Prop), RF K ec H B fr σ → RDs K H B d v → g d fr = some fr' →
  (∀ σ', RF K ec H B fr' σ' → Step fr σ B H fr' σ' B H → Off vs σ σ' → Q σ' H) → t v σ H Q
def EvGs (X : Cx) (ec : EC) (vs : List Nat) (ts : List Expr) (g : Gs) : Prop := ∃ t, PGs X ts t ∧ SpGs X.K ec vs t g
def gsNil : Gs := fun d fr => match d with
  | [] => some fr
  | _ => none
def gsCons (g : G) (gs : Gs) : Gs := fun d fr => match d with
  | x :: xs => (match g x fr with
    | some fr1 => gs xs fr1
    | none => none)
  | [] => none
theorem evGs_nil : EvGs X ec [] [] gsNil := ⟨_, pgs_nil, fun σ H B fr d v fr' Q R rd e h => by
  cases rd with
  | nil => cases e; exact ⟨rfl, h σ R .refl ⟨rfl, fun _ _ => rfl⟩⟩
  | cons _ _ => cases e⟩
theorem evGs_cons {vs vs' : List Nat} {e : Expr} {es : List Expr} {g : G} {gs : Gs} (h1 : EvG X ec vs e g) (h2 : EvGs X ec vs' es gs) (hs : (assignEach (e :: es) X.env).map (·.2) = assign e X.env :: (assignEach es X.env).map (·.2)) : EvGs X ec (vs ++ vs') (e :: es) (gsCons g gs) := by
  obtain ⟨t, p1, s1⟩ := h1.out
  obtain ⟨u, p2, s2⟩ := h2
  refine ⟨_, pgs_cons p1 p2 hs, fun σ H B fr d v fr' Q R rd e h => ?_⟩
  cases rd with
  | nil => cases e
  | @cons d1 v1 ds ws r1 r2 =>
    have e' : (match g d1 fr with | some fr1 => gs ds fr1 | none => none) = some fr' := e
    split at e'
    · rename_i fr1 q
      refine ⟨v1, ws, rfl, s1 σ H B fr d1 v1 fr1 _ R r1 q fun σ1 R1 st1 o1 => ?_⟩
      exact s2 σ1 H B fr1 ds ws fr' _ R1 r2 e' fun σ2 R2 st2 o2 => h σ2 R2 (st1.trans R st2) ⟨o2.1.trans o1.1, fun j hj => (o2.2 j fun z => hj (List.mem_append_right _ z)).trans (o1.2 j fun z => hj (List.mem_append_left _ z))⟩
    · cases e'
def gT (n : Nat) (gs : Gs) : G := fun d fr => match d with
  | .tuple ds => if ds.length = n then gs ds fr else none
  | _ => none
theorem evG_tup {vs : List Nat} {es : List Expr} {k : Nat} {gs : Gs} {n : Nat} {pos : Pos} (h : EvGs X ec vs es gs) (hp : ∀ t, PGs X es t → PG X (.Tuple es k pos) (gTup X.K n t)) : EvG X ec vs (.Tuple es k pos) (gT n gs) := by
  obtain ⟨t, p, s⟩ := h
  refine .mk (hp t p) fun σ H B fr d v fr' Q R rd e hq => ?_
  unfold gT at e
  split at e
  · rename_i ds
    split at e
    · rename_i hl
      cases rd with
      | @tup a xs _ h1 h2 => exact ⟨a, xs, rfl, .inl (.inl h1.1), by rw [← h2.length]; exact hl, s σ H B fr ds xs fr' Q R h2 e hq⟩
    · cases e
  · cases e

/-! ### statements -/
def sSeq (a b : MS) : MS := a.bind fun f => match f with
  | .nx => b
  | f => M.pure f
theorem SpS.thn {t : TS} {m : MS} {f : Fl → MS} {r : Except Xn Fl} {k : Fl → L2.St → Hp → AS → Prop} {D1 : Ends} (h1 : SpS K ec W t m) (R : RF K ec H B fr σ) (e : M.bind m f fr = some (r, fr')) (h : Res K ec W fr σ B H r fr' k)
    (hk : ∀ a fr1 σ1 H1 B1, RF K ec H1 B1 fr1 σ1 → Step fr σ B H fr1 σ1 B1 H1 → f a fr1 = some (r, fr') → Res K ec W fr1 σ1 B1 H1 r fr' k → kEnd K D1 a σ1 H1 B1) : t D1 σ H := by
  rcases M.bind_some e with ⟨a, fr1, e1, e2⟩ | ⟨x, e1, rfl⟩
  · refine h1 σ H B fr (.ok a) fr1 D1 R e1 ?_
    intro σ1 H1 B1 s R1
    exact hk a fr1 σ1 H1 B1 R1 s e2 (h.after R s)
  · exact h1 σ H B fr (.error x) fr' D1 R e1 h
theorem evSs_nil : EvSs X ec W [] (M.pure .nx) := .mk pss_nil fun σ H B fr r fr' D R e h => by
  cases e
  exact h σ H B .refl R
theorem evSs_cons {st : Stmt} {rest : List Stmt} {a b : MS} (h1 : EvS X ec W st a) (h2 : EvSs X ec W rest b) : EvSs X ec W (st :: rest) (sSeq a b) := by
  obtain ⟨t, p1, s1⟩ := h1.out
  obtain ⟨u, p2, s2⟩ := h2.out
  refine .mk (pss_cons p1 p2) fun σ H B fr r fr' D R e h => ?_
  refine s1.thn R e h fun f fr1 σ1 H1 B1 R1 st e1 hr => ?_
  cases f with
  | nx => exact s2 σ1 H1 B1 fr1 r fr' D R1 e1 hr
  | rt d => cases e1; exact hr σ1 H1 B1 .refl R1
  | bk => cases e1; exact hr σ1 H1 B1 .refl R1
  | ct => cases e1; exact hr σ1 H1 B1 .refl R1
theorem evSs_one {st : Stmt} {a : MS} (h1 : EvS X ec W st a) : EvSs X ec W [st] a := by
  obtain ⟨t, p1, s1⟩ := h1.out
  exact .mk (pss_one p1) s1
def sRet (m : M PyData) : MS := m.bind fun d => M.pure (.rt d)
theorem evS_ret {e : Expr} {m : M PyData} {pos : Pos} (h : EvE X ec W e m) : EvS X ec W (.Return (some e) pos) (sRet m) := by
  obtain ⟨t, p1, s1⟩ := h.out
  refine .mk (ps_ret p1) fun σ H B fr r fr' D R e h => ?_
  refine s1.thn R e h fun d v fr1 H1 B1 R1 s e1 rd hr => ?_
  cases e1
  exact hr σ H1 B1 .refl R1 v rd
def sExpr (m : M PyData) : MS := m.bind fun _ => M.pure .nx
theorem evS_expr {e : Expr} {m : M PyData} {pos : Pos} (h : EvE X ec W e m) (hs : swapsWith e none pos.line X.env = pure false) : EvS X ec W (.Expr e pos) (sExpr m) := by
  obtain ⟨t, p1, s1⟩ := h.out
  refine .mk (ps_expr p1 hs) fun σ H B fr r fr' D R e h => ?_
  refine s1.thn R e h fun d v fr1 H1 B1 R1 s e1 rd hr => ?_
  cases e1
  exact hr σ H1 B1 .refl R1
def sAsg (m : M PyData) (g : G) : MS := m.bind fun d => fun fr => match g d fr with
  | some fr' => some (.ok .nx, fr')
  | none => none
theorem spS_asg {te : TE} {tg : TG} {m : M PyData} {g : G} {vs : List Nat} (s1 : Spc K ec W (rlE K) te m) (s2 : SpG K ec vs tg g) : SpS K ec W (tAsg te tg) (sAsg m g) := by
  intro σ H B fr r fr' D R e h
  refine s1.thn R e h fun d v fr1 H1 B1 R1 s e1 rd hr => ?_
  split at e1
  · rename_i fr2 q
    cases e1
    exact s2 σ H1 B1 fr1 d v _ _ R1 rd q fun σ' R' st _ => hr σ' H1 B1 st R'
  · cases e1
theorem evS_asg {vs : List Nat} {tg e : Expr} {m : M PyData} {g : G} {pos : Pos} (h1 : EvE X ec W e m) (h2 : EvG X ec vs tg g) (hs : swapsWithSole [tg] e pos.line X.env = pure false) (hw : swappedStores [tg] e X.env = pure none) (ha : (assignEach [tg] X.env).map (·.2) = [assign tg X.env]) : EvS X ec W (.Assign [tg] e pos) (sAsg m g) := by
  obtain ⟨t, p1, s1⟩ := h1.out
  obtain ⟨u, p2, s2⟩ := h2.out
  exact .mk (ps_asg p1 p2 hs hw ha) (spS_asg s1 s2)
theorem evS_set {i : Nat} {x : Str} {e : Expr} {m : M PyData} {pos pos' : Pos} (hN : X.N.Nodup) (hi : X.N[i]? = some x) (hx : Loc X.env.scope x) (h : EvE X ec W e m) (hs : swapsWith e (some (.Name x pos')) pos.line X.env = pure false) (hf : X.fn x = true ∨ X.env.scope.names.lookup x = some .local) :
    EvS X ec W (.Assign [.Name x pos'] e pos) (sAsg m (gN i)) := by
  obtain ⟨t, p1, s1⟩ := h.out
  exact .mk (ps_set hN hi hx p1 hs hf) (spS_asg s1 (spG_name i))
/-- a name takes a new list that it alone holds -/
def sOwn (m : M PyData) (i : Nat) : MS := m.bind fun d => fun fr => if i < fr.length then some (.ok .nx, fr.set i (.ow false d)) else none
theorem spS_own {te : TE} {i : Nat} {m : M PyData} (s1 : Spc K ec W (rlN K) te m) : SpS K ec W (tAsg te (gName i)) (sOwn m i) := by
  intro σ H B fr r fr' D R e h
  rcases M.bind_some e with ⟨d, fr1, e1, e2⟩ | ⟨x, e1, rfl⟩
  · split at e2
    · rename_i hi
      cases e2
      refine s1 σ H B fr (.ok d) fr1 _ R e1 ?_
      intro σ1 H1 B1 s R1 es v ⟨a, ev, o, nw, hn⟩
      subst es ev
      obtain ⟨s', R'⟩ := set_ow R1 i o nw hn hi s R
      exact h _ H1 B1 s' R'
    · cases e2
  · exact s1 σ H B fr (.error x) fr' _ R e1 h
theorem evS_own {i : Nat} {x : Str} {e : Expr} {m : M PyData} {pos pos' : Pos} (hN : X.N.Nodup) (hi : X.N[i]? = some x) (hx : Loc X.env.scope x) (h : EvN X ec W e m) (hs : swapsWith e (some (.Name x pos')) pos.line X.env = pure false) (hf : X.fn x = true ∨ X.env.scope.names.lookup x = some .local) :
    EvS X ec W (.Assign [.Name x pos'] e pos) (sOwn m i) := by
  obtain ⟨t, p1, s1⟩ := h.out
  exact .mk (ps_set hN hi hx p1 hs hf) (spS_own s1)
theorem evS_if {c : Expr} {a b : List Stmt} {n : M Bool} {ma mb : MS} {pos : Pos} (hc : EvT X ec W c n) (ha : EvSs X ec W a ma) (hb : EvSs X ec W b mb) : EvS X ec W (.If c a b pos) (mIf n ma mb) := by
  obtain ⟨tc, pc, sc⟩ := hc.out
  obtain ⟨ta, pa, sa⟩ := ha.out
  obtain ⟨tb, pb, sb⟩ := hb.out
  refine .mk (ps_if pc pa pb) fun σ H B fr r fr' D R e h => ?_
  refine sc.thn R e h fun x y fr1 H1 B1 R1 s1 e1 exy hr1 => ?_
  subst exy
  cases y with
  | true => exact iteT (sa σ H1 B1 fr1 r fr' D R1 e1 hr1)
  | false => exact iteF (sb σ H1 B1 fr1 r fr' D R1 e1 hr1)
theorem evS_pass {pos : Pos} : EvS X ec W (.Pass pos) (M.pure .nx) := .mk ps_pass fun σ H B fr r fr' D R e h => by
  cases e
  exact h σ H B .refl R
theorem evS_break {pos : Pos} : EvS X ec W (.Break pos) (M.pure .bk) := .mk ps_break fun σ H B fr r fr' D R e h => by
  cases e
  exact h σ H B .refl R
theorem evS_continue {pos : Pos} : EvS X ec W (.Continue pos) (M.pure .ct) := .mk ps_continue fun σ H B fr r fr' D R e h => by
  cases e
  exact h σ H B .refl R
/-- a, b = e1, e2 -/
def sPar (i j : Nat) (ma mb : M PyData) : MS := ma.bind fun x => mb.bind fun y => fun fr => some (.ok .nx, (fr.set i (.fz x)).set j (.fz y))
theorem evS_par {st : Stmt} {i j : Nat} {ta tb : TE} {ma mb : M PyData} (h : PS X st (tPar i j (tCons ta (tCons tb tNil)))) (sa : Spc X.K ec W (rlE X.K) ta ma) (sb : Spc X.K ec W (rlE X.K) tb mb) : EvS X ec W st (sPar i j ma mb) := by
  refine .mk h fun σ H B fr r fr' D R e hr => ?_
  refine sa.thn R e hr fun x v fr1 H1 B1 R1 s1 e1 r1 hr1 => ?_
  refine sb.thn R1 e1 hr1 fun y w fr2 H2 B2 R2 s2 e2 r2 hr2 => ?_
  cases e2
  refine ⟨v, w, rfl, ?_⟩
  obtain ⟨t1, R3⟩ := set_fz R2 i (r1.kp (s2.kp R1))
  obtain ⟨t2, R4⟩ := set_fz R3 j r2
  exact hr2 _ H2 B2 (t1.trans R2 t2) R4
end EV
end

section
set_option Elab.async false
set_option linter.all false
set_option maxRecDepth 100000
/-! Ev4: what is walked, for, comprehensions. -/
namespace EV
open PySem PySem.Spec PyProof.Rows L2
variable {K : PySem.W.Frag} {H H1 H2 H' : Hp} {B B1 B2 B' : AS} {fr fr1 fr2 fr' : Fr} {σ σ1 σ2 σ' : L2.St} {ec : EC} {W : XK} {X : Cx}

theorem Kp.refl : Kp B H B H := ⟨fun _ _ e _ _ => e, fun _ _ _ _ n => n⟩
theorem Kp.trans (a : Kp B H B1 H1) (b : Kp B1 H1 B2 H2) : Kp B H B2 H2 := ⟨fun c o e nt n => b.keep c o (a.keep c o e nt n) nt (a.bn c o e nt n), fun c o e nt n => b.bn c o (a.keep c o e nt n) nt (a.bn c o e nt n)⟩

/-! ### what is walked -/
/-- the iterator gives just the data ds, whatever is done to what is not data -/
def ItOk (K : PySem.W.Frag) (H : Hp) (B : AS) (J : It) (ds : List PyData) : Prop := ∀ H' B', Kp B H B' H' → BD H' B' →
  (∀ i, i < ds.length → J.go i H') ∧ (∀ i, ds.length ≤ i → J.stop i H') ∧ ∀ i x H'', i < ds.length → J.yld i H' x H'' → Same H' H'' ∧ ∃ d, ds[i]? = some d ∧ RD K H'' B' d x
theorem ItOk.kp {J : It} {ds : List PyData} (h : ItOk K H B J ds) (k : Kp B H B' H') : ItOk K H' B' J ds := fun H2 B2 k2 bd => h H2 B2 (k.trans k2) bd
abbrev rlI (K : PySem.W.Frag) : Hp → L2.St → Fr → Hp → AS → List PyData → It → Prop := fun _ _ _ H' B' ds J => ItOk K H' B' J ds
def EvI (X : Cx) (ec : EC) (W : XK) (tg iter : Expr) (m : M (List PyData)) : Prop := PI X tg iter (tOf X.K ec W (rlI X.K) m)
theorem EvI.mk {tg iter : Expr} {t : TI} {m : M (List PyData)} (h : PI X tg iter t) (s : Spc X.K ec W (rlI X.K) t m) : EvI X ec W tg iter m := ⟨fun pins sh σ H R I q => h.run pins sh σ H R I (s.of q)⟩
theorem EvI.out {tg iter : Expr} {m : M (List PyData)} (h : EvI X ec W tg iter m) : ∃ t, PI X tg iter t ∧ Spc X.K ec W (rlI X.K) t m := ⟨_, h, tOf_sp⟩
def asL (m : M PyData) : M (List PyData) := m.bind fun d => fun fr => match d with
  | .list ds => some (.ok ds, fr)
  | _ => none
def asT (m : M PyData) : M (List PyData) := m.bind fun d => fun fr => match d with
  | .tuple ds => some (.ok ds, fr)
  | _ => none
theorem itl_ok {a : Addr} {xs : List V} {ds : List PyData} (h : LAt K H B a xs) (r : RDs K H B ds xs) : ItOk K H B (Itl K a) ds := fun H' B' k bd => by
  have h' := h.kp k
  have r' := r.kp k
  have sq : SqL K H' a xs := h'.elim (fun z => .inl z.1) .inr
  refine ⟨fun i hi => ⟨xs, xs[i]'(by rw [← r.length]; exact hi), sq, by simp⟩, fun i hi => ⟨xs, sq, by rw [← r.length]; exact hi⟩, fun i x H'' hi ⟨e, y⟩ => ?_⟩
  subst e
  have e2 := y xs sq
  have e3 : ds[i]? = some ds[i] := List.getElem?_eq_getElem hi
  obtain ⟨v, q1, q2⟩ := r'.get e3
  rw [e2] at q1
  cases q1
  exact ⟨fun _ _ e => e, _, e3, q2⟩
theorem itt_ok {a : Addr} {xs : List V} {ds : List PyData} (h : TAt H B a xs) (r : RDs K H B ds xs) : ItOk K H B (Itt K a) ds := fun H' B' k bd => by
  have h' := h.kp k
  have r' := r.kp k
  have sq : SqT K H' a xs := .inl (.inl h'.1)
  refine ⟨fun i hi => ⟨xs, xs[i]'(by rw [← r.length]; exact hi), sq, by simp⟩, fun i hi => ⟨xs, sq, by rw [← r.length]; exact hi⟩, fun i x H'' hi ⟨e, y⟩ => ?_⟩
  subst e
  have e2 := y xs sq
  have e3 : ds[i]? = some ds[i] := List.getElem?_eq_getElem hi
  obtain ⟨v, q1, q2⟩ := r'.get e3
  rw [e2] at q1
  cases q1
  exact ⟨fun _ _ e => e, _, e3, q2⟩
def rngD (lo : Int) (n : Nat) : List PyData := (List.range n).map fun i => .int (lo + (i : Nat))
theorem itr_ok {lo : Int} {n : Nat} : ItOk K H B (Itr lo n) (rngD lo n) := fun H' B' k bd => by
  have hl : (rngD lo n).length = n := by simp [rngD]
  rw [hl]
  refine ⟨fun i hi => hi, fun i hi => hi, fun i x H'' hi ⟨e, y⟩ => ?_⟩
  subst e y
  exact ⟨fun _ _ e => e, .int (lo + i), by simp [rngD, hi], .int _⟩
theorem evI_list {tg iter : Expr} {m : M PyData} (h : EvE X ec W iter m) : EvI X ec W tg iter (asL m) := by
  obtain ⟨t, p, s⟩ := h.out
  refine .mk (pi_list p) fun σ H B fr r fr' Q R e hr => ?_
  refine s.thn R e hr fun d v fr1 H1 B1 R1 s1 e1 rd hr1 => ?_
  split at e1
  · cases e1
    cases rd with
    | @lst a xs ds h1 h2 => exact ⟨a, rfl, ⟨xs, h1.elim (fun z => .inl z.1) .inr⟩, hr1 σ H1 B1 .refl R1 rfl _ (itl_ok h1 h2)⟩
  · cases e1
theorem evI_tup {tg iter : Expr} {m : M PyData} (h : EvE X ec W iter m) : EvI X ec W tg iter (asT m) := by
  obtain ⟨t, p, s⟩ := h.out
  refine .mk (pi_tup p) fun σ H B fr r fr' Q R e hr => ?_
  refine s.thn R e hr fun d v fr1 H1 B1 R1 s1 e1 rd hr1 => ?_
  split at e1
  · cases e1
    cases rd with
    | @tup a xs ds h1 h2 => exact ⟨a, rfl, ⟨xs, .inl (.inl h1.1)⟩, hr1 σ H1 B1 .refl R1 rfl _ (itt_ok h1 h2)⟩
  · cases e1
def mRng1 (as : M (List Opd)) : M (List PyData) := as.bind fun xs => fun fr => match rsvs fr xs with
  | some [.int j] => if -(2 ^ 62) ≤ j ∧ j < 2 ^ 62 then some (.ok (rngD 0 j.toNat), fr) else none
  | _ => none
def mRng2 (as : M (List Opd)) : M (List PyData) := as.bind fun xs => fun fr => match rsvs fr xs with
  | some [.int i, .int j] => if -(2 ^ 62) ≤ i ∧ i < 2 ^ 62 ∧ -(2 ^ 62) ≤ j ∧ j < 2 ^ 62 then some (.ok (rngD i (j - i).toNat), fr) else none
  | _ => none
theorem evI_rng1 {tg a : Expr} {p pos : Pos} {m : M (List Opd)} (hg : Gl X "range") (hm : X.mg "range" = none) (ha : EvA X ec W [a] m) (hs : starEach [a] X.env = [(false, eval a X.env)]) : EvI X ec W tg (.Call (.Name "range" p) [a] [] pos) (mRng1 m) := by
  obtain ⟨t, pa, s⟩ := ha.out
  refine .mk (pi_range1 hg hm pa hs) fun σ H B fr r fr' Q R e hr => ?_
  refine s.thn R e hr fun xs vs fr1 H1 B1 R1 s1 e1 rel hr1 => ?_
  split at e1
  · rename_i j q
    split at e1
    · rename_i hj
      cases e1
      have rt := rsvs_rt R1 rel q
      cases rt with
      | cons r1 r2 =>
        cases r2
        cases r1.int
        exact ⟨j, rfl, hj.1, hj.2, hr1 σ H1 B1 .refl R1 rfl _ itr_ok⟩
    · cases e1
  · cases e1
theorem evI_rng2 {tg a b : Expr} {p pos : Pos} {m : M (List Opd)} (hg : Gl X "range") (hm : X.mg "range" = none) (ha : EvA X ec W [a, b] m) (hs : starEach [a, b] X.env = [(false, eval a X.env), (false, eval b X.env)]) (hs2 : starEach [b] X.env = [(false, eval b X.env)]) :
    EvI X ec W tg (.Call (.Name "range" p) [a, b] [] pos) (mRng2 m) := by
  obtain ⟨t, pa, s⟩ := ha.out
  refine .mk (pi_range2 hg hm pa hs hs2) fun σ H B fr r fr' Q R e hr => ?_
  refine s.thn R e hr fun xs vs fr1 H1 B1 R1 s1 e1 rel hr1 => ?_
  split at e1
  · rename_i i j q
    split at e1
    · rename_i hj
      cases e1
      have rt := rsvs_rt R1 rel q
      cases rt with
      | cons r1 r2 =>
        cases r2 with
        | cons r2 r3 =>
          cases r3
          cases r1.int
          cases r2.int
          exact ⟨i, j, rfl, hj, hr1 σ H1 B1 .refl R1 rfl _ itr_ok⟩
    · cases e1
  · cases e1

/-! ### for -/
def forL (g : G) (body : MS) : List PyData → MS
  | [], fr => some (.ok .nx, fr)
  | d :: ds, fr => match g d fr with
    | none => none
    | some fr1 => match body fr1 with
      | some (.ok .nx, fr2) => forL g body ds fr2
      | some (.ok .ct, fr2) => forL g body ds fr2
      | some (.ok .bk, fr2) => some (.ok .nx, fr2)
      | some (.ok (.rt d), fr2) => some (.ok (.rt d), fr2)
      | some (.error x, fr2) => some (.error x, fr2)
      | none => none
def sFor (items : M (List PyData)) (g : G) (body : MS) : MS := items.bind fun ds => forL g body ds
theorem evS_for {vs : List Nat} {tg iter : Expr} {body : List Stmt} {mi : M (List PyData)} {g : G} {mb : MS} {pos : Pos} (hp : PassesOwn (model X.prog X.w) X.A X.env X.xe) (hc : X.calm = true) (hi : EvI X ec W tg iter mi) (hg : EvG X ec vs tg g) (hb : EvSs X ec W body mb)
    (hs : ∀ x, foldedSetIterable iter X.env x = pure x) : EvS X ec W (.For tg iter body [] pos) (sFor mi g mb) := by
  obtain ⟨ti, p1, s1⟩ := hi.out
  obtain ⟨tg', p2, s2⟩ := hg.out
  obtain ⟨tb, p3, s3⟩ := hb.out
  refine .mk (ps_for hp hc p1 p2 p3 hs) fun σ H B fr r fr' D R e hr => ?_
  refine s1.thn R e hr fun ds J fr1 H1 B1 R1 st1 e1 ok hr1 => ?_
  let Pv : Nat → L2.St → Hp → Prop := fun i σ H => ∃ (B : AS) (fr : Fr), RF X.K ec H B fr σ ∧ ItOk X.K H B J ds ∧ forL g mb (ds.drop i) fr = some (r, fr') ∧ Res X.K ec W fr σ B H r fr' (kEnd X.K D)
  refine ⟨fun i m σ H => m = ds.length - i ∧ i ≤ ds.length ∧ Pv i σ H, ⟨ds.length, by simp, Nat.zero_le _, B1, fr1, R1, ok, by simpa using e1, hr1⟩, ?_⟩
  rintro i m σ2 H2 ⟨hm, hi, B2, fr2, R2, ok2, e2, hr2⟩
  obtain ⟨o1, o2, o3⟩ := ok2 H2 B2 .refl R2.BD
  by_cases hlt : i < ds.length
  · refine .inr ⟨o1 i hlt, Pv (i + 1), fun σ' H' q => ⟨ds.length - (i + 1), by omega, rfl, hlt, q⟩, fun x H3 y => ?_⟩
    obtain ⟨sm, d, ed, rd⟩ := o3 i x H3 hlt y
    have ed2 : ds.drop i = d :: ds.drop (i + 1) := by
      rw [List.drop_eq_getElem_cons hlt]
      rw [List.getElem?_eq_getElem hlt] at ed
      cases ed
      rfl
    rw [ed2] at e2
    unfold forL at e2
    have R3 := R2.ext sm
    have st3 : Step fr2 σ2 B2 H2 fr2 σ2 B2 H3 := .ext sm
    have hr3 := hr2.after R2 st3
    have ok3 := ok2.kp (st3.kp R2)
    split at e2
    · cases e2
    · rename_i fr4 qg
      refine s2 σ2 H3 B2 fr2 d x fr4 _ R3 rd qg fun σ4 R4 st4 _ => ?_
      have hr4 := hr3.after R3 st4
      have ok4 := ok3.kp (st4.kp R3)
      split at e2
      · rename_i fr5 qb
        exact s3 σ4 H3 B2 fr4 (.ok .nx) fr5 _ R4 qb fun σ5 H5 B5 st5 R5 => ⟨B5, fr5, R5, ok4.kp (st5.kp R4), e2, hr4.after R4 st5⟩
      · rename_i fr5 qb
        exact s3 σ4 H3 B2 fr4 (.ok .ct) fr5 _ R4 qb fun σ5 H5 B5 st5 R5 => ⟨B5, fr5, R5, ok4.kp (st5.kp R4), e2, hr4.after R4 st5⟩
      · rename_i fr5 qb
        cases e2
        exact s3 σ4 H3 B2 fr4 (.ok .bk) _ _ R4 qb fun σ5 H5 B5 st5 R5 => hr4 σ5 H5 B5 st5 R5
      · rename_i d' fr5 qb
        cases e2
        exact s3 σ4 H3 B2 fr4 (.ok (.rt d')) _ _ R4 qb fun σ5 H5 B5 st5 R5 => hr4 σ5 H5 B5 st5 R5
      · rename_i x' fr5 qb
        cases e2
        exact s3 σ4 H3 B2 fr4 (.error x') _ _ R4 qb hr4
      · cases e2
  · have e3 : i = ds.length := by omega
    subst e3
    rw [List.drop_length] at e2
    cases e2
    exact .inl ⟨o2 _ (Nat.le_refl _), hr2 σ2 H2 B2 .refl R2⟩

/-! ### comprehensions -/
def wipeF (fr : Fr) : List Nat → Fr
  | [] => fr
  | v :: vs => (wipeF fr vs).set v .no
def restF (fr0 fr : Fr) : List Nat → Fr
  | [] => fr
  | v :: vs => (restF fr0 fr vs).set v (match fr0[v]? with | some (.fz d) => .fz d | _ => .no)
theorem set_no (R : RF K ec H B fr σ) (i : Nat) (v : Option V) : Step fr σ B H (fr.set i .no) (σ.set i v) B H ∧ RF K ec H B (fr.set i .no) (σ.set i v) := by
  have wr : ∀ {j l d' b}, (fr.set i .no)[j]? = some (SD.ow l d') → (σ.set i v)[j]? = some (some (V.ref b)) → fr[j]? = some (SD.ow l d') ∧ σ[j]? = some (some (V.ref b)) := fun {j l d' b} h1 h2 => by
    rcases get_set h1 with ⟨_, z⟩ | ⟨ne, z⟩
    · cases z
    · rcases st_get h2 with ⟨e, _⟩ | ⟨_, z2⟩
      · exact absurd e ne
      · exact ⟨z, z2⟩
  refine ⟨⟨fun b o e _ _ => e, fun b h _ => h, fun b h => .inl h, fun b ⟨j, l, d', h1, h2⟩ => ?_, fun b o e nt => ⟨o, e, nt⟩, fun j d' z => ?_⟩, ⟨?_, fun j d' z => ?_, fun j l d' z => ?_, fun j k l l' d1 d2 a z1 z2 z3 z4 => ?_, R.bdom, R.tabs⟩⟩
  · obtain ⟨q1, q2⟩ := wr h1 h2
    exact .inl ⟨j, l, d', q1, q2⟩
  · rcases get_set z with ⟨_, z⟩ | ⟨ne, z⟩
    · cases z
    · exact ⟨⟨d', z⟩, List.getElem?_set_ne (Ne.symm ne)⟩
  · rw [List.length_set, List.length_set]; exact R.len
  · rcases get_set z with ⟨_, z⟩ | ⟨ne, z⟩
    · cases z
    · obtain ⟨w, h1, h2⟩ := R.fz j d' z
      exact ⟨w, by rw [List.getElem?_set_ne (Ne.symm ne)]; exact h1, h2⟩
  · rcases get_set z with ⟨_, z⟩ | ⟨ne, z⟩
    · cases z
    · obtain ⟨w, h1, h2⟩ := R.ow j l d' z
      exact ⟨w, by rw [List.getElem?_set_ne (Ne.symm ne)]; exact h1, h2⟩
  · exact R.dis j k l l' d1 d2 a (wr z1 z3).1 (wr z2 z4).1 (wr z1 z3).2 (wr z2 z4).2
theorem wipe_ok (R : RF K ec H B fr σ) : ∀ vs : List Nat, Step fr σ B H (wipeF fr vs) (wipe σ vs) B H ∧ RF K ec H B (wipeF fr vs) (wipe σ vs)
  | [] => ⟨.refl, R⟩
  | v :: vs => by
    obtain ⟨s1, R1⟩ := wipe_ok R vs
    obtain ⟨s2, R2⟩ := set_no R1 v none
    exact ⟨s1.trans R s2, R2⟩
theorem wipe_off {σ : L2.St} {j : Nat} : ∀ {vs : List Nat}, j ∉ vs → (wipe σ vs)[j]? = σ[j]?
  | [], _ => rfl
  | v :: vs, h => by
    unfold wipe
    rw [List.getElem?_set_ne (fun (e : v = j) => h (by rw [e]; exact List.mem_cons_self))]
    exact wipe_off fun z => h (List.mem_cons_of_mem _ z)
theorem wipe_get {σ : L2.St} {j : Nat} : ∀ {vs : List Nat}, j ∈ vs → j < σ.length → (wipe σ vs)[j]? = some none
  | v :: vs, h, hl => by
    unfold wipe
    by_cases e : v = j
    · subst e
      exact List.getElem?_set_self (by rw [wipe_length]; exact hl)
    · rw [List.getElem?_set_ne e]
      exact wipe_get ((List.mem_cons.mp h).resolve_left fun z => e z.symm) hl
theorem wipe_same {σ1 σ2 : L2.St} {vs vs' : List Nat} (o : Off vs' σ1 σ2) (hs : ∀ i ∈ vs', i ∈ vs) : wipe σ2 vs = wipe σ1 vs := by
  have hl := o.1.symm
  refine List.ext_getElem? fun j => ?_
  by_cases h : j ∈ vs
  · by_cases q : j < σ1.length
    · rw [wipe_get h q, wipe_get h (hl ▸ q)]
    · rw [List.getElem?_eq_none (by rw [wipe_length, ← hl]; exact Nat.le_of_not_lt q), List.getElem?_eq_none (by rw [wipe_length]; exact Nat.le_of_not_lt q)]
  · rw [wipe_off h, wipe_off h]
    exact o.2 j fun z => h (hs j z)
theorem wipe_wipe {σ : L2.St} {vs : List Nat} : wipe (wipe σ vs) vs = wipe σ vs :=
  wipe_same (vs' := vs) ⟨by rw [wipe_length], fun j h => wipe_off h⟩ fun _ h => h
/-- from the wiped frame at σ w back to σ: the slots vs as they were -/
theorem rest_ok {frE : Fr} (R0 : RF K ec H B fr σ) (k : Kp B H B' H') (R : RF K ec H' B' frE σ1) (hl : σ1.length = σ.length) :
    ∀ ws : List Nat, ∃ σ2, RF K ec H' B' (restF fr frE ws) σ2 ∧ Step frE σ1 B' H' (restF fr frE ws) σ2 B' H' ∧ σ2.length = σ.length ∧ ∀ (j : Nat), (j ∈ ws ∨ σ1[j]? = σ[j]?) → σ2[j]? = σ[j]?
  | [] => ⟨σ1, R, .refl, hl, fun j h => h.elim (fun z => nomatch z) id⟩
  | v :: ws => by
    obtain ⟨σ2, R2, s2, l2, o2⟩ := rest_ok R0 k R hl ws
    have fin : ∀ (x : Option V), σ[v]? = some x → ∀ (j : Nat), (j ∈ v :: ws ∨ σ1[j]? = σ[j]?) → (σ2.set v x)[j]? = σ[j]? := fun x hx j h => by
      by_cases e : v = j
      · subst e
        rw [List.getElem?_set_self (by
          have : v < σ.length := by
            by_cases q : v < σ.length
            · exact q
            · rw [List.getElem?_eq_none (Nat.le_of_not_lt q)] at hx; cases hx
          rw [l2]; exact this), hx]
      · rw [List.getElem?_set_ne e]
        exact o2 j (h.imp (fun z => (List.mem_cons.mp z).resolve_left fun q => e q.symm) id)
    unfold restF
    by_cases hv : v < σ.length
    · have hx : σ[v]? = some σ[v] := List.getElem?_eq_getElem hv
      split
      · rename_i d q
        obtain ⟨w, h1, h2⟩ := R0.fz v d q
        obtain ⟨s3, R3⟩ := set_fz R2 v (h2.kp k)
        exact ⟨_, R3, s2.trans R s3, by rw [List.length_set]; exact l2, fin (some w) h1⟩
      · obtain ⟨s3, R3⟩ := set_no R2 v σ[v]
        exact ⟨_, R3, s2.trans R s3, by rw [List.length_set]; exact l2, fin _ hx⟩
    · have hn : fr[v]? = none := List.getElem?_eq_none (by rw [R0.len]; exact Nat.le_of_not_lt hv)
      rw [hn]
      obtain ⟨s3, R3⟩ := set_no R2 v none
      have es : σ2.set v none = σ2 := List.set_eq_of_length_le (by rw [l2]; exact Nat.le_of_not_lt hv)
      rw [es] at s3 R3
      refine ⟨σ2, R3, s2.trans R s3, l2, fun j h => ?_⟩
      by_cases e : v = j
      · subst e
        rw [List.getElem?_eq_none (by rw [l2]; exact Nat.le_of_not_lt hv), List.getElem?_eq_none (Nat.le_of_not_lt hv)]
      · exact o2 j (h.imp (fun z => (List.mem_cons.mp z).resolve_left fun q => e q.symm) id)
def lcL (vs : List Nat) (g : G) (n : M Bool) (m : M PyData) : List PyData → List PyData → M PyData
  | [], acc, fr => some (.ok (.list acc), fr)
  | d :: ds, acc, fr => match g d fr with
    | none => none
    | some fr1 => match n fr1 with
      | some (.ok true, fr2) => (match m fr2 with
        | some (.ok y, fr3) => if acc.length < sizeLine then lcL vs g n m ds (acc ++ [y]) (wipeF fr3 vs) else none
        | _ => none)
      | some (.ok false, fr2) => lcL vs g n m ds acc (wipeF fr2 vs)
      | _ => none
def mLc (vs : List Nat) (items : M (List PyData)) (g : G) (n : M Bool) (m : M PyData) : M PyData := items.bind fun ds => fun fr => match lcL vs g n m ds [] (wipeF fr vs) with
  | some (r, frE) => some (r, restF fr frE vs)
  | none => none
/-- an owned object that the frame does not name is changed -/
theorem out_ok {a : Addr} {o : HO} {xs : List V} (R : RF K ec H B fr σ) (ho : NT o) (hL : H a = some (.lst xs)) (hB : B a) (nw : ¬ Wr fr σ a) : RF K ec (upd H a o) B fr σ ∧ Kp B H B (upd H a o) := by
  have kp : Kp B H B (upd H a o) := ⟨fun b u e _ n => by rw [upd_ne (fun (z : b = a) => n (z.symm ▸ hB))]; exact e, fun b u e _ n => n⟩
  refine ⟨⟨R.len, fun i d h => R.kp_fz kp i d h, fun i l d h => ?_, R.dis, fun b hb => ?_, ?_⟩, kp⟩
  · obtain ⟨c, h1, h2, h3⟩ := R.ow i l d h
    have nc : c ≠ a := fun e => nw ⟨i, l, d, h, e ▸ h1⟩
    exact ⟨c, h1, h2, h3.kp kp fun u e _ => by rw [upd_ne nc]; exact e⟩
  · by_cases e : b = a
    · subst e; exact ⟨_, upd_same, ho⟩
    · obtain ⟨u, e1, nt⟩ := R.bdom b hb
      exact ⟨u, by rw [upd_ne e]; exact e1, nt⟩
  · refine R.tabs.mono fun b u e n1 => ?_
    rw [upd_ne (fun z => ?_)]
    · exact e
    · subst z
      rw [hL] at e
      exact n1 xs (Option.some.inj e).symm
theorem spT_yes : Spc K ec W rlT tYes (M.pure true) := fun σ H B fr r fr' Q R e h => by
  cases e
  exact h σ H B .refl R rfl true rfl
abbrev E0' : XK := fun _ _ _ => False
theorem sp_lc {vs vs' : List Nat} {ti : TI} {tg : TG} {tt : TT} {te : TE} {mi : M (List PyData)} {g : G} {n : M Bool} {m : M PyData} (hi : Spc K ec W (rlI K) ti mi) (hg : SpG K ec vs' tg g) (ht : Spc K ec E0' rlT tt n) (he : Spc K ec E0' (rlE K) te m) (hsub : ∀ i ∈ vs', i ∈ vs) :
    Spc K ec W (rlN K) (tLc ti tg tt te vs) (mLc vs mi g n m) := by
  intro σ H B fr r fr' Q R e hr
  rcases M.bind_some e with ⟨ds, fr1, e1, e2⟩ | ⟨x, e1, rfl⟩
  rotate_left
  · exact hi σ H B fr (.error x) fr' _ R e1 hr
  refine hi σ H B fr (.ok ds) fr1 _ R e1 ?_
  intro σ1 H1 B1 st1 R1 es J ok
  subst es
  intro D hD
  split at e2
  rotate_left
  · cases e2
  rename_i rr frE eL
  cases e2
  -- the new list at D joins B
  obtain ⟨j1, j2, j3, j4⟩ := join (d := .list []) R1 hD (EV.Same.new (o := .lst []) hD) (.lst upd_same .nil)
  obtain ⟨w1, w2⟩ := wipe_ok j2 vs
  have okD : ItOk K (upd H1 D (.lst [])) (fun b => B1 b ∨ b = D) J ds := ok.kp (Kp.join hD (EV.Same.new hD))
  have nwD : ¬ Wr (wipeF fr1 vs) (wipe σ1 vs) D := fun w => (w1.wn D w).elim j4 fun z => z _ upd_same nt_lst
  let Pv : Nat → Hp → Prop := fun i H => ∃ (B : AS) (fr : Fr) (acc : List PyData) (av : List V), RF K ec H B fr (wipe σ1 vs) ∧ Step fr1 σ1 B1 H1 fr (wipe σ1 vs) B H ∧
    ItOk K H B J ds ∧ B D ∧ ¬ Wr fr (wipe σ1 vs) D ∧ H D = some (.lst av) ∧ RDs K H B acc av ∧ lcL vs g n m (ds.drop i) acc fr = some (r, frE)
  refine ⟨fun i m H => m = ds.length - i ∧ i ≤ ds.length ∧ Pv i H, ⟨ds.length, by simp, Nat.zero_le _, _, _, [], [], w2, j1.trans R1 w1, okD, .inr rfl, nwD, upd_same, .nil, by simpa using eL⟩, ?_⟩
  rintro i mm H2 ⟨hm, hle, B2, fr2, acc, av, R2, st2, ok2, hB2, nw2, hD2, ra, eL2⟩
  obtain ⟨o1, o2, o3⟩ := ok2 H2 B2 .refl R2.BD
  by_cases hlt : i < ds.length
  · refine .inr ⟨o1 i hlt, Pv (i + 1), fun H' q => ⟨ds.length - (i + 1), by omega, rfl, hlt, q⟩, fun x H3 y => ?_⟩
    obtain ⟨sm, d, ed, rd⟩ := o3 i x H3 hlt y
    have ed2 : ds.drop i = d :: ds.drop (i + 1) := by
      rw [List.drop_eq_getElem_cons hlt]
      rw [List.getElem?_eq_getElem hlt] at ed
      cases ed
      rfl
    rw [ed2] at eL2
    unfold lcL at eL2
    have R3 := R2.ext sm
    have st3 : Step fr2 (wipe σ1 vs) B2 H2 fr2 (wipe σ1 vs) B2 H3 := .ext sm
    split at eL2
    · cases eL2
    · rename_i fr4 qg
      refine hg (wipe σ1 vs) H3 B2 fr2 d x fr4 _ R3 rd qg fun σ4 R4 st4 off => ?_
      have ew : wipe σ4 vs = wipe σ1 vs := by rw [wipe_same off hsub, wipe_wipe]
      have s24 : Step fr2 (wipe σ1 vs) B2 H2 fr4 σ4 B2 H3 := st3.trans R2 st4
      refine ⟨ew, ?_⟩
      -- behind a turn: D is not the frame's
      have fin : ∀ {fr5 : Fr} {H5 : Hp} {B5 : AS}, Step fr4 σ4 B2 H3 fr5 σ4 B5 H5 → RF K ec H5 B5 fr5 σ4 → B5 D ∧ ¬ Wr fr5 σ4 D ∧ H5 D = some (.lst av) ∧ RDs K H5 B5 acc av ∧ Step fr1 σ1 B1 H1 fr5 σ4 B5 H5 ∧ ItOk K H5 B5 J ds := fun {fr5 H5 B5} s5 R5 => by
        have s25 := s24.trans R2 s5
        have k := s25.kp R2
        refine ⟨s25.bk D hB2 nw2, fun w => ?_, s25.keep D _ hD2 nt_lst nw2, ra.kp k, st2.trans R1 s25, ok2.kp k⟩
        rcases s25.wn D w with z | z
        · exact nw2 z
        · exact z _ hD2 nt_lst
      split at eL2
      · rename_i fr5 qn
        refine ht σ4 H3 B2 fr4 (.ok true) fr5 _ R4 qn ?_
        intro σ5 H5 B5 st5 R5 es5 b eb
        subst es5 eb
        refine iteT ?_
        split at eL2
        · rename_i y' fr6 qm
          split at eL2
          · rename_i hsz
            refine he σ5 H5 B5 fr5 (.ok y') fr6 _ R5 qm ?_
            intro σ6 H6 B6 st6 R6 es6 v rv
            subst es6
            obtain ⟨f1, f2, f3, f4, f5, f6⟩ := fin (st5.trans R4 st6) R6
            refine ⟨av, f3, by rw [← f4.length]; exact hsz, ?_⟩
            obtain ⟨R7, k7⟩ := out_ok (o := .lst (av ++ [v])) R6 nt_lst f3 f1 f2
            have s7 : Step fr6 σ6 B6 H6 fr6 σ6 B6 (upd H6 D (.lst (av ++ [v]))) → True := fun _ => trivial
            obtain ⟨w3, w4⟩ := wipe_ok R7 vs
            rw [ew] at w3 w4
            have hs8 : Step fr1 σ1 B1 H1 fr6 σ6 B6 (upd H6 D (.lst (av ++ [v]))) := ⟨fun b o h nt nw => by
                have q := f5.keep b o h nt nw
                have : b ≠ D := fun z => by subst z; rw [hD] at h; cases h
                rw [upd_ne this]; exact q, f5.bk, f5.bn, f5.wn, fun b o e nt => by
                by_cases z : b = D
                · subst z; exact ⟨_, upd_same, nt_lst⟩
                · rw [upd_ne z]; exact f5.dm b o e nt, f5.ln⟩
            refine ⟨B6, wipeF fr6 vs, acc ++ [y'], av ++ [v], w4, hs8.trans R1 w3, f6.kp k7, f1, fun w => ?_, upd_same, (f4.kp k7).append (.cons (rv.kp k7) .nil), eL2⟩
            rcases w3.wn D w with z | z
            · exact f2 z
            · exact z _ upd_same nt_lst
          · cases eL2
        · cases eL2
      · rename_i fr5 qn
        refine ht σ4 H3 B2 fr4 (.ok false) fr5 _ R4 qn ?_
        intro σ5 H5 B5 st5 R5 es5 b eb
        subst es5 eb
        refine iteF ?_
        obtain ⟨f1, f2, f3, f4, f5, f6⟩ := fin st5 R5
        obtain ⟨w3, w4⟩ := wipe_ok R5 vs
        rw [ew] at w3 w4
        refine ⟨B5, wipeF fr5 vs, acc, av, w4, f5.trans R1 w3, f6, f1, fun w => ?_, f3, f4, eL2⟩
        rcases w3.wn D w with z | z
        · exact f2 z
        · exact z _ f3 nt_lst
      · cases eL2
  · have e3 : i = ds.length := by omega
    subst e3
    rw [List.drop_length] at eL2
    cases eL2
    refine .inl ⟨o2 _ (Nat.le_refl _), ?_⟩
    obtain ⟨σ9, R9, s9, l9, o9⟩ := rest_ok R1 (st2.kp R1) R2 (wipe_length σ1 vs) vs
    have e9 : σ9 = σ1 := List.ext_getElem? fun j => o9 j (by
      by_cases q : j ∈ vs
      · exact .inl q
      · exact .inr (wipe_off q))
    subst e9
    refine hr σ9 H2 B2 (st1.trans R (st2.trans R1 s9)) R9 rfl _ ⟨D, rfl, ⟨hB2, .lst hD2 ra⟩, fun w => ?_, st1.back (fq_none hD)⟩
    rcases s9.wn D w with z | z
    · exact nw2 z
    · exact z _ hD2 nt_lst
end EV
end

section
set_option Elab.async false
set_option linter.all false
set_option maxRecDepth 100000
/-! Ev5: comprehensions in the text, stores, calls of defs, defs. -/
namespace EV
open PySem PySem.Spec PyProof.Rows L2
variable {K : PySem.W.Frag} {H H1 H2 H' : Hp} {B B1 B2 B' : AS} {fr fr1 fr2 fr' : Fr} {σ σ1 σ2 σ' : L2.St} {ec : EC} {W : XK} {X : Cx}

/-! ### comprehensions in the text -/
section
variable {elt tg iter : Expr} {ifs : List Expr} {scope : Scope} {own : List (Str × Nat)} {pos : Pos} {mi : M (List PyData)} {vs' : List Nat} {g : G} {n : M Bool} {m : M PyData}
theorem evTs_nil {X : Cx} : PTs X [] (tOf X.K ec E0' rlT (M.pure true)) := ⟨fun pins s σ H Q I q => pts_nil.run pins s σ H Q I (spT_yes.of q)⟩
theorem evTs_one {X : Cx} {c : Expr} (h : EvT X ec E0' c n) : PTs X [c] (tOf X.K ec E0' rlT n) := pts_one h
theorem evN_lc (hc : X.calm = true) (hN : X.N.Nodup) (hi : EvI X ec W tg iter mi) (ok : BlkOk X.N X.env.scope scope own)
    (hg : ∀ (s : Shared) (H : Hp) (C : Addr) (cl : List (Str × Addr)) (fp : List Addr), EvG (X.blk s H scope (compEnvC scope cl C X.env) fp) ec vs' tg g)
    (ht : ∀ (s : Shared) (H : Hp) (C : Addr) (cl : List (Str × Addr)) (fp : List Addr), PTs (X.blk s H scope (compEnvC scope cl C X.env) fp) ifs (tOf X.K ec E0' rlT n))
    (he : ∀ (s : Shared) (H : Hp) (C : Addr) (cl : List (Str × Addr)) (fp : List Addr), EvE (X.blk s H scope (compEnvC scope cl C X.env) fp) ec E0' elt m)
    (hsub : ∀ i ∈ vs', i ∈ own.map (·.2)) (hs : ∀ x, foldedSetIterable iter X.env x = pure x) :
    EvN X ec W (.ListComp elt [⟨tg, iter, ifs, 0⟩] scope pos) (mLc (own.map (·.2)) mi g n m) :=
  .mk (pe_lc (g := tOfG X.K ec vs' g) (tt := tOf X.K ec E0' rlT n) (te := tOf X.K ec E0' (rlE X.K) m) hc hN hi ok hg ht he hs) (sp_lc tOf_sp tOfG_sp tOf_sp tOf_sp hsub)
/-- name = [..], the name a local: the list is its own -/
theorem ps_lcset {i : Nat} {y : Str} {py spos : Pos} (hc : X.calm = true) (hN : X.N.Nodup) (hy : X.N[i]? = some y) (hyl : X.env.scope.names.lookup y = some .local)
    (hsw : swapsWith (.ListComp elt [⟨tg, iter, ifs, 0⟩] scope pos) (some (.Name y py)) spos.line X.env = pure true) (hi : EvI X ec W tg iter mi) (ok : BlkOk X.N X.env.scope scope own)
    (hg : ∀ (s : Shared) (H : Hp) (C : Addr) (cl : List (Str × Addr)) (fp : List Addr), EvG (X.blk s H scope (compEnvC scope cl C X.env) fp) ec vs' tg g)
    (ht : ∀ (s : Shared) (H : Hp) (C : Addr) (cl : List (Str × Addr)) (fp : List Addr), PTs (X.blk s H scope (compEnvC scope cl C X.env) fp) ifs (tOf X.K ec E0' rlT n))
    (he : ∀ (s : Shared) (H : Hp) (C : Addr) (cl : List (Str × Addr)) (fp : List Addr), EvE (X.blk s H scope (compEnvC scope cl C X.env) fp) ec E0' elt m)
    (hsub : ∀ i ∈ vs', i ∈ own.map (·.2)) (hs : ∀ x, foldedSetIterable iter X.env x = pure x) :
    EvS X ec W (.Assign [.Name y py] (.ListComp elt [⟨tg, iter, ifs, 0⟩] scope pos) spos) (sOwn (mLc (own.map (·.2)) mi g n m) i) :=
  .mk (ps_setLc (g := tOfG X.K ec vs' g) (tt := tOf X.K ec E0' rlT n) (te := tOf X.K ec E0' (rlE X.K) m) hc hN hy hyl hsw hi ok hg ht he hs) (spS_own (sp_lc tOf_sp tOfG_sp tOf_sp tOf_sp hsub))
end

/-! ### stores into what the frame holds -/
/-- the slot is there -/
def chk {α : Type} (i : Nat) (m : M α) : M α := fun fr => match rsv fr (.inr i) with
  | some _ => m fr
  | none => none
theorem chk_some {α : Type} {i : Nat} {m : M α} {r : Except Xn α} (R : RF K ec H B fr σ) (h : chk i m fr = some (r, fr')) : (∃ v, σ[i]? = some (some v)) ∧ m fr = some (r, fr') := by
  unfold chk at h
  split at h
  · rename_i d q
    exact ⟨slot_there R q, h⟩
  · cases h
def sStore (i : Nat) (me mk : M PyData) : MS := me.bind fun d => chk i (mk.bind fun k => fun fr => match fr[i]?, k with
  | some (.ow l (.list ds)), .int z => (match ixN ds.length z with
    | some j => some (.ok .nx, fr.set i (.ow l (.list (ds.set j d))))
    | none => none)
  | _, _ => none)
/-- of an owned list: where it stands -/
theorem RF.owl {i : Nat} {l : Bool} {ds : List PyData} (R : RF K ec H B fr σ) (h : fr[i]? = some (SD.ow l (.list ds))) : ∃ a xs, σ[i]? = some (some (V.ref a)) ∧ B a ∧ H a = some (.lst xs) ∧ RDs K H B ds xs := by
  obtain ⟨a, h1, h2, h3⟩ := R.ow i l _ h
  cases h3 with
  | lst e r => exact ⟨a, _, h1, h2, e, r⟩
theorem Kp.at {a : Addr} {o : HO} (hB : B a) : Kp B H B (upd H a o) := ⟨fun b u e _ n => by rw [upd_ne (fun (z : b = a) => n (z.symm ▸ hB))]; exact e, fun b u e _ n => n⟩
theorem spS_store {i : Nat} {te tk : TE} {me mk : M PyData} (s1 : Spc K ec W (rlE K) te me) (s2 : Spc K ec W (rlE K) tk mk) : SpS K ec W (tAsg te (gSub (tVar i) tk rSetL)) (sStore i me mk) := by
  intro σ H B fr r fr' D R e hr
  refine s1.thn R e hr fun d v fr1 H1 B1 R1 st1 e1 rd hr1 => ?_
  obtain ⟨⟨u, hu⟩, e1⟩ := chk_some R1 e1
  refine ⟨u, hu, ?_⟩
  refine s2.thn R1 e1 hr1 fun k w fr3 H3 B3 R3 st3 e3 rk hr3 => ?_
  split at e3
  · rename_i l ds z q
    split at e3
    · rename_i j hj
      cases e3
      obtain ⟨a, xs, h1, h2, h3, h4⟩ := R3.owl q
      rw [hu] at h1
      cases h1
      cases rk
      refine ⟨a, xs, z, j, rfl, rfl, h3, by rw [← h4.length]; exact hj, ?_⟩
      obtain ⟨s5, R5⟩ := set_in (d' := .list (ds.set j d)) (o := .lst (xs.set j v)) R3 q hu (.lst upd_same ((h4.set (rd.kp (st3.kp R1)) j).kp (Kp.at h2)))
      exact hr3 σ _ B3 s5 R5
    · cases e3
  · cases e3
theorem evS_store {i : Nat} {x : Str} {k e : Expr} {me mk : M PyData} {pos pos' px : Pos} (ho : PE X (.Name x px) (tVar i)) (hk : EvE X ec W k mk) (he : EvE X ec W e me) (hx : PlainIx k)
    (hp : ∀ {te tk : TE}, PE X e te → PE X k tk → PS X (.Assign [.Subscript (.Name x px) k pos'] e pos) (tAsg te (gSub (tVar i) tk rSetL))) : EvS X ec W (.Assign [.Subscript (.Name x px) k pos'] e pos) (sStore i me mk) := by
  obtain ⟨te, p1, s1⟩ := he.out
  obtain ⟨tk, p2, s2⟩ := hk.out
  exact .mk (hp p1 p2) (spS_store s1 s2)
/-- x.append(e) -/
def sApp (i : Nat) (me : M PyData) : MS := chk i (me.bind fun d => fun fr => match fr[i]? with
  | some (.ow l (.list ds)) => if ds.length < sizeLine then some (.ok .nx, fr.set i (.ow l (.list (ds ++ [d])))) else none
  | _ => none)
/-- the list stands at its slot already ahead of the argument -/
def mLstAt (i : Nat) (m : M PyData) : M PyData := fun fr => match fr[i]? with
  | some (.ow _ (.list _)) => m fr
  | _ => none
def sAppend (i : Nat) (me : M PyData) : MS := fun fr => match fr[i]? with
  | some (.ow _ (.list _)) => sApp i me fr
  | _ => none
theorem spS_app {i : Nat} {te : TE} {me : M PyData} (s1 : Spc K ec W (rlE K) te me) : SpS K ec W (tDrop (tBM K "list" rAppend (tVar i) (tCons te tNil))) (sAppend i me) := by
  intro σ H B fr r fr' D R e hr
  unfold sAppend at e
  split at e
  · rename_i l0 ds0 q0
    obtain ⟨⟨u, hu⟩, e1⟩ := chk_some R e
    obtain ⟨a0, xs0, g1, g2, g3, g4⟩ := R.owl q0
    refine ⟨u, hu, ?_⟩
    rw [hu] at g1
    cases g1
    refine ⟨.inl ⟨rfl, _, SqL.of g3⟩, ?_⟩
    refine s1.thn R e1 hr fun d v fr3 H3 B3 R3 st3 e3 rd hr3 => ?_
    split at e3
    · rename_i l ds q
      split at e3
      · rename_i hl
        cases e3
        obtain ⟨a, xs, h1, h2, h3, h4⟩ := R3.owl q
        rw [hu] at h1
        cases h1
        refine ⟨a0, xs, v, rfl, rfl, h3, by rw [← h4.length]; exact hl, ?_⟩
        obtain ⟨s5, R5⟩ := set_in (d' := .list (ds ++ [d])) (o := .lst (xs ++ [v])) R3 q hu (.lst upd_same ((h4.append (.cons rd .nil)).kp (Kp.at h2)))
        exact hr3 σ _ B3 s5 R5
      · cases e3
    · cases e3
  · cases e
theorem evS_append {i : Nat} {x : Str} {e : Expr} {me : M PyData} {pos cpos apos px : Pos} (he : EvE X ec W e me)
    (hp : ∀ {te : TE}, PE X e te → PS X (.Expr (.Call (.Attribute (.Name x px) "append" apos) [e] [] cpos) pos) (tDrop (tBM X.K "list" rAppend (tVar i) (tCons te tNil)))) :
    EvS X ec W (.Expr (.Call (.Attribute (.Name x px) "append" apos) [e] [] cpos) pos) (sAppend i me) := by
  obtain ⟨te, p1, s1⟩ := he.out
  exact .mk (hp p1) (spS_app s1)

/-- a def keeps sp wherever nothing is being shown (repr) around -/
structure FnG (P : Program) (w : World) (K : PySem.W.Frag) (mg : Str → Option Value) (base : Heap) (k : Nat) (f : Addr) (fd : FuncData) (ps : List Str) (sp : Sp) : Prop where
  len : ∀ vs H Q E, sp vs H Q E → vs.length = ps.length
  go : ∀ (A : Around) (outer : List Env) (s : Shared) (H : Hp) (args : Args) (us : List Value) (vs : List V) (Q : VK) (E : XK), Room k A → A.guards = some [] → Env0 P w K mg base A outer s H → BindsTo s fd args (ps.zip us) → Vals vs us → sp vs H Q E →
    codeAny (model P w) A (.call (.ref f) args) (CR (L2.CX P w) outer P w H s Q E) s
theorem FnG.mono {P : Program} {w : World} {K : PySem.W.Frag} {mg : Str → Option Value} {base : Heap} {j k : Nat} {f : Addr} {fd : FuncData} {ps : List Str} {sp : Sp} (F : FnG P w K mg base j f fd ps sp) (h : j ≤ k) : FnG P w K mg base k f fd ps sp :=
  ⟨F.len, fun A outer s H args us vs Q E hr => F.go A outer s H args us vs Q E (hr.mono h)⟩
/-- f(e, ..) -/
theorem pe_callG {X : Cx} {k : Nat} {f : Addr} {fd : FuncData} {ps : List Str} {sp : Sp} {E : XK} {x : Str} {p pos : Pos} {e : Expr} {es : List Expr} {t : TA} (F : FnG X.prog X.w X.K X.mg X.base k f fd ps sp) (hr : Room k X.A) (hG : X.A.guards = some []) (hg : Gl X x) (hm : X.mg x = some (.ref f)) (hk : PySem.W.keepIn X.K (.ref f) = true) (hb : L2.Binds X.K fd ps [])
    (hx : Passes (L2.CX X.prog X.w) X E) (ha : PA X (e :: es) t) (hdb : (x == ("__debug__" : Str)) = false) (he : starEach (e :: es) X.env = (false, eval e X.env) :: starEach es X.env) (hpl : (backTo pos (starEach es X.env)).any (·.1) = false) :
    PE X (.Call (.Name x p) (e :: es) [] pos) (tCall sp [] E t) := by
  refine ⟨fun pins s σ H Q I h => wpAny_Call_Name_kw (ld_glob I hg hm ?_ hdb)⟩
  refine PySem.W.callWith_K (h₀ := X.base) I.ok.mod.kin hk (thn (ha.run pos pins s σ H _ I h) fun us s1 ⟨vs, H1, I1, rv, q⟩ => ⟨I1.kIn, ?_⟩) he hpl
  have q' : sp vs H1 Q E := by have z : sp (vs ++ []) H1 Q E := q; rwa [List.append_nil] at z
  have hl : (us ++ ([] : List Value)).length = ps.length := by rw [List.append_nil, ← rv.length]; exact F.len _ _ _ _ q'
  have bt := hb s1 us I1.kIn hl
  rw [List.append_nil] at bt
  refine wpAny_call (codeAny_mono (F.go X.A X.stack s1 H1 ⟨us, []⟩ us vs Q E hr hG I1.env0 bt rv q') fun r s' hq => ?_)
  match r, hq with
  | .error e, hq => exact hx pins σ H1 s1 e s' I1 hq
  | .ok (.ret u), hq => exact I1.after hq
  | .ok .next, hq => exact hq.elim
  | .ok .brk, hq => exact hq.elim
  | .ok .cont, hq => exact hq.elim
abbrev BN (H : Hp) (B : AS) : Prop := ∀ a, B a → ∃ o, H a = some o ∧ NT o
/-! ### what a def promises, by a function on data -/
def sameKd (K : PySem.W.Frag) (ec : EC) (B : AS) (H : Hp) (r : Except Xn PyData) (Q : VK) (E : XK) : Prop := match r with
  | .ok d => ∀ v H', Sm ec.tb H H' → RD K H' B d v → Q v H'
  | .error x => ∀ dx v H', Sm ec.tb H H' → H' dx = some (.xd [(("value" : Str), v)]) → RD K H' B x.2 v → E (.ref (ec.ad x.1)) (some dx) H'
def spP (K : PySem.W.Frag) (ec : EC) (n : Nat) (F : List PyData → Option (Except Xn PyData)) : Sp := fun vs H Q E =>
  ∃ (B : AS) (ds : List PyData) (r : Except Xn PyData), LamX.Tabs ec.tb H ∧ BN H B ∧ RDs K H B ds vs ∧ ds.length = n ∧ F ds = some r ∧ sameKd K ec B H r Q E
def mCall (F : List PyData → Option (Except Xn PyData)) (as : M (List Opd)) : M PyData := as.bind fun xs => fun fr => match inls xs with
  | some ds => (match F ds with
    | some r => some (r, fr)
    | none => none)
  | none => none
theorem sp_call {n : Nat} {F : List PyData → Option (Except Xn PyData)} {ta : TA} {ma : M (List Opd)} (hl : ∀ ds r, F ds = some r → ds.length = n) (ha : Spc K ec W (rlA K) ta ma) : Spc K ec W (rlE K) (tCall (spP K ec n F) [] W ta) (mCall F ma) := by
  intro σ H B fr r fr' Q R e hr
  refine ha.thn R e hr fun xs vs fr1 H1 B1 R1 s1 e1 r1 hr1 => ?_
  split at e1
  · rename_i ds q
    split at e1
    · rename_i r' qF
      cases e1
      refine ⟨B1, ds, r, R1.tabs, R1.bdom, by rw [List.append_nil]; exact inls_rd r1 q, hl _ _ qF, qF, ?_⟩
      cases r with
      | ok d => exact fun v H' sm rd => hr1 σ H' B1 (.exs sm) (R1.exs sm) rfl v rd
      | error x => exact fun dx v H' sm ex rd => hr1 σ H' B1 dx v (.exs sm) (R1.exs sm) ex rd
    · cases e1
  · cases e1
section
variable {x : Str} {e : Expr} {es : List Expr} {p pos : Pos} {k n : Nat} {f : Addr} {fd : FuncData} {ps : List Str} {F : List PyData → Option (Except Xn PyData)} {mas : M (List Opd)}
theorem ev_call (Fo : FnG X.prog X.w X.K X.mg X.base k f fd ps (spP X.K ec n F)) (hl : ∀ ds r, F ds = some r → ds.length = n) (hr : Room k X.A) (hG : X.A.guards = some []) (hg : Gl X x) (hm : X.mg x = some (.ref f)) (hk : PySem.W.keepIn X.K (.ref f) = true) (hb : Binds X.K fd ps []) (hx : Passes (L2.CX X.prog X.w) X W)
    (ha : EvA X ec W (e :: es) mas) (hdb : (x == ("__debug__" : Str)) = false) (he : starEach (e :: es) X.env = (false, eval e X.env) :: starEach es X.env) (hpl : (backTo pos (starEach es X.env)).any (·.1) = false) :
    EvE X ec W (.Call (.Name x p) (e :: es) [] pos) (mCall F mas) :=
  let ⟨_, h1, h2⟩ := ha.out; .mk (pe_callG Fo hr hG hg hm hk hb hx h1 hdb he hpl) (sp_call hl h2)
end

/-! ### a def by its body -/
/-- what the body makes of the arguments: N names in all -/
def runP (n N : Nat) (m : MS) (ds : List PyData) : Option (Except Xn PyData) := if ds.length = n then (match m (ds.map SD.fz ++ List.replicate (N - n) .no) with
  | some (.ok (.rt d), _) => some (.ok d)
  | some (.ok .nx, _) => some (.ok .none)
  | some (.error x, _) => some (.error x)
  | _ => none) else none
theorem runP_len {n N : Nat} {m : MS} {ds : List PyData} {r : Except Xn PyData} (h : runP n N m ds = some r) : ds.length = n := by
  unfold runP at h
  split at h
  · rename_i q; exact q
  · cases h
theorem start_rf {ds : List PyData} {vs : List V} (tb : LamX.Tabs ec.tb H) (bd : BN H B) (r : RDs K H B ds vs) (k : Nat) : RF K ec H B (ds.map SD.fz ++ List.replicate k SD.no) (vs.map some ++ List.replicate k none) := by
  have ge : ∀ (i : Nat) (s : SD), (ds.map SD.fz ++ List.replicate k SD.no)[i]? = some s → s = .no ∨ ∃ d, s = .fz d ∧ ds[i]? = some d := fun i s h => by
    rw [List.getElem?_append] at h
    split at h
    · rw [List.getElem?_map] at h
      cases q : ds[i]? with
      | none => rw [q] at h; cases h
      | some d => rw [q] at h; cases h; exact .inr ⟨d, rfl, rfl⟩
    · rw [List.getElem?_replicate] at h
      split at h
      · cases h; exact .inl rfl
      · cases h
  refine ⟨by simp [r.length], fun i d h => ?_, fun i l d h => ?_, fun i j l l' d d' a h => ?_, bd, tb⟩
  · rcases ge i _ h with z | ⟨d', z, q⟩
    · cases z
    · cases z
      obtain ⟨v, h1, h2⟩ := r.get q
      refine ⟨v, ?_, h2⟩
      have hi : i < (vs.map some).length := by
        rw [List.length_map]
        exact (List.getElem?_eq_some_iff.mp h1).1
      rw [List.getElem?_append_left hi, List.getElem?_map, h1]
      rfl
  · rcases ge i _ h with z | ⟨d', z, q⟩ <;> cases z
  · rcases ge i _ h with z | ⟨d', z, q⟩ <;> cases z
section
variable {P : Program} {w : World} {mg : Str → Option Value} {base : Heap}
theorem fn_ok {x qual : Str} {st : Stmt} {f : Addr} {fd : FuncData} {N ps : List Str} {k : Nat} {m : MS} (Fu : Fun K x qual st f fd) (S : FnScope N ps (defScope st))
    (hb : ∀ (cdv : Value) (A : Around) (outer : List Env) (s : Shared) (H : Hp) (E : XK), Room k (A.deeper (envOfC qual (defScope st) s.heap.objs.size f cdv)) → A.guards = some [] →
      EvSs (cxOf (L2.CX P w) P w K mg base N qual (defScope st) f cdv A outer s H E) ec E (defBody st) m) :
    FnG P w K mg base (k + 1) f fd ps (spP K ec ps.length (runP ps.length N.length m)) := by
  have len : ∀ vs H Q E, spP K ec ps.length (runP ps.length N.length m) vs H Q E → vs.length = ps.length := fun vs H Q E h => by
    obtain ⟨B, ds, r, _, _, h1, h2, _⟩ := h
    rw [← h1.length]; exact h2
  obtain ⟨oc, od, kV, doc, pm, an, cdv, ct, osl, rfl, lk, hcd⟩ := Fu.ex
  refine ⟨len, fun A outer s H args us vs Q E hr hG e0 hbt rv h => LamX.run_ofS lk hcd S hr e0 hbt rv (len _ _ _ _ h) fun hr' => ?_⟩
  · obtain ⟨B, ds, r, tb, bd, h1, h2, h3, h4⟩ := h
    obtain ⟨t, p, sp⟩ := (hb cdv A outer s H E hr' hG).out
    refine ⟨t, p, ?_⟩
    unfold runP at h3
    rw [if_pos h2] at h3
    have R := start_rf (K := K) (ec := ec) tb bd h1 (N.length - ps.length)
    have es : L2.start N vs = vs.map some ++ List.replicate (N.length - ps.length) none := by
      unfold L2.start
      rw [← h1.length, h2]
    rw [es]
    have nwr : ∀ b, ¬ Wr (ds.map SD.fz ++ List.replicate (N.length - ps.length) SD.no) (vs.map some ++ List.replicate (N.length - ps.length) none) b := fun b ⟨i, l, d, z, _⟩ => by
      rw [List.getElem?_append] at z
      split at z
      · rw [List.getElem?_map] at z
        cases q : ds[i]? with
        | none => rw [q] at z; cases z
        | some d => rw [q] at z; cases z
      · rw [List.getElem?_replicate] at z
        split at z <;> cases z
    have same : ∀ {fr' σ' B' H'}, Step (ds.map SD.fz ++ List.replicate (N.length - ps.length) SD.no) (vs.map some ++ List.replicate (N.length - ps.length) none) B H fr' σ' B' H' → RF K ec H' B' fr' σ' → Sm ec.tb H H' := fun st R' => ⟨fun b o e nt => st.keep b o e nt (nwr b), R'.tabs⟩
    have weak : ∀ {fr' σ' B' H' d v}, Step (ds.map SD.fz ++ List.replicate (N.length - ps.length) SD.no) (vs.map some ++ List.replicate (N.length - ps.length) none) B H fr' σ' B' H' → RD K H' B' d v → RD K H' B d v := fun st rd =>
      rd.kp ⟨fun _ _ e _ _ => e, fun b o e _ n z => n (st.bk b z (nwr b))⟩
    split at h3
    · rename_i d fr' q
      cases h3
      refine sp _ H B _ _ fr' _ R q ?_
      intro σ' H' B' st R' v rd
      exact h4 v H' (same st R') (weak st rd)
    · rename_i fr' q
      cases h3
      refine sp _ H B _ _ fr' _ R q ?_
      intro σ' H' B' st R'
      exact h4 .non H' (same st R') .non
    · rename_i x fr' q
      cases h3
      refine sp _ H B _ _ fr' _ R q ?_
      intro σ' H' B' dx v st R' ex rd
      exact h4 dx v H' (same st R') ex (weak st rd)
    · cases h3
end
end EV
end

section
set_option Elab.async false
set_option linter.all false
set_option maxRecDepth 100000
set_option maxHeartbeats 2000000
/-! EvExc: own errors over ValueError whose __init__ says super().__init__(value) and keeps the value. -/
namespace EV
open PySem PySem.Spec PyProof.Rows L2
open PySem.W (ksFn ksEnv kxs_mw ks_superObj)
/-- the body of such an __init__ -/
def ivBody (p0 p1 p2 p3 p4 p5 p6 p7 p8 p9 : Pos) : List Stmt :=
  [.Expr (.Call (.Attribute (.Call (.Name "super" p0) [] [] p1) "__init__" p2) [.Name "value" p3] [] p4) p5, .Assign [.Attribute (.Name "self" p6) "value" p7] (.Name "value" p8) p9]
def ivScope : Scope := { kind := .function, names := [(PySem.Str.ofString "self", .local), (PySem.Str.ofString "value", .local), (PySem.Str.ofString "__class__", .free), (PySem.Str.ofString "super", .globalImplicit)], isGenerator := false, isCoroutine := false, more := [] }
/-- what the written part says of such a class at C, of its __init__ at fI -/
structure IvT (P : Program) (K : PySem.W.Frag) (C fI : Addr) (qual : Str) (params : Arguments) (p0 p1 p2 p3 p4 p5 p6 p7 p8 p9 : Pos) (fd : FuncData) : Prop where
  oex : OexC K C
  noV : PySem.W.findIn K (.ref C) "value" = some none
  fn : ∃ (oc : Value) (od : Option Addr) (dV kV doc pm : Value) (an : Option Addr) (cda cc : Addr) (ct : Value) (osl : Array (Option Value)) (cl : Value) (cld : Option Addr) (csl : Array (Option Value)) (ccl : Value) (cdd : Option Addr) (vs : Array Value) (ccs : Array (Option Value)) (file : Str) (tf : Tok) (h2 : 1 < 2),
    fd = ksFn "__init__" qual params (ivBody p0 p1 p2 p3 p4 p5 p6 p7 p8 p9) ivScope dV kV doc pm an (.ref cda) ct cc ∧ K.lookup fI = some ⟨oc, od, .func fd, osl⟩ ∧ PySem.W.codeIn K (.ref cda) qual = true ∧
    K.lookup cc = some ⟨cl, cld, .cell (some (.ref C)), csl⟩ ∧ K.lookup cda = some ⟨ccl, cdd, .fields vs, ccs⟩ ∧ vs[2]? = some (.str file tf) ∧ ((P.main.file : Str) == file) = true
  head : ∃ pp, (params.posonlyargs ++ params.args).head? = some { arg := "self", annotation := none, pos := pp }
  sub : PySem.W.mroIn K C (.ref C) = some true
  subV : PySem.W.subIn K (.ref C) (.type "ValueError") = some true
  sup : PySem.W.ks_superIn K C C "__init__" = some (some (.builtin "ValueError.__init__"))
  third : PySem.W.nsIn K cStatics "thirdparty.any" = some none
  call : ∀ env : Env, ∃ pl : Sem Bool, eval (.Call (.Attribute (.Call (.Name "super" p0) [] [] p1) "__init__" p2) [.Name "value" p3] [] p4) env = (do
    let ov ← attributeBase (.Call (.Name "super" p0) [] [] p1) "__init__" env (eval (.Call (.Name "super" p0) [] [] p1) env)
    standAt p2.atName
    let (f, first) ← holding [ov] (getMethod ov "__init__" pl)
    callWith p4 f first (backTo p4 (starEach [.Name "value" p3] env)) [])
  top : (P.main.scope.names.lookup ("super" : Str)).isSome = false

section
variable {prog : Program} {w : World} {A : Around} {R : Result → Shared → Prop} {s : Shared} {K : PySem.W.Frag} {mg : Str → Option Value} {base : Heap} {C fI : Addr} {qual : Str} {params : Arguments} {p0 p1 p2 p3 p4 p5 p6 p7 p8 p9 : Pos} {fd : FuncData}
theorem ivScope_cell : ∀ x ∈ ivScope.names, x.2 ≠ .cell := by decide +kernel
theorem ivScope_self : ivScope.names.lookup ("self" : Str) = some .local := by decide +kernel
theorem ivScope_value : ivScope.names.lookup ("value" : Str) = some .local := by decide +kernel
theorem ivScope_cls : ivScope.names.lookup ("__class__" : Str) = some .free := by decide +kernel
theorem ivScope_sup : ivScope.names.lookup ("super" : Str) = some .globalImplicit := by decide +kernel
theorem bs_self {a b : Value} : ([(("self" : Str), a), (("value" : Str), b)] : List (Str × Value)).reverse.lookup ("self" : Str) = some a := by
  have h : (("self" : Str) == ("value" : Str)) = false := by decide +kernel
  show List.lookup ("self" : Str) [(("value" : Str), b), (("self" : Str), a)] = some a
  rw [List.lookup_cons, h]
  show List.lookup ("self" : Str) [(("self" : Str), a)] = some a
  rw [List.lookup_cons, beq_self_eq_true]
theorem bs_value {a b : Value} : ([(("self" : Str), a), (("value" : Str), b)] : List (Str × Value)).reverse.lookup ("value" : Str) = some b := by
  show List.lookup ("value" : Str) [(("value" : Str), b), (("self" : Str), a)] = some b
  rw [List.lookup_cons, beq_self_eq_true]
/-- the built-in __init__, bound to the error at x, is called -/
theorem iv_bound {M0 : Around} {E : Value → Shared → Prop} {h : Heap} {g : Array GenState} {d : Drawn} {t : Nat} {os : OsState} {u x C N t0 : Addr} {nm q : Str} {bs bm : List Value} {hdct : Bool} {sn : List Str} {sub : List Value} {ab : Bool} {col : Option Bool} {dd : Option Addr} {k0 k1 k2 k3 k5 : Option Value} {v : Value} {Q : Value → Shared → Prop}
    (hC : h.get? C = some (excClassObj nm q C N bs bm hdct sn sub ab col dd k0 k1 k2 k3 k5 "ValueError.__new__")) (hu : h.get? u = some (kxs_mw "ValueError.__init__" x)) (hx : h.get? x = some (PySem.HandSPX.excO C t0))
    (hq : ∀ h', (∀ b o, b ≠ x → h.get? b = some o → h'.get? b = some o) → h'.get? x = some (PySem.HandSPX.excO C h.objs.size) → Q .none ⟨h', g, d, t, os⟩) :
    wpAny (model prog w) M0 (call (.ref u) [v]) Q E ⟨h, g, d, t, os⟩ := by
  have FB := F.excBase_ValueError
  refine wpAny_call (codeAny_of_tree ?_)
  show wpAny _ M0.in1 (callAny (.ref u) ⟨[v], []⟩) _ _ _
  simp only [callAny]
  refine wpAny_bind (wpAny_load hu ?_)
  have c1 : (Value.type "method-wrapper" == Value.type "method" || Value.type "method-wrapper" == Value.type "builtin_function_or_method" || Value.type "method-wrapper" == Value.type "method-wrapper") = true := by decide
  simp only [kxs_mw, c1, if_true]
  refine PySem.W.KFB.if_so (by decide) (wpAny_bind (PySem.W.check_bound_init FB.toExcCallFacts hC hx rfl (wpAny_bind (wpAny_pure (wpAny_pure ?_)))))
  refine ⟨Code.quiet_builtin _ (by decide +kernel), codeAny_builtin FB.initEntry ?_⟩
  exact PySem.W.exc_init_tree (cls := .ref C) (t0 := t0) (dv := none) (c2 := .none) (c3 := .none) (b4 := .bool false) hx (by rw [sizeLine_eq]; show 1 ≤ 16777216; decide) fun h' k e _ => hq h' k e
theorem refsVE_ref {C : Addr} {bm : List Value} (h : PySem.HandSPX.refsVE bm = true) : PySem.HandSPX.refsVE (.ref C :: bm) = true := h
theorem iv_init {x t0 : Addr} {v : Value} {args : Args} (T : IvT prog K C fI qual params p0 p1 p2 p3 p4 p5 p6 p7 p8 p9 fd) (md : Mod K mg base) (hb : ∀ b o, base.get? b = some o → s.heap.get? b = some o) (hbx : ∀ b o, base.get? b = some o → b ≠ x) (hsup : mg "super" = none)
    (hbind : BindsTo s fd args [("self", .ref x), ("value", v)]) (hx : s.heap.get? x = some (PySem.HandSPX.excO C t0)) (hroom : A.depth < recursionLimit)
    (hq : ∀ h' tk dx t1, (∀ b o, b ≠ x → s.heap.get? b = some o → h'.get? b = some o) → h'.get? x = some { cls := .ref C, dict := some dx, data := .fields #[.ref t1, .none, .none, .none, .bool false, .none] } → s.heap.objs.size ≤ dx → dx ≠ x →
      h'.Ns1 dx (fun y => if y = "value" then some v else none) → R (.ok (.ret .none)) { s with heap := h', toks := tk }) :
    codeAny (model prog w) A (.call (.ref fI) args) R s := by
  obtain ⟨oc, od, dV, kV, doc, pm, an, cda, cc, ct, osl, cl, cld, csl, ccl, cdd, vs, ccs, file, tf, _, rfl, ho, hcd, hcc, hcda, hvs, hfile⟩ := T.fn
  obtain ⟨nm, q, N, bs, bm, sn, sub, ab, col, dd, k0, k1, k2, k3, k5, hC, hbm⟩ := T.oex.cls
  have hcl : PySem.W.clsIn K C = some { name := nm, bases := bs, mro := .ref C :: bm, ns := N, qualname := q, hasDict := true, slotNames := sn, subclasses := sub, abstract := ab, collection := col, hasDel := false } := by unfold PySem.W.clsIn; rw [hC] <;> rfl
  have X : K.In s.heap := md.kin.keeps hb
  have hlim : s.heap.NoLimit := md.nolimit.keeps hb
  refine PySem.ks_codeAny_call_defAt hroom (X _ _ ho) rfl hlim (PySem.W.codeRec_of X hcd) rfl hbind ivScope_cell (by intro y hy; simp only [List.mem_cons, List.not_mem_nil, or_false] at hy; rcases hy with rfl | rfl; exact ivScope_self; exact ivScope_value) (fun h₁ hns hk₁ => ?_)
  have X₁ : K.In h₁ := X.keeps hk₁
  have hx₁ := hk₁ _ _ hx
  have b₁ : ∀ b o, base.get? b = some o → h₁.get? b = some o := fun b o e => hk₁ b o (hb b o e)
  obtain ⟨mb, hmb, hboot⟩ := md.blt
  have xC : x ≠ C := fun z => by
    have e := X _ _ hC
    rw [← z, hx] at e
    cases e
  -- super().__init__(value)
  show PySem.wpAt _ _ _ (execs (_ :: _ :: []) _) _ _ _
  obtain ⟨pl, hcall⟩ := T.call (ksEnv qual ivScope s.heap.objs.size fI (.ref cda) cc)
  refine PySem.ks_wpAt_execs_cons (PySem.ks_wpAt_Expr_any (PySem.ks_wpAt_MethodCall (pl := pl) ?_ hcall) rfl rfl)
  refine PySem.ks_wpAt_super_base (env := ksEnv qual ivScope s.heap.objs.size fI (.ref cda) cc) ivScope_sup ivScope_cls (by decide +kernel) rfl (X₁ _ _ ho) rfl (ar := { arg := "self", annotation := none, pos := T.head.choose }) T.head.choose_spec rfl (X₁ _ _ hcda) rfl hvs hfile T.top ?_
  refine PySem.W.ks_loadName_global rfl ivScope_sup (PySem.Calls.loadGlobal_builtin (mg := mg) (mb := mb) (md.glob.keeps b₁) hsup (hmb.keeps b₁) ((hboot _ (by decide +kernel)).trans (by decide +kernel)) ⟨rfl, ?_⟩)
  refine wpAny_loadName_free rfl ivScope_cls rfl ⟨_, X₁ _ _ hcc, rfl⟩ ?_
  refine wpAny_loadName_local rfl ivScope_self hns (v := .ref x) bs_self ?_
  refine PySem.ks_wpAny_isType_cls (X₁ _ _ hC) rfl ⟨rfl, ?_⟩
  have hsub := PySem.W.looks_mroIn (M := model prog w) X₁ T.sub
  refine PySem.ks_wpAny_call_super (X₁ _ _ hC) rfl hx₁ rfl (fun c e => by cases e) hsub (fun h₂ e₂ k₂ => ?_)
  have X₂ : K.In h₂ := X₁.keeps k₂
  have hx₂ := k₂ _ _ hx₁
  have hI : PySem.W.Looks (model prog w) h₂ (isInstance (.ref x) (.type "ValueError")) true := (PySem.W.InstAt.type (ox := PySem.HandSPX.excO C t0) (od := none) ⟨hx₂, rfl, rfl, trivial⟩).andThen (PySem.W.looks_subIn X₂ T.subV)
  refine PySem.W.kxs_getMethod PySem.W.kxs_ValueError e₂ (PySem.W.looks_opaque X₂ T.third) (l₀ := .ref C :: bm) (K := K) ?_ rfl X₂ ?_ hI xC (by decide +kernel) ?_
  · exact fun A Q E s k q => wpAny_bind ((PySem.W.looks_clsIn X₂ hcl) A _ E s k (wpAny_pure q))
  · have z := T.sup
    unfold PySem.W.ks_superIn at z
    rw [hcl] at z
    exact z
  -- the bound __init__ called
  have hu : (h₂.push (kxs_mw "ValueError.__init__" x)).get? h₂.objs.size = some (kxs_mw "ValueError.__init__" x) := Heap.get?_push_size _ rfl
  have k₃ : ∀ b o, h₂.get? b = some o → (h₂.push (kxs_mw "ValueError.__init__" x)).get? b = some o := fun b o e => Heap.get?_push_of_some _ e
  have X₃ := X₂.keeps k₃
  have hx₃ := k₃ _ _ hx₂
  have hns₃ : (h₂.push (kxs_mw "ValueError.__init__" x)).Ns s.heap.objs.size (fun y => ([(("self" : Str), Value.ref x), (("value" : Str), v)] : List (Str × Value)).reverse.lookup y) := by
    obtain ⟨oL, es, ep, hL, r⟩ := hns
    exact ⟨oL, es, ep, k₃ _ _ (k₂ _ _ hL), r⟩
  refine PySem.W.kxs_callWith (i := "ValueError.__init__") (x := x) rfl ?_
  refine PySem.Calls.evalArgs_plain (PySem.Calls.spliced_cons (wpAny_Name (wpAny_loadName_local rfl ivScope_value hns₃ (v := v) bs_value (PySem.Calls.spliced_nil ⟨hu, ?_⟩)) (by decide +kernel)))
  refine iv_bound (X₃ _ _ hC) hu hx₃ fun h₄ k₄ e₄ => ?_
  -- self.value = value
  have keep : ∀ b o, b ≠ x → h₁.get? b = some o → h₄.get? b = some o := fun b o hb e => k₄ b o hb (k₃ b o (k₂ b o e))
  have b₄ : ∀ b o, base.get? b = some o → h₄.get? b = some o := fun b o e => keep b o (hbx b o e) (b₁ b o e)
  have X₄ : K.In h₄ := md.kin.keeps b₄
  have hns₄ : h₄.Ns s.heap.objs.size (fun y => ([(("self" : Str), Value.ref x), (("value" : Str), v)] : List (Str × Value)).reverse.lookup y) := by
    obtain ⟨oL, es, ep, hL, r⟩ := hns₃
    exact ⟨oL, es, ep, k₄ _ _ (Nat.ne_of_gt (Heap.lt_size hx)) hL, r⟩
  show PySem.wpAt _ _ _ (execs (_ :: []) _) _ _ _
  refine wpAt_of_wpAny (wpAny_execs_cons (plainObj_wpAny_Assign_Attribute ?_))
  refine wpAny_Name (wpAny_loadName_local rfl ivScope_value hns₄ (v := v) bs_value (wpAny_Name (wpAny_loadName_local rfl ivScope_self hns₄ (v := .ref x) bs_self ?_) (by decide +kernel))) (by decide +kernel)
  refine PySem.W.set_plain X₄ (ox := PySem.HandSPX.excO C _) (od := none) ⟨e₄, rfl, rfl, trivial⟩ T.oex.sa ?_
  refine PySem.HandSPX.exc_osa X₄ e₄ hcl (refsVE_ref hbm) rfl T.noV (fun h₅ tk₅ dx k₅ dn dne hx₅ hn₅ => ?_)
  show wpAny _ _ (execs _ _) _ _ _
  have sz : s.heap.objs.size ≤ h₄.objs.size := Nat.le_of_lt hns₄.lt
  exact wpAny_execs_nil (hq h₅ tk₅ dx _ (fun b o hb' e => k₅ b o hb' (keep b o hb' (hk₁ b o e))) hx₅ (Nat.le_trans sz dn) dne hn₅)
end
/-- __init__'s promise: the error at a takes a dict of its own that holds the value -/
def spIv (C : Addr) : Sp := fun vs H Q _ => ∃ (a : Addr) (v : V), vs = [.ref a, v] ∧ H a = some (exo a C none) ∧
  ∀ dx, H dx = none → dx ≠ a → Q .non (upd (upd H dx (exd dx [(("value" : Str), v)])) a (exo a C (some dx)))
section
variable {P : Program} {w : World} {K : PySem.W.Frag} {mg : Str → Option Value} {base : Heap} {C fI : Addr} {qual : Str} {params : Arguments} {p0 p1 p2 p3 p4 p5 p6 p7 p8 p9 : Pos} {fd : FuncData} {k : Nat}
theorem rel_value {v : V} {v' : Value} (r : RelV v v') (f : Str) : RelO (List.lookup f [(("value" : Str), v)]) (if f = "value" then some v' else none) := by
  have z := relO_put (f := ("value" : Str)) (fs := []) (mA := fun _ => none) r (fun g => trivial) f
  exact z
theorem iv_fn {CX : CXT} (T : IvT P K C fI qual params p0 p1 p2 p3 p4 p5 p6 p7 p8 p9 fd) (hsup : mg "super" = none) : FnOk P w K mg base CX k fI fd ["self", "value"] (spIv C) := by
  refine ⟨fun vs H Q E h => ?_, fun A outer s H args us vs Q E hr e0 hb r h => ?_⟩
  · obtain ⟨a, v, rfl, _⟩ := h
    rfl
  · obtain ⟨a, v, rfl, ha, hq⟩ := h
    cases r with
    | cons r1 r2 =>
      cases r2 with
      | cons r2 r3 =>
        cases r3
        rename_i u1 u2
        cases (show u1 = Value.ref a from r1)
        obtain ⟨t1, hx⟩ := exo_at e0.hok ha
        refine iv_init (x := a) (t0 := t1) (v := u2) T e0.mod (fun b o e => (e0.bs b o e).1) (fun b o e z => ?_) hsup hb hx hr.depth fun h' tk dx t2 keep hx' dn dne hns => ?_
        · have n := (e0.bs b o e).2
          rw [z, ha] at n
          cases n
        · have nd : H dx = none := e0.hok.fresh dn
          have nfr : a ∉ frs outer := fun z => by
            have n := e0.frf a z
            rw [ha] at n
            cases n
          refine ⟨.non, _, rfl, e0.bare, ?_, ?_, rfl, hq dx nd dne⟩
          · have na : ∀ b, H b = none → b ≠ a := fun b n z => by
              rw [z, ha] at n
              cases n
            have ne : ∀ b u, H b = some u → b ≠ dx := fun b u e => ne_of_none e nd
            have lt : ∀ b o, s.heap.get? b = some o → b ≠ dx := fun b o e z => by
              rw [z] at e
              exact Nat.lt_irrefl _ (Nat.lt_of_lt_of_le (Heap.lt_size e) dn)
            refine ⟨fun b o e n _ _ => keep b o (na b n) e, fun b o e n _ _ => ⟨o.slots, keep b o (na b n) e⟩, fun b o e n _ => ?_, fun b o e _ => ?_, fun b xs e => ?_, fun b o u e => ?_, fun b ps e => ⟨#[], ?_⟩⟩
            · rw [upd_ne (na b n), upd_ne (lt b o e)]
              exact n
            · by_cases z : b = a
              · rw [z]; exact ⟨_, hx'⟩
              · exact ⟨o, keep b o z e⟩
            · rw [upd_ne (at_ne ha e exo_tup), upd_ne (ne b _ e)]
              exact e
            · rw [upd_ne (at_ne ha e exo_frz), upd_ne (ne b _ e)]
              exact e
            · rw [upd_ne (at_ne ha e exo_tbl), upd_ne (ne b _ e), e]
              simp
          · intro b u e
            by_cases za : b = a
            · subst za
              rw [upd_same] at e
              cases e
              exact exo_ok hx'
            · rw [upd_ne za] at e
              by_cases zd : b = dx
              · subst zd
                rw [upd_same] at e
                cases e
                exact exd_ok hns (rel_value r2)
              · rw [upd_ne zd] at e
                refine (e0.hok b u e).stay (fun c o hc q => keep c o (fun z => ?_) q) (fun c q => ?_) fun c xs q => ?_
                · subst z
                  rcases hc with z | z
                  · exact za z.symm
                  · rw [ha] at z
                    exact exo_own (Option.some.inj z)
                · rw [upd_ne (at_ne ha q exo_own), upd_ne (ne_of_none q nd)]
                  exact q
                · rw [upd_ne (at_ne ha q exo_tup), upd_ne (ne_of_none q nd)]
                  exact q
end
/-- raise C(e) -/
def sRaise (c : Nat) (m : M PyData) : MS := m.bind fun d => fun fr => some (.error (c, d), fr)
section
variable {X : Cx} {ec : EC} {W : XK}
theorem evS_raise {e : Expr} {x : Str} {m : M PyData} {p pos pos2 : Pos} {c k : Nat} {fI : Addr} {fd : FuncData} (hc : X.calm = true) (T : OexC X.K (ec.ad c)) (iC : PySem.W.findIn X.K (.ref (ec.ad c)) "__init__" = some (some (.ref fI))) (tI : PySem.W.typeIn X.K (.ref fI) = some (.type "function"))
    (F1 : FnOk X.prog X.w X.K X.mg X.base CX0 k fI fd ["self", "value"] (spIv (ec.ad c))) (hr : Room (k + 1) X.A) (hb : Binds X.K fd ["self", "value"] []) (tk : Takes X (fun cls d _ H => W cls d H)) (hg : Gl X x) (hm : X.mg x = some (.ref (ec.ad c))) (he : EvE X ec W e m)
    (hdb : (x == ("__debug__" : Str)) = false) (hs : starEach [e] X.env = (false, eval e X.env) :: starEach [] X.env) (hpl : (backTo pos (starEach [] X.env)).any (·.1) = false) : EvS X ec W (.Raise (some (.Call (.Name x p) [e] [] pos)) none pos2) (sRaise c m) := by
  obtain ⟨te, p1, s1⟩ := he.out
  refine .mk (ps_raise hc tk (pmk_oex T iC tI F1 hr hb .nil pass0 hg hm (pa_cons p1 pa_nil hs) hdb hs hpl)) fun σ H B fr r fr' D R e hr => ?_
  refine s1.thn R e hr fun d v fr1 H1 B1 R1 st e1 rd hr1 => ?_
  cases e1
  refine ⟨by show 1 ≤ 1000; decide, fun a ha => ⟨a, v, rfl, upd_same, fun dx hdx hne => ⟨rfl, dx, [(("value" : Str), v)], upd_same, ?_, ?_, ?_⟩⟩⟩
  · rw [upd_ne hne, upd_same]
  · rw [upd_ne hne] at hdx
    exact hdx
  · have n1 : H1 dx = none := by
      rw [upd_ne hne] at hdx
      exact hdx
    -- the heap behind: H1 and the error's dict
    have eH : upd (del (upd (upd (upd H1 a (exo a (ec.ad c) none)) dx (exd dx [(("value" : Str), v)])) a (exo a (ec.ad c) (some dx))) a) dx (.xd [(("value" : Str), v)]) = upd H1 dx (.xd [(("value" : Str), v)]) := by
      funext b
      by_cases zd : b = dx
      · subst zd; rw [upd_same, upd_same]
      · rw [upd_ne zd, upd_ne zd]
        by_cases za : b = a
        · subst za; rw [del_same, ha]
        · rw [del_ne za, upd_ne za, upd_ne zd, upd_ne za]
    rw [eH]
    have sm : Same H1 (upd H1 dx (.xd [(("value" : Str), v)])) := EV.Same.new n1
    exact hr1 σ _ B1 dx v (.ext sm) (R1.ext sm) upd_same (rd.kp (.new R1.BD n1))
end
end EV
end

section
set_option Elab.async false
set_option linter.all false
set_option maxRecDepth 100000
set_option maxHeartbeats 2000000
/-! EvLam: a lambda that is handed on, called two defs deeper, its error caught and kept. -/
namespace EV
open PySem PySem.Spec PyProof.Rows L2 LamX
section
variable {X : Cx} {pins : List (Addr × Obj)} {σ : L2.St} {H : Hp} {s : Shared}
/-- the function object of the lambda -/
abbrev lamO (X : Cx) (params : Arguments) (body : Expr) (scope : Scope) (pm ctv : Value) (c' : Addr) : Obj :=
  PySem.W.kla_obj "<lambda>" (X.env.qual ++ "<lambda>") params body scope (cloFrom X.env.cells scope.names []) pm c' ctv
/-- a def that runs somewhere inside: Z, entered at s' with the frames outer' around -/
abbrev inZ (X : Cx) (CXg : CXT) (Eg : XK) (Ng : List Str) (qg : Str) (sg : Scope) (g : Addr) (cdg : Value) (A' : Around) (outer' : List Env) (s' : Shared) (H' : Hp) : Cx :=
  cxOf CXg X.prog X.w X.K X.mg X.base Ng qg sg g cdg A' outer' s' H' Eg
theorem act_pe {CXg : CXT} {Eg : XK} {Ng : List Str} {qg : Str} {sg : Scope} {g f c' : Addr} {cdg pm ctv : Value} {params : Arguments} {body : Expr} {scope : Scope} {k i : Nat} {a : Str} {pn : List (Addr × Obj)} {xe : Value → Shared → Prop} {Wz : WX} {tb : XK → TE} {p1 p2 : Pos}
    {A' : Around} {outer' : List Env} {s' : Shared} {H' : Hp}
    (I : Inv X pins σ H s) (L : LamS X.env.scope scope) (hf : s.heap.get? f = some (lamO X params body scope pm ctv c')) (hfn : H f = none) (hfr : f ∉ frs X.stack)
    (hbind : bindArgs (PySem.W.kla_fn "<lambda>" (X.env.qual ++ "<lambda>") params body scope (cloFrom X.env.cells scope.names []) pm (.ref c') ctv) ⟨[], []⟩ = pure [])
    (hun : ∀ HZ hZ, Un (frs outer') [] H' HZ s'.heap hZ → Un (frs X.stack) [] H HZ s.heap hZ)
    (tk : Takes ((inZ X CXg Eg Ng qg sg g cdg A' outer' s' H').tr pn xe) Wz) (hr : Room (k + 1) (A'.deeper (envOfC qg sg s'.heap.objs.size g cdg)))
    (hG : A'.guards = some []) (hbody : ∀ (E : XK) (A : Around) (outer : List Env) (s : Shared) (H : Hp), Room k (A.deeper (lamEnv X scope s.heap.objs.size f c')) → A.guards = some [] → PE (lamCx X A outer s H E scope f c') body (tb E))
    (hN : Ng[i]? = some a) (hv : Vis sg a) (hd : (a == ("__debug__" : Str)) = false) (hcd : (a == ("__classdict__" : Str)) = false) :
    PE ((inZ X CXg Eg Ng qg sg g cdg A' outer' s' H').tr pn xe) (.Call (.Name a p1) [] [] p2)
      (fun σZ HZ Q => σZ[i]? = some (some (.ref f)) ∧ HZ c' = some (CodeO c' (X.env.qual ++ "<lambda>")) ∧ tb (fun cls d H2 => Wz cls d σZ H2) σ HZ Q) := by
  refine ⟨fun pinsZ sZ σZ HZ Q IZ q => ?_⟩
  obtain ⟨hs, hc, ht⟩ := q
  refine wpAny_Call_Name_kw (thn ((pe_var (pos := p1) (i := i) hN hv hd hcd).run pinsZ sZ σZ HZ (fun v H1 => v = .ref f ∧ H1 = HZ) IZ ⟨.ref f, hs, rfl, rfl⟩) fun u s1 ⟨v, H1, I1, r1, qv⟩ => ?_)
  obtain ⟨ev, eH⟩ := qv
  subst ev eH
  obtain rfl : u = Value.ref f := r1
  have un : Un (frs X.stack) [] H H1 s.heap s1.heap := hun _ _ I1.base
  have of1 := un.keep f _ hf hfn hfr (by simp)
  obtain ⟨⟨oc, vs, t, hoc, hdc, hvc⟩, _, _⟩ := I1.hok c' _ hc
  refine PySem.W.callWith_F0 ⟨_, _, _, _, of1⟩ (wpAny_call ?_)
  refine codeAny_mono (R := CR (L2.CX X.prog X.w) (envOfC qg sg s'.heap.objs.size g cdg :: outer') X.prog X.w H1 s1 Q (fun cls d H2 => Wz cls d σZ H2)) ?_ fun r s2 hq => ?_
  · show codeAny (model X.prog X.w) (A'.deeper (envOfC qg sg s'.heap.objs.size g cdg)) (.call (.ref f) ⟨[], []⟩) _ s1
    refine PySem.W.kla_callFunE hr.depth of1 rfl L.co L.gen rfl ⟨c', oc, vs, t, rfl, hoc, hdc, hvc⟩ ?_
    rw [hbind]
    refine wpAny_pure (wpAny_newFunctionEnv (fun y hy => (L.own y hy).2) (fun y hy => absurd hy (by simp)) (fun h₁ hns hsb => ⟨I1.nolimit.fresh _ hsb, ?_⟩) L.kind)
    have kp : ∀ b o, s1.heap.get? b = some o → h₁.get? b = some o := fun b o e => hsb.extBut b o (Nat.ne_of_lt (Heap.lt_size e)) (Heap.get?_push_of_some _ e)
    have J := lam_start2 (X := X) (E := fun cls d H2 => Wz cls d σZ H2) (f := f) (c' := c') (h₁ := h₁) (tk := s1.toks + ([] : List (Str × Value)).length) I L I1.env0 hr.hd un hns kp
    show codeAny _ _ (.expr body (lamEnv X scope s1.heap.objs.size f c')) _ _
    refine PySem.W.kla_codeExpr (wpAny_mono ((hbody _ _ _ s1 H1 (hr.deeper _) hG).run [] _ _ H1 Q J ht) (fun v s2 hq => ?_) fun e s2 hq => hq)
    obtain ⟨w', H2, J2, rv, q2⟩ := hq
    exact ⟨w', H2, J2.os, J2.bare, J2.base, J2.hok, rv, q2⟩
  · cases r with
    | error e => exact tk e s2 (XE.of_call I1 (fun cls d H2 z => z) hq)
    | ok fl =>
      cases fl with
      | ret u => exact I1.after hq
      | next => exact False.elim hq
      | brk => exact False.elim hq
      | cont => exact False.elim hq
/-- the frames two defs deep -/
theorem un_two {fs : List Addr} {L : Addr} {env1 : Env} {st : List Env} {H H2 HZ : Hp} {h h2 hZ : Heap} (hL : env1.frame = some L) (hl : h.objs.size ≤ L) (a : Un (frs st) [] H H2 h h2) (b : Un (frs (env1 :: st)) [] H2 HZ h2 hZ) : Un (frs st) [] H HZ h hZ := by
  have fr : frs (env1 :: st) = L :: frs st := by unfold frs; rw [List.filterMap_cons, hL]
  rw [fr] at b
  have ne : ∀ c o, h.get? c = some o → c ≠ L := fun c o e z => by
    have := Heap.lt_size e
    rw [z] at this
    exact Nat.lt_irrefl _ (Nat.lt_of_lt_of_le this hl)
  refine ⟨fun c o e n hc _ => ?_, fun c o e n hc _ => ?_, fun c o e n _ => ?_, fun c o e _ => ?_, fun c xs e => b.tups c xs (a.tups c xs e), fun c o u e => b.frzs c o u (a.frzs c o u e), fun c ps e => ?_⟩
  · exact b.keep c o (a.keep c o e n hc (by simp)) (a.free c o e n (by simp)) (fun z => (List.mem_cons.mp z).elim (ne c o e) hc) (by simp)
  · obtain ⟨sl, e1⟩ := a.slot c o e n hc (by simp)
    obtain ⟨sl2, e2⟩ := b.slot c _ e1 (a.free c o e n (by simp)) (List.mem_cons_of_mem _ hc) (by simp)
    exact ⟨sl2, e2⟩
  · obtain ⟨o2, e1⟩ := a.there c o e (by simp)
    exact b.free c o2 e1 (a.free c o e n (by simp)) (by simp)
  · obtain ⟨o2, e1⟩ := a.there c o e (by simp)
    exact b.there c o2 e1 (by simp)
  · obtain ⟨m1, e1⟩ := a.tbls c ps e
    obtain ⟨m2, e2⟩ := b.tbls c _ e1
    exact ⟨m1 ++ m2, by rw [e2, Array.append_assoc]⟩
end

/-! ### an error that is caught and kept -/
/-- an error of the class cls, its dict at d, stands at a -/
def ExV (cls : Value) (d : Option Addr) (a : Addr) : HO := .ext fun h => ∃ (oe : Obj) (vs : Array Value), h.get? a = some oe ∧ Zc cls d oe ∧ oe.data = .fields vs
theorem exV_ok {P : Program} {w : World} {H : Hp} {h : Heap} {a : Addr} {cls : Value} {d : Option Addr} {oe : Obj} {vs : Array Value} (e : h.get? a = some oe) (z : Zc cls d oe) (hd : oe.data = .fields vs) : ObjOk P w H h a (ExV cls d a) :=
  ⟨⟨oe, vs, e, z, hd⟩, ⟨oe, e⟩, fun h1 h2 ⟨o, ws, q1, q2, q3⟩ k => ⟨o, ws, k o q1, q2, q3⟩⟩
theorem exV_at {P : Program} {w : World} {H : Hp} {h : Heap} {a : Addr} {cls : Value} {d : Option Addr} (hok : HOk P w H h) (he : H a = some (ExV cls d a)) : ∃ (oe : Obj) (vs : Array Value), h.get? a = some oe ∧ Zc cls d oe ∧ oe.data = .fields vs := (hok a _ he).1
theorem exV_nt {cls : Value} {d : Option Addr} {a : Addr} : NT (ExV cls d a) := fun ps z => by unfold ExV at z; cases z
section
variable {X : Cx} {pins : List (Addr × Obj)} {σ : L2.St} {H : Hp} {s : Shared}
/-- an object that came behind the entry, and that nobody tracks, is tracked from now on -/
theorem inv_track {a : Addr} {oe : Obj} {vs : Array Value} {cls : Value} {d : Option Addr} (I : Inv X ((a, oe) :: pins) σ H s) (n0 : X.s_0.heap.get? a = none) (hz : Zc cls d oe) (hd : oe.data = .fields vs) (hp : ∀ p ∈ X.pn ++ pins, p.1 ≠ a) :
    Inv X pins σ (upd H a (ExV cls d a)) s := by
  obtain ⟨ha, na, nL, nF, nc⟩ := I.pin (a, oe) (List.mem_append_right _ List.mem_cons_self)
  have ne : ∀ b o, X.s_0.heap.get? b = some o → b ≠ a := fun b o e z => by
    rw [z, n0] at e
    cases e
  have nt : ∀ b u, H b = some u → b ≠ a := fun b u e z => by
    have na' : H a = none := na
    rw [z, na'] at e
    cases e
  have out : ∀ b, b ≠ a → upd H a (ExV cls d a) b = H b := fun b h => upd_ne h
  refine ⟨I.ok, I.os, I.bare, ⟨I.base.keep, I.base.slot, fun b o e n hx => ?_, I.base.there, fun b xs e => ?_, fun b o u e => ?_, fun b ps e => ?_⟩, I.loc, I.cell, ?_, fun y c e => ?_, fun p hp' => ?_, fun b u e => ?_, I.len⟩
  · rw [out b (ne b o e)]
    exact I.base.free b o e n hx
  · have q := I.base.tups b xs e
    rw [out b (nt b _ q)]
    exact q
  · have q := I.base.frzs b o u e
    rw [out b (nt b _ q)]
    exact q
  · obtain ⟨more, q⟩ := I.base.tbls b ps e
    exact ⟨more, by rw [out b (nt b _ q)]; exact q⟩
  · rw [out _ (Ne.symm nL)]
    exact I.free
  · have hc : c ≠ a := fun z => by
      obtain ⟨v, o, ho, hcd⟩ := I.cell y c e
      have ha' : s.heap.get? a = some oe := ha
      rw [z, ha'] at ho
      cases ho
      exact nc _ hcd
    rw [out c hc]
    exact I.freeC y c e
  · have hm : p ∈ X.pn ++ ((a, oe) :: pins) := (List.mem_append.mp hp').elim (fun z => List.mem_append_left _ z) fun z => List.mem_append_right _ (List.mem_cons_of_mem _ z)
    obtain ⟨e1, e2, e3⟩ := I.pin p hm
    exact ⟨e1, by rw [out _ (hp p hp')]; exact e2, e3⟩
  · by_cases hb : b = a
    · subst hb
      rw [upd_same] at e
      cases e
      exact exV_ok ha hz hd
    · rw [out b hb] at e
      refine (I.hok b u e).stay (fun _ _ _ q => q) (fun c q => ?_) fun c xs q => ?_
      · rw [out c (nt c _ q)]; exact q
      · rw [out c (nt c _ q)]; exact q
end
/-- what «except x as n» wishes, where the suite's end keeps the error -/
def wKeep (K : PySem.W.Frag) (c : Value) (i : Nat) (ts : Addr → Value → Option Addr → TS) (D : Ends) : WX := fun cls d σ H =>
  PySem.W.exmOne K cls c = some true ∧ ∀ a, H a = none → ts a cls d { nx := fun σ' H' => H' a = none → D.nx (σ'.set i none) (upd H' a (ExV cls d a)), rt := fun _ _ => False } (σ.set i (some (.ref a))) H
section
variable {X : Cx} {x n : Str} {c : Value} {i : Nat} {body suite : List Stmt} {b₀ : Stmt} {np pos pos' : Pos} {tb : WX → TS} {ts : Addr → Value → Option Addr → TS}
theorem try_keep (hex : X.ex = []) (hs : X.stack = X.env :: X.outer) (hf : X.env.frame = some X.env.locals) (hN : X.N.Nodup) (hi : X.N[i]? = some n) (hln : X.env.kindOf n = some .local) (hc : Names X x c)
    (hb : ∀ (W : WX) (pn : List (Addr × Obj)) (xe : Value → Shared → Prop), Takes (X.tr pn xe) W → PSs (X.tr pn xe) body (tb W))
    (hsu : ∀ (a : Addr) (oe : Obj) (cls : Value) (d : Option Addr) (pn : List (Addr × Obj)), PSs (X.suite a ((a, oe) :: pn)) (b₀ :: suite) (ts a cls d)) :
    PS X (.Try body [.ExceptHandler (some (.Name x np)) (some n) (b₀ :: suite) pos'] [] [] pos) (fun D σ H => tb (wKeep X.K c i ts D) D σ H) := by
  refine ⟨fun pins s σ H D I h => ?_⟩
  have ok := I.ok
  have frames : X.A.frames = some (X.env :: X.outer) := by rw [ok.frames, hs]
  refine wpAny_Try_except ?_
  refine wpAny_mono ((hb (wKeep X.K c i ts D) (X.pn ++ pins) (fun e s₁ => wpAny (model X.prog X.w) X.A (noteFrame e X.env) (fun _ s₂ => wpAny (model X.prog X.w) X.A (setFlight e none) (fun _ s₃ =>
    wpAny (model X.prog X.w) X.A (handleBy e X.env [.ExceptHandler (some (.Name x np)) (some n) (b₀ :: suite) pos']) (SP X pins D) X.xe s₃) X.xe s₂) X.xe s₁) fun u sA caught => ?_).run [] s σ H D (I.toTry _) h) (fun f s1 hsp => ?_) fun e s1 he => he
  · obtain ⟨a, G, sI, pinsI, σI, HI, cls, d, rfl, JI, ground, up, sky, na, os, ag, hexm, hsuite⟩ := caught
    have J : Inv X pins σI HI sI := JI.ofTry ok
    have sky2 : Sky G (X.env :: X.outer) a (Zc cls d) X.env.locals sA.heap := by rw [← hs]; exact sky
    refine Sky.land Zc.steady frames hf sky2 fun hB flB upB => ?_
    have JB : Inv X pins σI HI { sA with heap := hB } := J.landed ground flB.1 (up.trans upB) os ag
    obtain ⟨oB, vB, heB, hzB, hdB⟩ := flB.there
    have notFr : a ∉ frs (X.env :: X.outer) := fun hm => by
      obtain ⟨_, o2, e2, hnf⟩ := flB.2.2.1.mem hm
      rw [heB] at e2; cases e2
      exact hnf _ hdB
    have nL : a ≠ X.env.locals := fun z => notFr (List.mem_filterMap.mpr ⟨X.env, List.mem_cons_self, by rw [hf, z]⟩)
    have nF : a ∉ X.fs := fun hm => by
      obtain ⟨e, he, q⟩ := List.mem_filterMap.mp hm
      exact notFr (List.mem_filterMap.mpr ⟨e, List.mem_cons_of_mem _ he, q⟩)
    -- a is younger than the state without the error, so than the entry
    have nI : sI.heap.get? a = none := by
      cases q : sI.heap.get? a with
      | none => rfl
      | some o =>
        have z := ground a o q (by rw [hs]; exact notFr)
        rw [flB.2.1] at z
        cases z
    have n0 : X.s_0.heap.get? a = none := by
      cases q : X.s_0.heap.get? a with
      | none => rfl
      | some o =>
        obtain ⟨o2, e2⟩ := J.base.there a o q (by rw [hex]; simp)
        rw [nI] at e2
        cases e2
    have SB := JB.suite heB hdB na nL nF
    refine wpAny_handleBy_cons (codeAny_handlers_test ?_) (by intro q; cases q)
    have LT : PySem.W.Looks (model X.prog X.w) hB (typeOf (.ref a)) cls := fun A Q E s k q => wpAny_typeOf_ref (k _ _ heB) (by rw [hzB.1]; exact q)
    have LM := PySem.W.exm_one (M := model X.prog X.w) (JB.kIn) LT hexm
    have named : ∀ {Q : Value → Shared → Prop} {E : Value → Shared → Prop}, Q c { sA with heap := hB } → wpAny (model X.prog X.w) (X.A.mark (some (.ref a))) (eval (.Name x np) X.env) Q E { sA with heap := hB } := fun {Q E} q => by
      obtain ⟨hg, hdbg, hm | ⟨hm, hv, hnn⟩⟩ := hc
      · exact ld_glob (X := X.suite a ((a, oB) :: (X.pn ++ pins))) SB hg hm q hdbg
      · exact ld_blt (X := X.suite a ((a, oB) :: (X.pn ++ pins))) SB hg hm hv q hnn hdbg
    refine named (LM.here (codeAny_handlers_suite_as ?_))
    refine HandSPX.lands_againZ flB fun hC flC upC => ?_
    have JC : Inv X pins σI HI { sA with heap := hC } := J.landed ground flC.1 ((up.trans upB).trans upC) os ag
    obtain ⟨oC, vC, heC, hzC, hdC⟩ := flC.there
    have SC := JC.suite heC hdC na nL nF
    refine store_ok (X := X.suite a ((a, oC) :: (X.pn ++ pins))) (v := .ref a) SC hN hi (.inl hln) rfl (fun sD SD' => ?_) (.inr hln)
    refine wpAny_mono ((hsu a oC cls d (X.pn ++ pins)).run [] sD _ HI _ SD' (hsuite a na)) (fun f sE hsp => ?_) (fun _ _ z => False.elim z)
    cases f with
    | next =>
      obtain ⟨σE, HE, SE, q⟩ := hsp
      have JE : Inv X ((a, oC) :: pins) σE HE sE := ⟨ok, SE.os, SE.bare, SE.base, SE.loc, SE.cell, SE.free, SE.freeC, fun p hp => SE.pin p (by
        rw [List.append_nil]
        rcases List.mem_append.mp hp with z | z
        · exact List.mem_cons_of_mem _ (List.mem_append_left _ z)
        · rcases List.mem_cons.mp z with z | z
          · rw [z]; exact List.mem_cons_self
          · exact List.mem_cons_of_mem _ (List.mem_append_right _ z)), SE.hok, SE.len⟩
      have nE : HE a = none := (JE.pin (a, oC) (List.mem_append_right _ List.mem_cons_self)).2.1
      refine gone_ok JE hN hi hln fun sF JF => ?_
      have pinsNe : ∀ p ∈ X.pn ++ pins, p.1 ≠ a := fun p hp z => by
        have e := (J.pin p hp).1
        rw [z, nI] at e
        cases e
      exact ⟨_, _, inv_track JF n0 hzC hdC pinsNe, q nE⟩
    | brk =>
      obtain ⟨_, _, _, q⟩ := hsp
      exact False.elim q
    | cont =>
      obtain ⟨_, _, _, q⟩ := hsp
      exact False.elim q
    | ret u =>
      obtain ⟨_, _, _, _, _, q⟩ := hsp
      exact False.elim q
  · cases f with
    | next =>
      obtain ⟨σ2, H2, J2, q⟩ := hsp
      exact wpAny_execs_nil ⟨σ2, H2, J2.ofTry ok, q⟩
    | brk =>
      obtain ⟨σ2, H2, J2, q⟩ := hsp
      exact ⟨σ2, H2, J2.ofTry ok, q⟩
    | cont =>
      obtain ⟨σ2, H2, J2, q⟩ := hsp
      exact ⟨σ2, H2, J2.ofTry ok, q⟩
    | ret u =>
      obtain ⟨v, σ2, H2, J2, r, q⟩ := hsp
      exact ⟨v, σ2, H2, J2.ofTry ok, r, q⟩
end
end EV
end

section
set_option Elab.async false
set_option linter.all false
set_option maxRecDepth 100000
set_option maxHeartbeats 2000000
/-! EvCgt: a kept error asked: its class, its value; list.count of bools. -/
namespace EV
open PySem PySem.Spec PyProof.Rows L2 LamX
section
variable {X : Cx}
/-- isinstance(e, c), e an error that is tracked -/
def rIsK (K : PySem.W.Frag) : List V → Hp → VK → Prop := fun xs H Q => ∃ (a C dd : Addr) (fs : List (Str × V)) (c : V) (cv : Value) (b : Bool), xs = [.ref a, c] ∧ H a = some (ExV (.ref C) (some dd) a) ∧ H dd = some (.xd fs) ∧ ExcC K C ∧
  (∀ u, RelV c u → u = cv) ∧ PySem.W.kitOne K (.ref C) cv = some b ∧ Q (.bl b) H
theorem call_isK : CallR X (.builtin "isinstance") (rIsK X.K) := by
  intro pins s σ H xs us Q I r h
  obtain ⟨a, D, dd, fs, c, cv, b, rfl, ha, hd, C, hcv, e, q⟩ := h
  cases r with
  | cons rx rr =>
    cases rr with
    | cons rt rr =>
      cases rr
      cases rx
      have ec := hcv _ rt
      subst ec
      obtain ⟨oe, vs, hget, hz, hv⟩ := exV_at I.hok ha
      have hx : ObjOk X.prog X.w H s.heap dd (.xd fs) := I.hok dd _ hd
      obtain ⟨mA, hns, hr⟩ := hx
      obtain ⟨od, ho, hl⟩ := lookIn_ns hns
      have J : PySem.W.InstAt s.heap a oe D (some od) := ⟨hget, hz.1, by unfold PySem.W.notCls; rw [hv] <;> rfl, by rw [hz.2]; exact ho⟩
      have hc : (PySem.W.clsIn X.K D).isSome = true := by obtain ⟨cd, hc, _⟩ := PySem.W.any_some C.hd; rw [hc]; rfl
      exact PySem.W.kia_one (PySem.W.kitx_exc (x := a) (ox := oe) (od := some od) hc C.hg C.hk C.hs C.ha C.hn C.ht C.hm) I.kIn J e (fun z => nomatch z) fun tk => ⟨.bl b, H, I.kept (t' := tk) fun _ _ z => z, rfl, q⟩
/-- e.f, e an error that is tracked -/
def tXk (K : PySem.W.Frag) (f : Str) (te : TE) : TE := fun σ H Q => te σ H fun x H1 => ∃ (a C dd : Addr) (fs : List (Str × V)) (v : V), x = .ref a ∧ XfC K C ∧ PySem.W.findIn K (.ref C) f = some none ∧ H1 a = some (ExV (.ref C) (some dd) a) ∧ H1 dd = some (.xd fs) ∧ fs.lookup f = some v ∧ Q v H1
theorem pe_xk {e : Expr} {te : TE} {pos : Pos} {n : Str} (he : PE X e te) (hb : attributeBase e n X.env (eval e X.env) = eval e X.env := by rfl) :
    PE X (.Attribute e n pos) (tXk X.K n te) := by
  refine ⟨fun pins s σ H Q I h => ?_⟩
  refine attr_of hb (thn (he.run pins s σ H _ I h) fun u s1 hh => ?_)
  obtain ⟨x, H1, I1, rx, a, C, dd, fs, v, ex, T, hno, ha, ea, l, q⟩ := hh
  subst ex
  obtain rfl : u = Value.ref a := rx
  obtain ⟨oe, vs, hget, hz, hd⟩ := exV_at I1.hok ha
  have hx : ObjOk X.prog X.w H1 s1.heap dd (.xd fs) := I1.hok dd _ ea
  obtain ⟨mA, hns, hr⟩ := hx
  obtain ⟨od, ho, hl⟩ := lookIn_ns hns
  obtain ⟨u, hu, ru⟩ := RelO.some_of (v := v) (o := mA n) (by rw [← l]; exact hr n)
  have J : PySem.W.InstAt s1.heap a oe C (some od) := ⟨hget, hz.1, by unfold PySem.W.notCls; rw [hd] <;> rfl, by rw [hz.2]; exact ho⟩
  exact HandSPX.exc_get I1.kIn J T.ga T.gg T.exC (PySem.W.findObj_own T.hdC hno rfl (by rw [hl, hu])) (handed_of ru) ⟨v, H1, I1.tok _, ru, q⟩
/-- l.count(b) of a list of bools -/
def rCntB (K : PySem.W.Frag) : V → List V → Hp → VK → Prop := fun x xs H Q => ∃ (p : Addr) (bs : List Bool) (k : Bool), x = .ref p ∧ xs = [.bl k] ∧ SqL K H p (bs.map V.bl) ∧ Q (.int (bs.count k : Nat)) H
theorem isb_count {k : Bool} : ∀ {bs : List Bool} {us : List Value}, Vals (bs.map V.bl) us → us.countP (isBoolOf k) = bs.count k
  | [], _, r => by cases r; rfl
  | b :: bs, _, r => by
    cases r with
    | cons r1 r2 =>
      rename_i u us
      obtain rfl : u = Value.bool b := r1
      rw [List.countP_cons, List.count_cons, isb_count r2]
      rfl
theorem isb_eq {k : Bool} : ∀ {bs : List Bool} {us : List Value}, Vals (bs.map V.bl) us → ∀ y ∈ us, ∀ (A : Around) (s : Shared), PySem.SeqAt.EqAt A s y (.bool k) (isBoolOf k y)
  | [], _, r, y, hy, _, _ => by cases r; cases hy
  | b :: bs, _, r, y, hy, A, s => by
    cases r with
    | cons r1 r2 =>
      rename_i u us
      obtain rfl : u = Value.bool b := r1
      rcases List.mem_cons.mp hy with e4 | hy
      · rw [e4]; exact PySem.SeqAt.EqAt.bool_bool b k
      · exact isb_eq r2 y hy A s
theorem mt_countB : MtR X "list.count" (rCntB X.K) := by
  intro pins s σ H x xs v us Q I rx rxs h
  obtain ⟨p, bs, k, rfl, rfl, hs, q⟩ := h
  cases rx
  obtain ⟨u, rfl, ru⟩ := rxs.one
  obtain rfl : u = Value.bool k := ru
  obtain ⟨its, rv, ⟨⟨cls, dd, data, sl⟩, n, ho, hc, hdn, hd⟩, hlen⟩ := I.list hs
  simp only at hc hd
  subst hc hd
  refine call_meets PySem.F.slot_list_count ⟨_, ho, rfl⟩ PySem.F.entry_list_count (PySem.F.args_list_count_2 _ _)
    (SeqAt.list_countAt p its.toArray n dd sl (.bool k) (isBoolOf k)) ⟨ho, fun y hy => isb_eq rv y (by simpa using hy) _ _, ?_⟩
  have ec : its.toArray.toList.countP (isBoolOf k) = bs.count k := isb_count rv
  refine ⟨.int (bs.count k : Nat), H, I.tok _, ⟨s.toks, ?_⟩, q⟩
  show Value.int ((its.toArray.toList.countP (isBoolOf k) : Nat) : Int) s.toks = Value.int ((bs.count k : Nat) : Int) s.toks
  rw [ec]
/-- l.index(b) of a list of bools -/
def rIdxB (K : PySem.W.Frag) : V → List V → Hp → VK → Prop := fun x xs H Q => ∃ (p : Addr) (bs : List Bool) (k : Bool) (j : Nat), x = .ref p ∧ xs = [.bl k] ∧ SqL K H p (bs.map V.bl) ∧ bs[j]? = some k ∧ (∀ m, m < j → bs[m]? ≠ some k) ∧ Q (.int (j : Nat)) H
theorem isb_at {k : Bool} : ∀ {bs : List Bool} {us : List Value} (m : Nat) (hm : m < us.length), Vals (bs.map V.bl) us → ∃ b, bs[m]? = some b ∧ us[m] = .bool b
  | [], _, m, hm, r => by cases r; exact absurd hm (Nat.not_lt_zero _)
  | b :: bs, _, 0, hm, r => by
    cases r with
    | cons r1 r2 => exact ⟨b, rfl, r1⟩
  | b :: bs, _, m + 1, hm, r => by
    cases r with
    | cons r1 r2 =>
      rename_i u us
      obtain ⟨b', h1, h2⟩ := isb_at (k := k) (bs := bs) (us := us) m (by simpa using hm) r2
      exact ⟨b', by simpa using h1, by simpa using h2⟩
theorem mt_indexB : MtR X "list.index" (rIdxB X.K) := by
  intro pins s σ H x xs v us Q I rx rxs h
  obtain ⟨p, bs, k, j, rfl, rfl, hs, hj, hno, q⟩ := h
  cases rx
  obtain ⟨u, rfl, ru⟩ := rxs.one
  obtain rfl : u = Value.bool k := ru
  obtain ⟨its, rv, ⟨⟨cls, dd, data, sl⟩, n, ho, hc, hdn, hd⟩, hlen⟩ := I.list hs
  simp only at hc hd
  subst hc hd
  have hl : its.length = bs.length := by have := rv.length; simpa using this.symm
  have hjl : j < its.toArray.size := by
    have := (List.getElem?_eq_some_iff.mp hj).1
    simpa [hl] using this
  have hsl := sizeLine_eq
  have hlen' : its.length ≤ sizeLine := by rw [hl]; simpa using hlen
  have hjl' : j < its.length := by simpa using hjl
  refine call_meets PySem.F.slot_list_index ⟨_, ho, rfl⟩ PySem.F.entry_list_index (PySem.F.args_list_index_2 _ _)
    (SeqAt.list_indexAt p its.toArray n dd sl (.bool k) (isBoolOf k) j hjl (by omega) ?_ ?_) ⟨ho, fun y hy => isb_eq rv y (by simpa using hy) _ _, ?_⟩
  · obtain ⟨b, h1, h2⟩ := isb_at (k := k) j (by simpa using hjl) rv
    rw [hj] at h1
    cases h1
    have e : its.toArray[j] = .bool k := by simpa using h2
    rw [e]
    exact beq_self_eq_true k
  · intro m hm hmj
    obtain ⟨b, h1, h2⟩ := isb_at (k := k) m (by simpa using hm) rv
    have e : its.toArray[m] = .bool b := by simpa using h2
    rw [e]
    refine beq_eq_false_iff_ne.mpr fun z => hno m hmj ?_
    rw [h1, z]
  · exact ⟨.int (j : Nat), H, I.tok _, ⟨_, rfl⟩, q⟩
end

theorem pe_imp {X : Cx} {e : Expr} {t t' : TE} (h : PE X e t) (f : ∀ σ H Q, t' σ H Q → t σ H Q) : PE X e t' := ⟨fun pins s σ H Q I q => h.run pins s σ H Q I (f σ H Q q)⟩
theorem pa_imp {X : Cx} {es : List Expr} {t t' : TA} (h : PA X es t) (f : ∀ σ H Q, t' σ H Q → t σ H Q) : PA X es t' := ⟨fun pos pins s σ H Q I q => h.run pos pins s σ H Q I (f σ H Q q)⟩
/-! ### the body of the def that calls and tells the error -/
/-- the error in slot 1 -/
def KF (K : PySem.W.Frag) (a C dd : Addr) (v : V) (σ : L2.St) (H : Hp) : Prop := σ[1]? = some (some (.ref a)) ∧ H a = some (ExV (.ref C) (some dd) a) ∧ H dd = some (.xd [(("value" : Str), v)]) ∧ ExcC K C
/-- isinstance(caught, D) -/
def tK1 (K : PySem.W.Frag) (D : Addr) : TE := fun σ H Q => ∃ (a C dd : Addr) (v : V) (b : Bool), KF K a C dd v σ H ∧ PySem.W.kitOne K (.ref C) (.ref D) = some b ∧ Q (.bl b) H
inductive IsKs (X : Cx) : List Expr → List Addr → Prop
  | nil : IsKs X [] []
  | cons {e : Expr} {es : List Expr} {D : Addr} {Ds : List Addr} : PE X e (tK1 X.K D) → starEach (e :: es) X.env = (false, eval e X.env) :: starEach es X.env → IsKs X es Ds → IsKs X (e :: es) (D :: Ds)
section
variable {X : Cx}
theorem pe_isk {x c : Str} {D : Addr} {p1 p2 p3 pos : Pos} (hN : X.N[1]? = some x) (hv : Vis X.env.scope x) (hg : Gl X "isinstance") (hm : X.mg "isinstance" = none) (hgc : Gl X c) (hmc : X.mg c = some (.ref D)) (hd : (x == ("__debug__" : Str)) = false) (hcd : (x == ("__classdict__" : Str)) = false) (hdc : (c == ("__debug__" : Str)) = false)
    (he : starEach [.Name x p2, .Name c p3] X.env = (false, eval (.Name x p2) X.env) :: starEach [.Name c p3] X.env := by rfl) (he2 : starEach [.Name c p3] X.env = (false, eval (.Name c p3) X.env) :: starEach [] X.env := by rfl) (hpl : (backTo pos (starEach [.Name c p3] X.env)).any (·.1) = false := by rfl) :
    PE X (.Call (.Name "isinstance" p1) [.Name x p2, .Name c p3] [] pos) (tK1 X.K D) := by
  refine pe_imp (pe_callB call_isK hg hm (by first | rfl | decide +kernel) (pa_cons (pe_var hN hv hd hcd) (pa_cons (pe_glob (v := .ref D) hgc hmc rfl hdc) pa_nil he2) he) (by decide) (by decide) he hpl) fun σ H Q h => ?_
  obtain ⟨a, C, dd, v, b, ⟨h1, h2, h3, h4⟩, hk, q⟩ := h
  exact ⟨.ref a, h1, a, C, dd, _, .ref D, .ref D, b, rfl, h2, h3, h4, fun u r => r, hk, q⟩
theorem pa_isks : ∀ {es : List Expr} {Ds : List Addr}, IsKs X es Ds → PA X es (fun σ H Q => ∃ (a C dd : Addr) (v : V) (bs : List Bool), KF X.K a C dd v σ H ∧ Paired (fun D b => PySem.W.kitOne X.K (.ref C) (.ref D) = some b) Ds bs ∧ Q (bs.map V.bl) H)
  | _, _, .nil => pa_imp pa_nil fun σ H Q h => by
    obtain ⟨a, C, dd, v, bs, _, p, q⟩ := h
    cases p
    exact q
  | _, _, .cons h hs t => pa_imp (pa_cons h (pa_isks t) hs) fun σ H Q z => by
    obtain ⟨a, C, dd, v, bs, k, p, q⟩ := z
    cases p with
    | cons p1 p2 => exact ⟨a, C, dd, v, _, k, p1, a, C, dd, v, _, k, p2, q⟩
end
end EV
end

section
set_option Elab.async false
set_option linter.all false
set_option maxRecDepth 100000
set_option maxHeartbeats 2000000
/-! EvBody: the body of the def that calls what it got and tells the error. -/
namespace EV
open PySem PySem.Spec PyProof.Rows L2 LamX
/-- what must be known of the error classes: cl the caught base class, Ds the asked ones, ws their words -/
structure ErrC (K : PySem.W.Frag) (ec : EC) (SE : Addr) (Ds : List Addr) (ws : List Str) (c : Nat) : Prop where
  sub : PySem.W.exmOne K (.ref (ec.ad c)) (.ref SE) = some true
  exc : ExcC K (ec.ad c)
  xf : XfC K (ec.ad c)
  val : PySem.W.findIn K (.ref (ec.ad c)) "value" = some none
  lt : c < Ds.length
  ks : ∀ (j : Nat) (D : Addr), Ds[j]? = some D → PySem.W.kitOne K (.ref (ec.ad c)) (.ref D) = some (decide (j = c))
  wl : ws.length = Ds.length
/-- what the def tells -/
def toldD (ws : List Str) (r : Except Xn PyData) : PyData := match r with
  | .ok _ => .tuple [.str "let", .none]
  | .error (c, x) => .tuple [.str (ws.getD c "odd"), x]
theorem pa_strs {X : Cx} : ∀ (es : List Expr) (ws : List Str), (∀ (i : Nat) (e : Expr) (w : Str), es[i]? = some e → ws[i]? = some w → ∃ j pos, e = .Constant (.str w) j pos) → es.length = ws.length → (∀ e ∈ es, ∀ rest, starEach (e :: rest) X.env = (false, eval e X.env) :: starEach rest X.env) → PA X es (fun σ H Q => Q (ws.map V.str) H)
  | [], [], _, _, _ => pa_nil
  | e :: es, w :: ws, h, hl, hs => by
    obtain ⟨j, pos, rfl⟩ := h 0 e w rfl rfl
    exact pa_cons pe_str (pa_strs es ws (fun i e w h1 h2 => h (i + 1) e w (by simpa using h1) (by simpa using h2)) (by simpa using hl) fun e he => hs e (List.mem_cons_of_mem _ he)) (hs _ List.mem_cons_self es)
theorem ks_pair {K : PySem.W.Frag} {C : Addr} {c : Nat} : ∀ {Ds : List Addr} (n : Nat), (∀ (j : Nat) (D : Addr), Ds[j]? = some D → PySem.W.kitOne K (.ref C) (.ref D) = some (decide (j + n = c))) → Paired (fun D b => PySem.W.kitOne K (.ref C) (.ref D) = some b) Ds ((List.range' n Ds.length).map fun j => decide (j = c))
  | [], n, _ => .nil
  | D :: Ds, n, h => by
    have e := h 0 D rfl
    rw [Nat.zero_add] at e
    rw [List.length_cons, List.range'_succ, List.map_cons]
    exact .cons e (ks_pair (n + 1) fun j D' hj => by have := h (j + 1) D' (by simpa using hj); rwa [Nat.add_right_comm, Nat.add_assoc] at this)
theorem one_true {c n m : Nat} (h1 : m ≤ c) (h2 : c < m + n) : ((List.range' m n).map fun j => decide (j = c)).count true = 1 := by
  induction n generalizing m with
  | zero => omega
  | succ n ih =>
    rw [List.range'_succ, List.map_cons, List.count_cons]
    by_cases e : m = c
    · subst e
      have z : ((List.range' (m + 1) n).map fun j => decide (j = m)).count true = 0 := by
        rw [List.count_eq_zero]
        intro hm
        obtain ⟨j, hj, e⟩ := List.mem_map.mp hm
        have := (List.mem_range'_1.mp hj).1
        have := of_decide_eq_true e
        omega
      rw [z]; simp
    · rw [ih (by omega) (by omega)]
      simp [e]
/-- the reading of the body: slots call, caught, the error's name, kinds -/
def tCgTry (K : PySem.W.Frag) (SE f c' : Addr) (q : Str) (tl : XK → Hp → VK → Prop) : TS := fun D σ H =>
  (fun (W : WX) (D : Ends) (σ : L2.St) (H : Hp) => σ[0]? = some (some (.ref f)) ∧ H c' = some (CodeO c' q) ∧ tl (fun cls d H2 => W cls d σ H2) H (fun _ H1 => D.nx σ H1)) (wKeep K (.ref SE) 2 (fun _ _ _ => tAsg (tVar 2) (gName 1)) D) D σ H
def tCg (K : PySem.W.Frag) (SE f c' : Addr) (q : Str) (tl : XK → Hp → VK → Prop) (tK tW : TA) : TS :=
  tSeq (tAsg (tC .non) (gName 1)) (tSeq (tCgTry K SE f c' q tl) (tSeq (tIfS (tTest (tOp rIsN (tVar 1) (tC .non))) (tRet (tTup (tCons (tC (.str "let")) (tCons (tC .non) tNil)))) tNext)
    (tSeq (tAsg (tLst tK) (gName 3)) (tRet (tTup (tCons (tIf (tTest (tOp rEq (tBM K "list" (rCntB K) (tVar 3) (tCons (tC (.bl true)) tNil)) (tC (.int 1))))
      (tOp (rIxL K) (tLst tW) (tBM K "list" (rIdxB K) (tVar 3) (tCons (tC (.bl true)) tNil))) (tC (.str "odd"))) (tCons (tXk K "value" (tVar 1)) tNil)))))))
theorem tCg_ok {K : PySem.W.Frag} {ec : EC} {SE f c' : Addr} {q : Str} {Ds : List Addr} {ws : List Str} {tl : XK → Hp → VK → Prop} {H : Hp} {B : AS} {r : Except Xn PyData} {D : Ends}
    (tb : LamX.Tabs ec.tb H) (bn : BN H B) (hc : H c' = some (CodeO c' q)) (htl : ∀ (E' : XK) (Q' : VK), sameKd K ec B H r Q' E' → tl E' H Q') (hr : ∀ c x, r = .error (c, x) → ErrC K ec SE Ds ws c) (hw : ws.length ≤ 1000)
    (h : ∀ v H', Sm ec.tb H H' → RD K H' B (toldD ws r) v → D.rt v H') :
    tCg K SE f c' q tl (fun σ H Q => ∃ (a C dd : Addr) (v : V) (bs : List Bool), KF K a C dd v σ H ∧ Paired (fun D b => PySem.W.kitOne K (.ref C) (.ref D) = some b) Ds bs ∧ Q (bs.map V.bl) H) (fun σ H Q => Q (ws.map V.str) H) D [some (.ref f), none, none, none] H := by
  refine ⟨rfl, hc, htl _ _ ?_⟩
  have bd : EV.BD H B := fun a ha z => by obtain ⟨o, e, _⟩ := bn a ha; rw [z] at e; cases e
  cases r with
  | ok d =>
    intro v H' sm rd
    have bd' : EV.BD H' B := fun a ha z => by obtain ⟨o, e, nt⟩ := bn a ha; rw [sm.keep a o e nt] at z; cases z
    refine ⟨.non, rfl, rfl, true, rfl, iteT ⟨by decide, fun p hp => h (.ref p) _ ⟨fun b o e nt => ?_, sm.tabs.ext (EV.Same.new hp)⟩ ?_⟩⟩
    · have e' := sm.keep b o e nt
      rw [upd_ne (ne_of_none e' hp)]; exact e'
    · exact .tup ⟨upd_same, fun z => bd' _ z hp⟩ (.cons (.str _) (.cons .non .nil))
  | error x =>
    obtain ⟨c, xd⟩ := x
    have E := hr c xd rfl
    intro dx v H' sm hx rd
    refine ⟨E.sub, fun a ha => ?_⟩
    refine ⟨.ref a, rfl, fun ha2 => ?_⟩
    -- the error is tracked
    have bd' : EV.BD H' B := fun a ha z => by obtain ⟨o, e, nt⟩ := bn a ha; rw [sm.keep a o e nt] at z; cases z
    have sm1 : Sm ec.tb H (upd H' a (ExV (.ref (ec.ad c)) (some dx) a)) := ⟨fun b o e nt => by
      have e' := sm.keep b o e nt
      rw [upd_ne (ne_of_none e' ha)]; exact e', sm.tabs.ext (EV.Same.new ha)⟩
    have bd1 : EV.BD (upd H' a (ExV (.ref (ec.ad c)) (some dx) a)) B := fun b hb z => by
      obtain ⟨o, e, nt⟩ := bn b hb
      rw [sm1.keep b o e nt] at z; cases z
    have rd1 : RD K (upd H' a (ExV (.ref (ec.ad c)) (some dx) a)) B xd v := rd.kp (.new bd' ha)
    generalize hH1 : upd H' a (ExV (.ref (ec.ad c)) (some dx) a) = H1 at sm1 bd1 rd1
    have ha1 : H1 a = some (ExV (.ref (ec.ad c)) (some dx) a) := by rw [← hH1]; exact upd_same
    have hx1 : H1 dx = some (.xd [(("value" : Str), v)]) := by rw [← hH1, upd_ne (ne_of_none hx ha)]; exact hx
    refine ⟨.ref a, rfl, rfl, false, rfl, iteF ?_⟩
    have hn : Ds.length ≤ 1000 := E.wl ▸ hw
    refine ⟨a, ec.ad c, dx, v, _, ⟨rfl, ha1, hx1, E.exc⟩, ks_pair 0 (fun j D hj => by simpa using E.ks j D hj), ?_⟩
    generalize hbs : ((List.range' 0 Ds.length).map fun j => decide (j = c)) = bs
    have hbl : bs.length = Ds.length := by rw [← hbs]; simp
    have hcnt : bs.count true = 1 := by rw [← hbs]; exact one_true (Nat.zero_le _) (by have := E.lt; omega)
    have hget : ∀ m, m < Ds.length → bs[m]? = some (decide (m = c)) := fun m hm => by rw [← hbs]; simp [hm]
    have s1000 : (1000 : Nat) ≤ sizeLine := by decide
    refine ⟨by rw [List.length_map, hbl]; omega, fun p hp => ?_⟩
    have k2 : ∀ b o, H1 b = some o → upd H1 p (.lst (bs.map V.bl)) b = some o := fun b o e => by rw [upd_ne (ne_of_none e hp)]; exact e
    have hp2 : SqL K (upd H1 p (.lst (bs.map V.bl))) p (bs.map V.bl) := .inl (.inl upd_same)
    have rd2 : RD K (upd H1 p (.lst (bs.map V.bl))) B xd v := rd1.kp (.new bd1 hp)
    have sm2 : Sm ec.tb H (upd H1 p (.lst (bs.map V.bl))) := ⟨fun b o e nt => k2 b o (sm1.keep b o e nt), sm1.tabs.ext (EV.Same.new hp)⟩
    have ha2 := k2 _ _ ha1
    have hx2 := k2 _ _ hx1
    have bd2 : EV.BD (upd H1 p (.lst (bs.map V.bl))) B := fun b hb z => by
      obtain ⟨o, e, nt⟩ := bn b hb
      rw [sm2.keep b o e nt] at z; cases z
    clear hp k2
    generalize upd H1 p (.lst (bs.map V.bl)) = H2 at hp2 rd2 sm2 ha2 hx2 bd2
    refine ⟨.ref p, rfl, .inl ⟨rfl, _, hp2⟩, p, bs, true, rfl, rfl, hp2, rfl, true, by rw [hcnt]; rfl, iteT ?_⟩
    refine ⟨by rw [List.length_map]; omega, fun p3 hp3 => ?_⟩
    have k3 : ∀ b o, H2 b = some o → upd H2 p3 (.lst (ws.map V.str)) b = some o := fun b o e => by rw [upd_ne (ne_of_none e hp3)]; exact e
    have hp3' : SqL K (upd H2 p3 (.lst (ws.map V.str))) p (bs.map V.bl) := by
      rcases hp2 with h | h
      · rcases h with h | ⟨o, h⟩
        · exact .inl (.inl (k3 _ _ h))
        · exact .inl (.inr ⟨o, k3 _ _ h⟩)
      · exact .inr h
    have hl3 : SqL K (upd H2 p3 (.lst (ws.map V.str))) p3 (ws.map V.str) := .inl (.inl upd_same)
    have sm3 : Sm ec.tb H (upd H2 p3 (.lst (ws.map V.str))) := ⟨fun b o e nt => k3 b o (sm2.keep b o e nt), sm2.tabs.ext (EV.Same.new hp3)⟩
    have rd3 := rd2.kp (B' := B) (.new (o := .lst (ws.map V.str)) bd2 hp3)
    have bd3 : EV.BD (upd H2 p3 (.lst (ws.map V.str))) B := fun b hb z => by
      obtain ⟨o, e, nt⟩ := bn b hb
      rw [sm3.keep b o e nt] at z; cases z
    have ha3 := k3 _ _ ha2
    have hx3 := k3 _ _ hx2
    clear hp3 k3
    generalize upd H2 p3 (.lst (ws.map V.str)) = H3 at hp3' hl3 sm3 rd3 ha3 hx3 bd3
    have hcw : ws[c]? = some (ws.getD c "odd") := by
      have := E.lt
      rw [List.getD_eq_getElem?_getD, List.getElem?_eq_getElem (by rw [E.wl]; exact this)]; rfl
    refine ⟨.ref p, rfl, .inl ⟨rfl, _, hp3'⟩, p, bs, true, c, rfl, rfl, hp3', by rw [hget c E.lt]; simp, fun m hm => ?_, ?_⟩
    · rw [hget m (Nat.lt_trans hm E.lt)]
      simp only [ne_eq, Option.some.injEq, decide_eq_true_eq]
      omega
    · refine ⟨p3, _, _, .str (ws.getD c "odd"), rfl, rfl, hl3, atI_nat (by rw [List.getElem?_map, hcw]; rfl), ?_⟩
      refine ⟨.ref a, rfl, a, ec.ad c, dx, _, v, rfl, E.xf, E.val, ha3, hx3, by simp [List.lookup], ?_⟩
      refine ⟨by show 2 ≤ sizeLine; decide, fun p4 hp4 => h (.ref p4) _ ⟨fun b o e nt => ?_, sm3.tabs.ext (EV.Same.new hp4)⟩ ?_⟩
      · have e' := sm3.keep b o e nt
        rw [upd_ne (ne_of_none e' hp4)]; exact e'
      · exact .tup ⟨upd_same, fun z => bd3 _ z hp4⟩ (.cons (.str _) (.cons (rd3.kp (.new bd3 hp4)) .nil))
end EV
end

section
set_option Elab.async false
set_option linter.all false
set_option maxRecDepth 100000
set_option maxHeartbeats 2000000
/-! EvRef: x(lambda: .., word, value), through two defs. -/
namespace EV
open PySem PySem.Spec PyProof.Rows L2 LamX
abbrev tKs (K : PySem.W.Frag) (Ds : List Addr) : TA := fun σ H Q => ∃ (a C dd : Addr) (v : V) (bs : List Bool), KF K a C dd v σ H ∧ Paired (fun D b => PySem.W.kitOne K (.ref C) (.ref D) = some b) Ds bs ∧ Q (bs.map V.bl) H
abbrev tWs (ws : List Str) : TA := fun σ H Q => Q (ws.map V.str) H
section
variable {P : Program} {w : World} {K : PySem.W.Frag} {mg : Str → Option Value} {base : Heap}
/-- the body of the def that calls: its reading, if its call reads so -/
def CgOk (P : Program) (w : World) (K : PySem.W.Frag) (mg : Str → Option Value) (base : Heap) (N2 : List Str) (q2 : Str) (sg2 : Scope) (g2 : Addr) (cd2 : Value) (body2 : List Stmt) (SE : Addr) (Ds : List Addr) (ws : List Str) : Prop :=
  ∀ (A : Around) (outer : List Env) (s : Shared) (H : Hp) (f c' : Addr) (q : Str) (tl : XK → Hp → VK → Prop), Room 0 (A.deeper (envOfC q2 sg2 s.heap.objs.size g2 cd2)) →
    (∀ (W : WX) (pn : List (Addr × Obj)) (xe : Value → Shared → Prop) (p1 p2 : Pos), Takes ((cxOf (L2.CX P w) P w K mg base N2 q2 sg2 g2 cd2 A outer s H E0').tr pn xe) W →
      PE ((cxOf (L2.CX P w) P w K mg base N2 q2 sg2 g2 cd2 A outer s H E0').tr pn xe) (.Call (.Name "call" p1) [] [] p2) (fun σZ HZ Q => σZ[0]? = some (some (.ref f)) ∧ HZ c' = some (CodeO c' q) ∧ tl (fun cls d H2 => W cls d σZ H2) HZ Q)) →
    PSs (cxOf (L2.CX P w) P w K mg base N2 q2 sg2 g2 cd2 A outer s H E0') body2 (tCg K SE f c' q tl (tKs K Ds) (tWs ws))
/-- a def of one text, by name: what the calls need -/
structure DefAt (K : PySem.W.Frag) (mg : Str → Option Value) (x : Str) (g : Addr) (N ps : List Str) (sg : Scope) (body : List Stmt) (cd : Value) (fd : FuncData) : Prop where
  at_ : ∃ (pg : Arguments) (dV kV doc pm ct oc : Value) (an od : Option Addr) (osl : Array (Option Value)), fd = PySem.W.fnOf x x pg body sg dV kV doc pm an cd ct ∧ K.lookup g = some ⟨oc, od, .func fd, osl⟩
  code : PySem.W.codeIn K cd x = true
  binds : L2.Binds K fd ps []
  scope : FnScope N ps sg
  keep : PySem.W.keepIn K (.ref g) = true
  glob : mg x = some (.ref g)
end
section
variable {X : Cx} {pins : List (Addr × Obj)} {σ : L2.St} {H : Hp} {s : Shared} {ec : EC}
variable {x1 x2 : Str} {g1 g2 : Addr} {N1 N2 : List Str} {sg1 sg2 : Scope} {body1 body2 : List Stmt} {cd1 cd2 : Value} {fd1 fd2 : FuncData} {SE : Addr} {Ds : List Addr} {ws : List Str}
variable {f c' : Addr} {pm ctv : Value} {params : Arguments} {body : Expr} {scope : Scope} {k : Nat} {tb : XK → TE}
/-- y(call), in the def that got the lambda first -/
theorem pe_caught {A1 : Around} {E1 : XK} {p1 p2 p3 : Pos} {a : Str}
    (I : Inv X pins σ H s) (L : LamS X.env.scope scope) (hf : s.heap.get? f = some (lamO X params body scope pm ctv c')) (hfn : H f = none) (hfr : f ∉ frs X.stack)
    (hbind : bindArgs (PySem.W.kla_fn "<lambda>" (X.env.qual ++ "<lambda>") params body scope (cloFrom X.env.cells scope.names []) pm (.ref c') ctv) ⟨[], []⟩ = pure [])
    (D2 : DefAt X.K X.mg x2 g2 N2 ["call"] sg2 body2 cd2 fd2) (hcg : CgOk X.prog X.w X.K X.mg X.base N2 x2 sg2 g2 cd2 body2 SE Ds ws) (hN2 : N2.length = 4) (hn2 : N2[0]? = some ("call" : Str)) (hv2 : Vis sg2 "call") (hw : ws.length ≤ 1000)
    (hG : A1.guards = some []) (hbody : ∀ (E : XK) (A : Around) (outer : List Env) (s : Shared) (H : Hp), Room k (A.deeper (lamEnv X scope s.heap.objs.size f c')) → A.guards = some [] → PE (lamCx X A outer s H E scope f c') body (tb E))
    (hr : Room (k + 2) (A1.deeper (envOfC x1 sg1 s.heap.objs.size g1 cd1))) (hN : N1[0]? = some a) (hv : Vis sg1 a) (hg : sg1.names.lookup x2 = some .globalImplicit) (hd : (a == ("__debug__" : Str)) = false) (hcd : (a == ("__classdict__" : Str)) = false) (hdx : (x2 == ("__debug__" : Str)) = false) :
    PE (inZ X (L2.CX X.prog X.w) E1 N1 x1 sg1 g1 cd1 A1 X.stack s H) (.Call (.Name x2 p1) [.Name a p2] [] p3)
      (fun σ1 H1 Q => σ1[0]? = some (some (.ref f)) ∧ H1 c' = some (CodeO c' (X.env.qual ++ "<lambda>")) ∧ ∃ (B : AS) (r : Except Xn PyData), LamX.Tabs ec.tb H1 ∧ BN H1 B ∧ (∀ (E' : XK) (Q' : VK), sameKd X.K ec B H1 r Q' E' → tb E' σ H1 Q') ∧
        (∀ c x, r = .error (c, x) → ErrC X.K ec SE Ds ws c) ∧ ∀ v H', Sm ec.tb H1 H' → RD X.K H' B (toldD ws r) v → Q v H') := by
  obtain ⟨⟨pg, dV, kV, doc, pmd, ct, oc, an, od, osl, rfl, lk⟩, hcode2, hb2, S2, hk2, hm2⟩ := D2
  refine ⟨fun pins1 s1 σ1 H1 Q I1 q => ?_⟩
  obtain ⟨h0, hc, B, r, tabs, bn, htl, hec, hq⟩ := q
  refine wpAny_Call_Name_kw (ld_glob I1 (show Gl _ x2 from hg) hm2 ?_ hdx)
  refine PySem.W.callWith_K (h₀ := X.base) I1.ok.mod.kin hk2 (thn ((pa_cons (pe_var (pos := p2) (i := 0) hN hv hd hcd) pa_nil).run p3 pins1 s1 σ1 H1 (fun vs H' => vs = [.ref f] ∧ H' = H1) I1 ⟨.ref f, h0, rfl, rfl⟩) fun us s3 ⟨vs, H3, I3, rv, ev, eH⟩ => ?_) (by rfl) (by rfl)
  subst ev
  rw [eH] at I3
  obtain ⟨u, rfl, ru⟩ := rv.one
  obtain rfl : u = Value.ref f := ru
  refine ⟨I3.kIn, ?_⟩
  have un : Un (frs X.stack) [] H H1 s.heap s3.heap := I3.base
  have rc : codeAny (model X.prog X.w) (A1.deeper (envOfC x1 sg1 s.heap.objs.size g1 cd1)) (.call (.ref g2) ⟨[.ref f], []⟩) (CR (L2.CX X.prog X.w) (envOfC x1 sg1 s.heap.objs.size g1 cd1 :: X.stack) X.prog X.w H1 s3 Q E0') s3 := by
    refine run_ofS (N := N2) (ps := ["call"]) (us := [.ref f]) (vs := [.ref f]) lk hcode2 S2 hr I3.env0 (hb2 s3 [.ref f] I3.kIn rfl) (.cons rfl .nil) rfl fun hr' => ?_
    refine ⟨_, hcg (A1.deeper (envOfC x1 sg1 s.heap.objs.size g1 cd1)) (envOfC x1 sg1 s.heap.objs.size g1 cd1 :: X.stack) s3 H1 f c' (X.env.qual ++ "<lambda>") (fun E' H' Q' => tb E' σ H' Q') (hr'.mono (Nat.zero_le _)) (fun W pn xe q1 q2 tk => ?_), ?_⟩
    · refine act_pe (i := 0) (A' := A1.deeper (envOfC x1 sg1 s.heap.objs.size g1 cd1)) (outer' := envOfC x1 sg1 s.heap.objs.size g1 cd1 :: X.stack) (s' := s3) (H' := H1) I L hf hfn hfr hbind (fun HZ hZ unz => ?_) tk hr' hG hbody hn2 hv2 (by decide) (by decide)
      exact un_two (fs := []) (L := s.heap.objs.size) (env1 := envOfC x1 sg1 s.heap.objs.size g1 cd1) rfl (Nat.le_refl _) un unz
    · have e4 : L2.start N2 [V.ref f] = [some (.ref f), none, none, none] := by
        unfold L2.start
        rw [hN2]
        rfl
      rw [e4]
      exact tCg_ok (D := { nx := fun _ H' => Q .non H', rt := Q }) tabs bn hc htl hec hw hq
  refine wpAny_call (codeAny_mono rc fun r' s4 hq' => ?_)
  cases r' with
  | error e =>
    obtain ⟨_, _, _, _, _, _, _, _, _, _, _, _, z⟩ := (show L2.CX X.prog X.w _ H1 s3 E0' e s4 from hq')
    exact z.elim
  | ok fl =>
    cases fl with
    | ret u => exact I3.after hq'
    | next => exact False.elim hq'
    | brk => exact False.elim hq'
    | cont => exact False.elim hq'
/-- owned lists and dicts of the frame left out -/
def hide (fr : Fr) : Fr := fr.map fun s => match s with | .fz d => .fz d | _ => .no
theorem hide_get {fr : Fr} {i : Nat} {s : SD} (h : (hide fr)[i]? = some s) : s = .no ∨ ∃ d, s = .fz d ∧ fr[i]? = some (.fz d) := by
  unfold hide at h
  rw [List.getElem?_map] at h
  cases e : fr[i]? with
  | none => rw [e] at h; cases h
  | some t =>
    rw [e] at h
    cases t with
    | no => cases h; exact .inl rfl
    | fz d => cases h; exact .inr ⟨d, rfl, rfl⟩
    | ow l d => cases h; exact .inl rfl
theorem hide_rf {K : PySem.W.Frag} {B : AS} {fr : Fr} (R : RF K ec H B fr σ) : RF K ec H B (hide fr) σ where
  len := by unfold hide; rw [List.length_map]; exact R.len
  fz := fun i d h => by
    rcases hide_get h with z | ⟨d', z, q⟩
    · cases z
    · cases z; exact R.fz i _ q
  ow := fun i l d h => by rcases hide_get h with z | ⟨d', z, q⟩ <;> cases z
  dis := fun i j l l' d d' a h => by rcases hide_get h with z | ⟨d', z, q⟩ <;> cases z
  bdom := R.bdom
  tabs := R.tabs
theorem hide_nwr {fr : Fr} (b : Addr) : ¬ Wr (hide fr) σ b := fun ⟨i, l, d, h, _⟩ => by rcases hide_get h with z | ⟨d', z, q⟩ <;> cases z
/-- what a piece does on a hidden frame, as a call's promise -/
theorem hide_call {K : PySem.W.Frag} {B : AS} {fr fr1 : Fr} {m : M PyData} {r : Except Xn PyData} {E' : XK} {Q' : VK} (R : RF K ec H B fr σ) (e : m (hide fr) = some (r, fr1)) (h : sameKd K ec B H r Q' E') : tOf K ec E' (rlE K) m σ H Q' := by
  refine ⟨B, hide fr, r, fr1, hide_rf R, e, ?_⟩
  have weak : ∀ {σ' B' H' d v}, Step (hide fr) σ B H fr1 σ' B' H' → RD K H' B' d v → RD K H' B d v := fun st rd =>
    rd.kp ⟨fun _ _ e _ _ => e, fun b o e _ n z => n (st.bk b z (hide_nwr b))⟩
  cases r with
  | ok d => exact fun σ' H' B' st R' es v rd => h v H' ⟨fun b o e nt => st.keep b o e nt (hide_nwr b), R'.tabs⟩ (weak st rd)
  | error x => exact fun σ' H' B' dx v st R' hx rd => h dx v H' ⟨fun b o e nt => st.keep b o e nt (hide_nwr b), R'.tabs⟩ hx (weak st rd)
/-- x(lambda: .., word, value): m the lambda's meaning, mR that of the rest of x's body -/
def okR (ws : List Str) (r : Except Xn PyData) : Bool := match r with
  | .ok _ => true
  | .error (c, _) => decide (c < ws.length)
def mRef (m : M PyData) (ws : List Str) (mR : M PyData) (mas : M (List Opd)) : M PyData := mas.bind fun xs => fun fr => match inls xs with
  | some [dw, dv] => (match m (hide fr) with
    | some (r, _) => if okR ws r = true then (match mR [.no, .fz dw, .fz dv, .fz (toldD ws r)] with
      | some (.ok d, _) => some (.ok d, fr)
      | _ => none) else none
    | none => none)
  | _ => none
theorem codeO_nt {c : Addr} {q : Str} : NT (CodeO c q) := fun ps z => by unfold CodeO at z; cases z
theorem codeO_nwr {K : PySem.W.Frag} {B : AS} {fr : Fr} {q : Str} (R : RF K ec H B fr σ) (h : H c' = some (CodeO c' q)) : ¬ Wr fr σ c' := fun w => by
  obtain ⟨i, l, d, h1, h2⟩ := w
  obtain ⟨a, h3, _, h4⟩ := R.ow i l d h1
  rw [h2] at h3
  cases h3
  cases h4 with
  | lst e _ => rw [h] at e; unfold CodeO at e; cases e
  | dT e _ => rw [h] at e; unfold CodeO at e; cases e
  | dK e _ _ => rw [h] at e; unfold CodeO at e; cases e
theorem ev_refuses {W : XK} {m mR : M PyData} {mas : M (List Opd)} {c Pt : Addr} {e1 e2 eR : Expr} {p pos lpos pt pc pn pp pa pr : Pos} {a told : Str}
    (D1 : DefAt X.K X.mg x1 g1 N1 [a, "word", "value"] sg1 [.Assign [.Name told pt] (.Call (.Name x2 pc) [.Name a pn] [] pp) pa, .Return (some eR) pr] cd1 fd1)
    (D2 : DefAt X.K X.mg x2 g2 N2 ["call"] sg2 body2 cd2 fd2) (hcg : CgOk X.prog X.w X.K X.mg X.base N2 x2 sg2 g2 cd2 body2 SE Ds ws) (hN2 : N2.length = 4) (hn2 : N2[0]? = some ("call" : Str)) (hv2 : Vis sg2 "call") (hw : ws.length ≤ 1000)
    (hN1 : N1 = [a, "word", "value", told]) (hva : Vis sg1 a) (hlt : Loc sg1 told) (hltf : sg1.names.lookup told = some .local) (hg2 : sg1.names.lookup x2 = some .globalImplicit) (hda : (a == ("__debug__" : Str)) = false) (hca : (a == ("__classdict__" : Str)) = false) (hdx : (x2 == ("__debug__" : Str)) = false)
    (hR : ∀ (A : Around) (outer : List Env) (s : Shared) (H : Hp) (E : XK), Room 0 (A.deeper (envOfC x1 sg1 s.heap.objs.size g1 cd1)) → A.guards = some [] → EvE (cxOf (L2.CX X.prog X.w) X.prog X.w X.K X.mg X.base N1 x1 sg1 g1 cd1 A outer s H E) ec E eR mR)
    (hG : X.A.guards = some []) (hst : X.stack = X.env :: X.outer) (hef : X.env.frame = some X.env.locals)
    (TB : TabB X.base X.mg c Pt) (hcode : X.env.code = .ref c) (hmT : (Pt, X.env.qual ++ "<lambda>") ∈ ec.tb) (hu : ∀ p ∈ ec.tb, p.1 = Pt → p.2 = X.env.qual ++ "<lambda>") (hr : Room (k + 3) X.A) (L : LamS X.env.scope scope) (hdef : defaultsOf params X.env = ([], []))
    (hbind : ∀ (q : Str) (cl : List (Str × Addr)) (pm cv ctv : Value), bindArgs (PySem.W.kla_fn "<lambda>" q params body scope cl pm cv ctv) ⟨[], []⟩ = pure [])
    (hbody : ∀ (E : XK) (A : Around) (outer : List Env) (s : Shared) (H : Hp) (f c' : Addr), Room k (A.deeper (lamEnv X scope s.heap.objs.size f c')) → A.guards = some [] → EvE (lamCx X A outer s H E scope f c') ec E body m)
    (hec : ∀ (c : Nat), c < ws.length → ErrC X.K ec SE Ds ws c)
    (hg : Gl X x1) (hd1 : (x1 == ("__debug__" : Str)) = false) (ha : EvA X ec W [e1, e2] mas)
    (hsl : starEach (.Lambda params body scope lpos :: [e1, e2]) X.env = (false, eval (.Lambda params body scope lpos) X.env) :: starEach [e1, e2] X.env) (hpl : (backTo pos (starEach [e1, e2] X.env)).any (·.1) = false) :
    EvE X ec W (.Call (.Name x1 p) (.Lambda params body scope lpos :: [e1, e2]) [] pos) (mRef m ws mR mas) := by
  obtain ⟨⟨pg, dV, kV, doc, pmd, ct, oc, an, od, osl, rfl, lk⟩, hcode1, hb1, S1, hk1, hm1⟩ := D1
  refine ⟨fun pins s σ H Q I q => ?_⟩
  obtain ⟨B, fr, r, fr', R, e, hres⟩ := q
  refine wpAny_Call_Name_kw (ld_glob I hg hm1 ?_ hd1)
  refine PySem.W.callWith_K (h₀ := X.base) I.ok.mod.kin hk1 ?_ hsl hpl
  refine Calls.spliced_cons (lam_make2 I TB hcode hmT hu R.tabs hdef (L.has I.ok) fun f c' pm' ctv H1 s1 I1 eN T1 hf hfn hfr hco => ?_)
  have frs_eq : frs X.stack = X.env.locals :: frs X.outer := by rw [hst]; unfold frs; rw [List.filterMap_cons, hef]
  have sm1 : Sm ec.tb H H1 := ⟨fun b o e nt => eN b o e nt, T1⟩
  have R1 := R.exs sm1
  have st1 : Step fr σ B H fr σ B H1 := .exs sm1
  have hmem : f ≠ X.env.locals ∧ f ∉ X.fs := ⟨fun z => hfr (by rw [frs_eq, z]; exact List.mem_cons_self), fun z => hfr (by rw [frs_eq]; exact List.mem_cons_of_mem _ z)⟩
  have I1p : Inv X ((f, lamO X params body scope pm' ctv c') :: pins) σ H1 s1 := I1.pins_of fun p hp => (List.mem_cons.mp hp).elim (fun z => by subst z; exact ⟨hf, hfn, hmem.1, hmem.2, fun v z => by cases z⟩) fun z => I1.pin p (List.mem_append_right _ z)
  refine thn (ha.run pos _ s1 σ H1 (fun vs H2 => ∃ (dw dv : PyData) (vw vv : V) (r0 : Except Xn PyData) (frz fr1 fr2 : Fr) (d : PyData) (B2 : AS), vs = [vw, vv] ∧ okR ws r0 = true ∧ RF X.K ec H2 B2 fr1 σ ∧ RD X.K H2 B2 dw vw ∧ RD X.K H2 B2 dv vv ∧ m (hide fr1) = some (r0, frz) ∧ mR [.no, .fz dw, .fz dv, .fz (toldD ws r0)] = some (.ok d, fr2) ∧
    H2 c' = some (CodeO c' (X.env.qual ++ "<lambda>")) ∧ Res X.K ec W fr1 σ B2 H2 (.ok d) fr1 (fun a σ' H' B' => σ' = σ → ∀ b, RD X.K H' B' a b → Q b H')) I1p (Spc.thn tOf_sp R1 e (hres.after R st1) fun xs vs fr1 H2 B2 R2 st2 e2 rel hr2 => ?_)) fun us s2 hh => ?_
  · -- the arguments' values
    split at e2
    · rename_i dw dv qi
      split at e2
      · rename_i r0 frz qm
        split at e2
        · rename_i hok
          split at e2
          · rename_i d fr2 qR
            cases e2
            have rds := inls_rd rel qi
            cases rds with
            | cons rw t =>
              cases t with
              | cons rv t =>
                cases t
                exact ⟨dw, dv, _, _, r0, frz, _, fr2, d, B2, rfl, hok, R2, rw, rv, qm, qR, st2.keep _ _ hco codeO_nt (codeO_nwr R1 hco), hr2⟩
          · cases e2
        · cases e2
      · cases e2
    · cases e2
  obtain ⟨vs, H2, I2, rv, dw, dv, vw, vv, r0, frz, fr1, fr2, d, B2, rfl, hok, R2, rdw, rdv, qm, qR, hco2, hr2⟩ := hh
  obtain ⟨uw, us', rfl, ruw, rv2⟩ : ∃ uw us', us = uw :: us' ∧ RelV vw uw ∧ Vals [vv] us' := by
    cases rv with
    | cons h t => exact ⟨_, _, rfl, h, t⟩
  obtain ⟨uv, rfl, ruv⟩ := rv2.one
  have hpin := I2.pin (f, lamO X params body scope pm' ctv c') (List.mem_append_right _ List.mem_cons_self)
  have I2' : Inv X pins σ H2 s2 := I2.pins_of fun p hp => I2.pin p (List.mem_append_right _ (List.mem_cons_of_mem _ hp))
  refine ⟨I2.kIn, ?_⟩
  have rc : codeAny (model X.prog X.w) X.A (.call (.ref g1) ⟨[.ref f, uw, uv], []⟩) (CR (L2.CX X.prog X.w) X.stack X.prog X.w H2 s2 Q E0') s2 := by
    refine run_ofS (N := N1) (ps := [a, "word", "value"]) (us := [.ref f, uw, uv]) (vs := [.ref f, vw, vv]) lk hcode1 S1 hr I2'.env0 (hb1 s2 [.ref f, uw, uv] I2.kIn rfl) (.cons rfl (.cons ruw (.cons ruv .nil))) rfl fun hr' => ?_
    have hN0 : N1[0]? = some a := by rw [hN1]; rfl
    have pc := pe_caught (ec := ec) (E1 := E0') (p1 := pc) (p2 := pn) (p3 := pp) (x1 := x1) (sg1 := sg1) (g1 := g1) (cd1 := cd1) (N1 := N1) (A1 := X.A) (tb := fun E => tOf X.K ec E (rlE X.K) m) I2' L hpin.1 hpin.2.1 hfr (hbind _ _ _ _ _) D2 hcg hN2 hn2 hv2 hw hG (fun E A outer s H hr2 hG2 => hbody E A outer s H f c' hr2 hG2) hr' hN0 hva hg2 hda hca hdx
    have p1' := ps_set (pos := pa) (pos' := pt) (i := 3) (X := cxOf (L2.CX X.prog X.w) X.prog X.w X.K X.mg X.base N1 x1 sg1 g1 cd1 X.A X.stack s2 H2 E0') S1.nd (by show N1[3]? = some told; rw [hN1]; rfl) hlt pc (by rfl) (.inr hltf)
    have p2' := ps_ret (pos := pr) (hR X.A X.stack s2 H2 E0' (hr'.mono (Nat.zero_le _)) hG)
    refine ⟨_, pss_cons p1' (pss_one p2'), ?_⟩
    have e4 : L2.start N1 [V.ref f, vw, vv] = [some (.ref f), some vw, some vv, none] := by
      rw [hN1]; rfl
    rw [e4]
    refine ⟨rfl, hco2, B2, r0, R2.tabs, R2.bdom, fun E' Q' h => hide_call R2 qm h, fun c x hx => hec c (by subst hx; exact of_decide_eq_true hok), fun v H' sm rd => ?_⟩
    -- behind the call: the rest on data
    have rdw' := rdw.kp (sm.kp (B := B2))
    have rdv' := rdv.kp (sm.kp (B := B2))
    have RX := R2.exs sm
    have RN : RF X.K ec H' B2 [.no, .fz dw, .fz dv, .fz (toldD ws r0)] [some (.ref f), some vw, some vv, some v] := by
      have q0 := start_rf (K := X.K) (ec := ec) (ds := []) (vs := []) RX.tabs RX.bdom .nil 4
      have q1 := (set_no q0 0 (some (.ref f))).2
      have q2 := (set_fz q1 1 rdw').2
      have q3 := (set_fz q2 2 rdv').2
      exact (set_fz q3 3 rd).2
    refine ⟨B2, [.no, .fz dw, .fz dv, .fz (toldD ws r0)], .ok d, fr2, RN, qR, ?_⟩
    intro σ' H4 B4 st4 R4 es v4 rd4
    have nwr : ∀ b, ¬ Wr [.no, .fz dw, .fz dv, .fz (toldD ws r0)] [some (.ref f), some vw, some vv, some v] b := fun b ⟨i, l, d', h1, _⟩ => by
      match i with
      | 0 => cases h1
      | 1 => cases h1
      | 2 => cases h1
      | 3 => cases h1
      | n + 4 => cases h1
    have sm4 : Sm ec.tb H2 H4 := ⟨fun b o e nt => st4.keep b o (sm.keep b o e nt) nt (nwr b), R4.tabs⟩
    have rd5 : RD X.K H4 B2 d v4 := rd4.kp ⟨fun _ _ e _ _ => e, fun b o e _ n z => n (st4.bk b z (nwr b))⟩
    exact hr2 σ H4 B2 (.exs sm4) (R2.exs sm4) rfl v4 rd5
  refine wpAny_call (codeAny_mono rc fun r' s4 hq' => ?_)
  cases r' with
  | error e =>
    obtain ⟨_, _, _, _, _, _, _, _, _, _, _, _, z⟩ := (show L2.CX X.prog X.w _ H2 s2 E0' e s4 from hq')
    exact z.elim
  | ok fl =>
    cases fl with
    | ret u => exact I2'.after hq'
    | next => exact False.elim hq'
    | brk => exact False.elim hq'
    | cont => exact False.elim hq'
end
end EV
end

section
set_option Elab.async false
set_option linter.all false
set_option maxRecDepth 100000
/-! EvP1: primitives on data: ints, comparisons, sequences. -/
namespace EV
open PySem PySem.Spec PyProof.Rows L2
variable {K : PySem.W.Frag} {H H1 H2 H' : Hp} {B B1 B2 B' : AS} {fr fr1 fr2 fr' : Fr} {σ σ1 σ2 σ' : L2.St} {ec : EC} {W : XK} {X : Cx}
/-! ### either of two -/
theorem Pr2.or {r r' : R2} {p p' : PyData → PyData → Option PyData} (h : Pr2 K r p) (h' : Pr2 K r' p') : Pr2 K (fun x y H Q => r x y H Q ∨ r' x y H Q) (fun a b => (p a b).orElse fun _ => p' a b) := by
  intro H B x y dx dy d Q bd rx ry e hq
  cases q : p dx dy with
  | some d1 =>
    simp only [q, Option.orElse] at e
    cases e
    exact .inl (h H B x y dx dy d Q bd rx ry q hq)
  | none =>
    simp only [q, Option.orElse] at e
    exact .inr (h' H B x y dx dy d Q bd rx ry e hq)
/-! ### ints -/
def pI (f : Int → Int → PyData) : PyData → PyData → Option PyData
  | .int i, .int j => some (f i j)
  | _, _ => none
def pIc (c : Int → Int → Bool) (f : Int → Int → PyData) : PyData → PyData → Option PyData
  | .int i, .int j => if c i j then some (f i j) else none
  | _, _ => none
theorem pr_I {f : Int → Int → V} {g : Int → Int → PyData} (h : ∀ i j H B, RD K H B (g i j) (f i j)) : Pr2 K (rI0 f) (pI g) := by
  intro H B x y dx dy d Q bd rx ry e hq
  unfold pI at e
  split at e
  · rename_i i j
    cases e
    exact ⟨i, j, rx.int, ry.int, hq _ H (fun _ _ z => z) (h i j H B)⟩
  · cases e
theorem pr_Ic {C : Int → Int → Prop} {c : Int → Int → Bool} {f : Int → Int → V} {g : Int → Int → PyData} (hc : ∀ i j, c i j = true → C i j) (h : ∀ i j H B, RD K H B (g i j) (f i j)) : Pr2 K (rI C f) (pIc c g) := by
  intro H B x y dx dy d Q bd rx ry e hq
  unfold pIc at e
  split at e
  · rename_i i j
    split at e
    · rename_i q
      cases e
      exact ⟨i, j, rx.int, ry.int, hc i j q, hq _ H (fun _ _ z => z) (h i j H B)⟩
    · cases e
  · cases e
abbrev pAddI := pI fun i j => .int (i + j)
abbrev pSub := pI fun i j => .int (i - j)
abbrev pLt := pI fun i j => .bool (decide (i < j))
abbrev pLe := pI fun i j => .bool (decide (i ≤ j))
abbrev pGt := pI fun i j => .bool (decide (j < i))
abbrev pGeI := pI fun i j => .bool (decide (j ≤ i))
def bitsI (i : Int) : Nat := Builtin.Int.intBits i
abbrev pMulI := pIc (fun i j => decide (bitsI i + bitsI j ≤ 134217728)) fun i j => .int (i * j)
abbrev pMod := pIc (fun _ j => decide (0 < j)) fun i j => .int (i % j)
abbrev pDiv := pIc (fun _ j => decide (0 < j ∧ j.natAbs.log2 < 9000)) fun i j => .int (i / j)
abbrev pPow := pIc (fun i j => decide (0 ≤ j ∧ (bitsI i : Int) * j ≤ 134217728)) fun i j => .int (i ^ j.toNat)
theorem op_powX : OpR X (binaryOp .Pow) (rI (fun i j => 0 ≤ j ∧ (bitsI i : Int) * j ≤ 134217728) fun i j => .int (i ^ j.toNat)) := opI fun _ _ _ _ _ _ _ hc q => pow_int hc.1 (by have := hc.2; unfold bitsI at this; exact this) q
theorem pr_addI : Pr2 K (rI0 fun i j => .int (i + j)) pAddI := pr_I fun _ _ _ _ => .int _
theorem pr_sub : Pr2 K (rI0 fun i j => .int (i - j)) pSub := pr_I fun _ _ _ _ => .int _
theorem pr_lt : Pr2 K (rI0 fun i j => .bl (decide (i < j))) pLt := pr_I fun _ _ _ _ => .bl _
theorem pr_le : Pr2 K (rI0 fun i j => .bl (decide (i ≤ j))) pLe := pr_I fun _ _ _ _ => .bl _
theorem pr_gt : Pr2 K (rI0 fun i j => .bl (decide (j < i))) pGt := pr_I fun _ _ _ _ => .bl _
theorem pr_geI : Pr2 K (rI0 fun i j => .bl (decide (j ≤ i))) pGeI := pr_I fun _ _ _ _ => .bl _
theorem pr_mulI : Pr2 K (rI CMulX fun i j => .int (i * j)) pMulI := pr_Ic (fun i j h => by have := of_decide_eq_true h; unfold bitsI at this; unfold CMulX; omega) fun _ _ _ _ => .int _
theorem pr_mod : Pr2 K (rI (fun _ j => 0 < j) fun i j => .int (i % j)) pMod := pr_Ic (fun i j h => of_decide_eq_true h) fun _ _ _ _ => .int _
theorem pr_div : Pr2 K (rI CDivW fun i j => .int (i / j)) pDiv := pr_Ic (fun i j h => show 0 < j ∧ j.natAbs.log2 < 9000 from of_decide_eq_true h) fun _ _ _ _ => .int _
theorem pr_pow : Pr2 K (rI (fun i j => 0 ≤ j ∧ (bitsI i : Int) * j ≤ 134217728) fun i j => .int (i ^ j.toNat)) pPow := pr_Ic (fun i j h => of_decide_eq_true h) fun _ _ _ _ => .int _

/-! ### is -/
def isNone : PyData → Bool
  | .none => true
  | _ => false
def pIsN : PyData → PyData → Option PyData
  | d, .none => some (.bool (isNone d))
  | _, _ => none
def pNotN : PyData → PyData → Option PyData
  | d, .none => some (.bool (!isNone d))
  | _, _ => none
theorem rt_non {d : PyData} {v : V} (r : RT K H B d v) : decide (v = .non) = isNone d := by
  rcases r with r | ⟨a, rfl, _, h⟩
  · cases r <;> rfl
  · cases h <;> rfl
theorem pr_isN : Pr2 K rIsN pIsN := by
  intro H B x y dx dy d Q bd rx ry e hq
  unfold pIsN at e
  split at e
  · cases e
    refine ⟨ry.none, ?_⟩
    rw [rt_non rx]
    exact hq _ H (fun _ _ z => z) (.bl _)
  · cases e
theorem pr_notN : Pr2 K (fun x y H Q => y = .non ∧ Q (.bl (!decide (x = .non))) H) pNotN := by
  intro H B x y dx dy d Q bd rx ry e hq
  unfold pNotN at e
  split at e
  · cases e
    refine ⟨ry.none, ?_⟩
    rw [rt_non rx]
    exact hq _ H (fun _ _ z => z) (.bl _)
  · cases e
def pIsB : PyData → PyData → Option PyData
  | .bool a, .bool b => some (.bool (a == b))
  | _, _ => none
theorem pr_isB : Pr2 K rIsB pIsB := by
  intro H B x y dx dy d Q bd rx ry e hq
  unfold pIsB at e
  split at e
  · rename_i a b
    cases e
    refine ⟨a, b, rx.bool, ry.bool, ?_⟩
    have e : decide (a = b) = (a == b) := by cases a <;> cases b <;> rfl
    rw [e]
    exact hq _ H (fun _ _ z => z) (.bl _)
  · cases e

/-! ### data as the hand layer's Dp -/
mutual
theorem RD.dp : ∀ {d : PyData} {v : V}, RD K H B d v → d.canLay0 = true → Dp K H v d
  | _, _, .non, _ => .non
  | _, _, .bl b, _ => .bl b
  | _, _, .int i, _ => .int i
  | _, _, .str x, _ => .str x
  | _, _, .lst h t, c => .lst (h.elim (fun z => .inl z.1) .inr) (RDs.dp t (by simpa [PyData.canLay0] using c))
  | _, _, .tup h t, c => .tup (.inl (.inl h.1)) (RDs.dp t (by simpa [PyData.canLay0] using c))
  | _, _, .dT _ _ _, c => by simp [PyData.canLay0] at c
  | _, _, .dK _ _ _ _, c => by simp [PyData.canLay0] at c
theorem RDs.dp : ∀ {d : List PyData} {v : List V}, RDs K H B d v → PyData.canLayAll0 d = true → DpAll K H v d
  | _, _, .nil, _ => .nil
  | d :: ds, _, .cons h t, c => by
    have c' : d.canLay0 = true ∧ PyData.canLayAll0 ds = true := by simpa [PyData.canLayAll0] using c
    exact .cons (RD.dp h c'.1) (RDs.dp t c'.2)
end
theorem RT.dp {d : PyData} {v : V} (r : RT K H B d v) (c : d.canLay0 = true) : Dp K H v d := by
  rcases r with r | ⟨a, rfl, _, h⟩
  · exact r.dp c
  · cases h with
    | lst e r => exact .lst (.inl (.inl e)) (r.dp (by simpa [PyData.canLay0] using c))
    | dT _ _ => simp [PyData.canLay0] at c
    | dK _ _ _ => simp [PyData.canLay0] at c
def pEqS : PyData → PyData → Option PyData
  | .int i, .int j => some (.bool (i == j))
  | .str x, .str y => some (.bool (decide (x = y)))
  | _, _ => none
def pNeS : PyData → PyData → Option PyData
  | .int i, .int j => some (.bool (!(i == j)))
  | .str x, .str y => some (.bool (!decide (x = y)))
  | _, _ => none
theorem dec_str {x y : Str} : decide (V.str x = V.str y) = decide (x = y) := by
  by_cases h : x = y
  · rw [decide_eq_true h, h]; simp
  · rw [decide_eq_false h, decide_eq_false fun z => h (V.str.inj z)]
theorem pr_eqS : Pr2 K rEq pEqS := by
  intro H B x y dx dy d Q bd rx ry e hq
  unfold pEqS at e
  split at e
  · rename_i i j
    cases e
    rw [rx.int, ry.int]
    refine ⟨rfl, ?_⟩
    rw [dec_int]
    exact hq _ H (fun _ _ z => z) (.bl _)
  · rename_i a b
    cases e
    rw [rx.str, ry.str]
    refine ⟨rfl, ?_⟩
    rw [dec_str]
    exact hq _ H (fun _ _ z => z) (.bl _)
  · cases e
theorem pr_neS : Pr2 K rNe pNeS := by
  intro H B x y dx dy d Q bd rx ry e hq
  unfold pNeS at e
  split at e
  · rename_i i j
    cases e
    rw [rx.int, ry.int]
    refine ⟨rfl, ?_⟩
    rw [dec_int]
    exact hq _ H (fun _ _ z => z) (.bl _)
  · rename_i a b
    cases e
    rw [rx.str, ry.str]
    refine ⟨rfl, ?_⟩
    rw [dec_str]
    exact hq _ H (fun _ _ z => z) (.bl _)
  · cases e
def pEqD (d e : PyData) : Option PyData := if SeqAt.shaped d && SeqAt.shaped e then some (.bool (PyData.eqv d e)) else none
def pNeD (d e : PyData) : Option PyData := if SeqAt.shaped d && SeqAt.shaped e then some (.bool (!PyData.eqv d e)) else none
theorem pr_eqD : Pr2 K (rEqD K) pEqD := by
  intro H B x y dx dy d Q bd rx ry e hq
  unfold pEqD at e
  split at e
  · rename_i q
    cases e
    have q' := Bool.and_eq_true_iff.mp q
    exact ⟨dx, dy, rx.dp (SeqAt.canLay_of_shaped q'.1), ry.dp (SeqAt.canLay_of_shaped q'.2), q'.1, q'.2, hq _ H (fun _ _ z => z) (.bl _)⟩
  · cases e
theorem pr_neD : Pr2 K (rNeD K) pNeD := by
  intro H B x y dx dy d Q bd rx ry e hq
  unfold pNeD at e
  split at e
  · rename_i q
    cases e
    have q' := Bool.and_eq_true_iff.mp q
    exact ⟨dx, dy, rx.dp (SeqAt.canLay_of_shaped q'.1), ry.dp (SeqAt.canLay_of_shaped q'.2), q'.1, q'.2, hq _ H (fun _ _ z => z) (.bl _)⟩
  · cases e
def pEq (a b : PyData) : Option PyData := (pEqS a b).orElse fun _ => pEqD a b
def pNe (a b : PyData) : Option PyData := (pNeS a b).orElse fun _ => pNeD a b
def pIn : PyData → PyData → Option PyData
  | d, .list ds => if SeqAt.shaped d && SeqAt.shaped (.list ds) then some (.bool (ds.any fun z => PyData.eqv z d)) else none
  | _, _ => none
theorem pr_in : Pr2 K (rInD K) pIn := by
  intro H B x y dx dy d Q bd rx ry e hq
  unfold pIn at e
  split at e
  · rename_i ds
    split at e
    · rename_i q
      cases e
      have q' := Bool.and_eq_true_iff.mp q
      exact ⟨dx, ds, rx.dp (SeqAt.canLay_of_shaped q'.1), ry.dp (SeqAt.canLay_of_shaped q'.2), q'.1, q'.2, hq _ H (fun _ _ z => z) (.bl _)⟩
    · cases e
  · cases e
section
variable {a b : Expr} {ma mb : M Opd} {pos : Pos}
theorem ev_eq (hr : Room 0 X.A) (ha : EvO X ec W a ma) (hb : EvO X ec W b mb) (hm : behindInMarks .Eq b = false) : EvE X ec W (.Compare a [.Eq] [b] pos) (mP2 pEq ma mb) := ev_cmp (op_eq.or (op_eqD hr.units)) (pr_eqS.or pr_eqD) ha hb hm
theorem ev_ne (hr : Room 0 X.A) (ha : EvO X ec W a ma) (hb : EvO X ec W b mb) (hm : behindInMarks .NotEq b = false) : EvE X ec W (.Compare a [.NotEq] [b] pos) (mP2 pNe ma mb) := ev_cmp (op_ne.or (op_neD hr.units)) (pr_neS.or pr_neD) ha hb hm
theorem evT_eq (hr : Room 0 X.A) (ha : EvO X ec W a ma) (hb : EvO X ec W b mb) (hm : behindInMarks .Eq b = false) : EvT X ec W (.Compare a [.Eq] [b] pos) (asB (mP2 pEq ma mb)) := evT_cmp (op_eq.or (op_eqD hr.units)) (pr_eqS.or pr_eqD) ha hb hm
theorem evT_ne (hr : Room 0 X.A) (ha : EvO X ec W a ma) (hb : EvO X ec W b mb) (hm : behindInMarks .NotEq b = false) : EvT X ec W (.Compare a [.NotEq] [b] pos) (asB (mP2 pNe ma mb)) := evT_cmp (op_ne.or (op_neD hr.units)) (pr_neS.or pr_neD) ha hb hm
theorem ev_in (hr : Room 0 X.A) (ha : EvO X ec W a ma) (hb : EvO X ec W b mb) (hm : behindInMarks .In b = false) : EvE X ec W (.Compare a [.In] [b] pos) (mP2 pIn ma mb) := ev_cmp (op_inD (by have := hr.un; omega)) pr_in ha hb hm
theorem evT_in (hr : Room 0 X.A) (ha : EvO X ec W a ma) (hb : EvO X ec W b mb) (hm : behindInMarks .In b = false) : EvT X ec W (.Compare a [.In] [b] pos) (asB (mP2 pIn ma mb)) := evT_cmp (op_inD (by have := hr.un; omega)) pr_in ha hb hm
end
end EV
end

section
set_option Elab.async false
set_option linter.all false
set_option maxRecDepth 100000
/-! EvP2: primitives on sequences. -/
namespace EV
open PySem PySem.Spec PyProof.Rows L2
variable {K : PySem.W.Frag} {H H1 H2 H' : Hp} {B B1 B2 B' : AS} {fr fr1 fr2 fr' : Fr} {σ σ1 σ2 σ' : L2.St} {ec : EC} {W : XK} {X : Cx}
theorem RDs.atI : ∀ {ds : List PyData} {vs : List V} {i : Int} {d : PyData}, RDs K H B ds vs → L2.atI ds i = some d → ∃ v, L2.atI vs i = some v ∧ RD K H B d v := by
  intro ds vs i d r e
  unfold L2.atI at e ⊢
  rw [← r.length]
  cases q : ixN ds.length i with
  | none => rw [q] at e; cases e
  | some j =>
    rw [q] at e
    exact r.get e
/-! ### x[i] -/
def pIx : PyData → PyData → Option PyData
  | .list ds, .int i => L2.atI ds i
  | .tuple ds, .int i => L2.atI ds i
  | _, _ => none
abbrev rIx (K : PySem.W.Frag) : R2 := fun x y H Q => rIxL K x y H Q ∨ rIxT K x y H Q
theorem pr_ix : Pr2 K (rIx K) pIx := by
  intro H B x y dx dy d Q bd rx ry e hq
  unfold pIx at e
  split at e
  · rename_i ds i
    obtain ⟨a, xs, rfl, h1, h2⟩ := rx.lst
    obtain ⟨v, h3, h4⟩ := h2.atI e
    exact .inl ⟨a, xs, i, v, rfl, ry.int, h1, h3, hq v H (fun _ _ z => z) h4⟩
  · rename_i ds i
    obtain ⟨a, xs, rfl, h1, h2⟩ := rx.tup
    obtain ⟨v, h3, h4⟩ := h2.atI e
    exact .inr ⟨a, xs, i, v, rfl, ry.int, h1, h3, hq v H (fun _ _ z => z) h4⟩
  · cases e
theorem ev_index {a b : Expr} {ma mb : M Opd} {pos : Pos} (ha : EvO X ec W a ma) (hb : EvO X ec W b mb) (hs : PlainIx b) : EvE X ec W (.Subscript a b pos) (mP2 pIx ma mb) := ev_ix (ix_list.or ix_tup) pr_ix ha hb hs

/-! ### + -/
section
open PySem.F
theorem listAdd_meets {o1 o2 : Array (Option Value)} (la lb : Addr) (xs ys : Array Value) (nx ny : Nat) (hz : xs.size + ys.size ≤ sizeLine) :
    Meets (Builtin.«list.__add__» ⟨[.ref la, .ref lb], []⟩) (fun _ R s => s.heap.get? la = some ⟨.type "list", none, .seq xs nx, o1⟩ ∧ s.heap.get? lb = some ⟨.type "list", none, .seq ys ny, o2⟩ ∧
      R (.ok (.ret (Value.ref s.heap.objs.size))) { s with heap := s.heap.push { cls := Value.type "list", data := Data.seq (xs ++ ys) }, toks := s.toks }) :=
  .of_wp fun P w A R s h => by
    obtain ⟨hp, g, d, tk, os⟩ := s
    obtain ⟨h1, h2, h⟩ := h
    have f1 := AutoSeq1.idx_int; have f2 := AutoSeq1.sub_tuple_tuple; have f3 := AutoSeq1.sub_list_list; have f4 := AutoSeq1.sub_tuple_list; have f5 := AutoSeq1.sub_list_tuple
    wp_walk using AutoSeq1.wpAny_loadPart' h1, AutoSeq1.wpAny_loadPart' h2
    exact ⟨_, rfl, h⟩
end
def rCatS (K : PySem.W.Frag) : R2 := fun x y H Q => ∃ l b xs zs, x = .ref l ∧ y = .ref b ∧ SqL K H l xs ∧ SqL K H b zs ∧ xs.length + zs.length ≤ sizeLine ∧ ∀ p, H p = none → Q (.ref p) (upd H p (.lst (xs ++ zs)))
theorem op_catS : OpR X (binaryOp .Add) (rCatS X.K) := by
  intro pins s σ H x y v u Q I rx ry h
  obtain ⟨l, b, xs, zs, rfl, rfl, h1, h2, hz, q⟩ := h
  cases rx
  cases ry
  obtain ⟨its, r1, ⟨⟨c1, d1, t1, s1⟩, n1, e1, ec1, ed1, et1⟩, z1⟩ := I.list h1
  obtain ⟨its2, r2, ⟨⟨c2, d2, t2, s2⟩, n2, e2, ec2, ed2, et2⟩, z2⟩ := I.list h2
  simp only at ec1 ed1 et1 ec2 ed2 et2
  subst ec1 ed1 et1 ec2 ed2 et2
  refine concat_meets ⟨_, e1, rfl⟩ ⟨_, e2, rfl⟩ noFill_list_add seq_list_add F.slot_list_add F.entry_list_add (F.args_list_add_2 _ _) (listAdd_meets l b its.toArray its2.toArray n1 n2 (by rw [List.size_toArray, List.size_toArray, ← r1.length, ← r2.length]; exact hz)) ⟨e1, e2, ?_⟩
  have ea : its.toArray ++ its2.toArray = (its ++ its2).toArray := by simp
  rw [ea]
  exact ⟨.ref _, _, I.lnew (t' := s.toks) (r1.append r2) (by rw [List.length_append]; exact hz), rfl, q _ I.fresh⟩
def pCat : PyData → PyData → Option PyData
  | .list ds, .list es => if ds.length + es.length ≤ sizeLine then some (.list (ds ++ es)) else none
  | .tuple ds, .tuple es => if ds.length + es.length ≤ sizeLine then some (.tuple (ds ++ es)) else none
  | _, _ => none
abbrev rCatLT (K : PySem.W.Frag) : R2 := fun x y H Q => rCatS K x y H Q ∨ rCatA K x y H Q
theorem RT.tupA {ds : List PyData} {v : V} (h : RT K H B (.tuple ds) v) : ∃ a xs, v = .ref a ∧ TAt H B a xs ∧ RDs K H B ds xs := by
  rcases h with h | ⟨a, rfl, _, h⟩
  · cases h with
    | tup h1 h2 => exact ⟨_, _, rfl, h1, h2⟩
  · cases h
theorem pr_cat : Pr2 K (rCatLT K) pCat := by
  intro H B x y dx dy d Q bd rx ry e hq
  unfold pCat at e
  split at e
  · rename_i ds es
    split at e
    · rename_i hz
      cases e
      obtain ⟨a, xs, rfl, h1, h2⟩ := rx.lst
      obtain ⟨b, zs, rfl, h3, h4⟩ := ry.lst
      refine .inl ⟨a, b, xs, zs, rfl, rfl, h1, h3, by rw [← h2.length, ← h4.length]; exact hz, fun p hp => hq _ _ (EV.Same.new hp) ?_⟩
      exact .lst (.inl ⟨.inl upd_same, fun z => bd _ z hp⟩) ((h2.append h4).kp (.new bd hp))
    · cases e
  · rename_i ds es
    split at e
    · rename_i hz
      cases e
      obtain ⟨a, xs, rfl, h1, h2⟩ := rx.tupA
      obtain ⟨b, zs, rfl, h3, h4⟩ := ry.tupA
      refine .inr ⟨a, b, xs, zs, rfl, rfl, .inl (.inl h1.1), .inl (.inl h3.1), by rw [← h2.length, ← h4.length]; exact hz, fun z => ?_, fun z1 z2 => ?_, fun z1 z2 p hp => hq _ _ (EV.Same.new hp) ?_⟩
      · subst z
        cases h2
        exact hq _ H (fun _ _ z => z) (.tup h3 h4)
      · subst z2
        cases h4
        rw [List.append_nil] at hq
        exact hq _ H (fun _ _ z => z) (.tup h1 h2)
      · exact .tup ⟨upd_same, fun z => bd _ z hp⟩ ((h2.append h4).kp (.new bd hp))
    · cases e
  · cases e
def pAdd (a b : PyData) : Option PyData := (pAddI a b).orElse fun _ => pCat a b
theorem ev_add {a b : Expr} {ma mb : M Opd} {pos : Pos} (ha : EvO X ec W a ma) (hb : EvO X ec W b mb) : EvE X ec W (.BinOp a .Add b pos) (mP2 pAdd ma mb) := ev_op (op_add.or (op_catS.or op_catA)) (pr_addI.or pr_cat) ha hb
/-- a new list times an int -/
def mRep (ma mb : M PyData) : M PyData := ma.bind fun x => mb.bind fun y => fun fr => match x, y with
  | .list ds, .int k => if ds.length * k.toNat ≤ sizeLine ∧ -(2 ^ 63) ≤ k ∧ k < 2 ^ 63 then some (.ok (.list (List.replicate k.toNat ds).flatten), fr) else none
  | _, _ => none
theorem evN_rep {a b : Expr} {ma mb : M PyData} {pos : Pos} (ha : EvN X ec W a ma) (hb : EvE X ec W b mb) : EvN X ec W (.BinOp a .Mult b pos) (mRep ma mb) := by
  obtain ⟨ta, h1, h2⟩ := ha.out
  obtain ⟨tb, h3, h4⟩ := hb.out
  refine .mk (pe_op op_rep h1 h3) ?_
  intro σ H B fr r fr' Q R e hr
  refine h2.thn R e hr fun x v fr1 H1 B1 R1 s1 e1 r1 hr1 => ?_
  refine h4.thn R1 e1 hr1 fun y u fr2 H2 B2 R2 s2 e2 r2 hr2 => ?_
  split at e2
  · rename_i ds k
    split at e2
    · rename_i hz
      cases e2
      obtain ⟨a, rfl, ⟨hB, hin⟩, nw, fq⟩ := r1
      cases r2
      cases hin with
      | @lst xs _ el rl =>
        have el2 := s2.keep a _ el nt_lst nw
        have rl2 := rl.kp (s2.kp R1)
        refine ⟨a, k, xs, rfl, rfl, el2, hz.2.1, hz.2.2, by rw [← rl.length]; exact hz.1, fun p hp => ?_⟩
        have rep : ∀ n : Nat, RDs X.K H2 B2 (List.replicate n ds).flatten (List.replicate n xs).flatten := fun n => by
          induction n with
          | zero => exact .nil
          | succ n ih => rw [List.replicate_succ, List.flatten_cons, List.replicate_succ, List.flatten_cons]; exact rl2.append ih
        obtain ⟨j1, j2, j3, j4⟩ := join R2 hp (EV.Same.new (o := .lst (List.replicate k.toNat xs).flatten) hp) (.lst upd_same (rep _))
        exact hr2 σ _ _ j1 j2 rfl _ ⟨p, rfl, j3, j4, (s1.trans R s2).back (fq_none hp)⟩
    · cases e2
  · cases e2

/-! ### calls of built-ins -/
def pLen : List PyData → Option PyData
  | [.list ds] => some (.int ds.length)
  | [.tuple ds] => some (.int ds.length)
  | _ => none
theorem RTs.one {ds : List PyData} {d : PyData} {xs : List V} (r : Paired (RT K H B) [d] xs) : ∃ x, xs = [x] ∧ RT K H B d x := by
  cases r with
  | cons h t => cases t; exact ⟨_, rfl, h⟩
theorem RTs.two {d e : PyData} {xs : List V} (r : Paired (RT K H B) [d, e] xs) : ∃ x y, xs = [x, y] ∧ RT K H B d x ∧ RT K H B e y := by
  cases r with
  | cons h t =>
    cases t with
    | cons h2 t => cases t; exact ⟨_, _, rfl, h, h2⟩
theorem pr_len : PrN K (fun xs H Q => ∃ p ys, xs = [.ref p] ∧ (SqL K H p ys ∨ SqT K H p ys) ∧ Q (.int ys.length) H) pLen := by
  intro H B xs ds d Q bd r e hq
  unfold pLen at e
  split at e
  · rename_i ds
    cases e
    obtain ⟨x, rfl, rx⟩ := RTs.one (ds := ds) r
    obtain ⟨a, ys, rfl, h1, h2⟩ := rx.lst
    refine ⟨a, ys, rfl, .inl h1, ?_⟩
    rw [← h2.length]
    exact hq _ H (fun _ _ z => z) (.int _)
  · rename_i ds
    cases e
    obtain ⟨x, rfl, rx⟩ := RTs.one (ds := ds) r
    obtain ⟨a, ys, rfl, h1, h2⟩ := rx.tup
    refine ⟨a, ys, rfl, .inr h1, ?_⟩
    rw [← h2.length]
    exact hq _ H (fun _ _ z => z) (.int _)
  · cases e
def pAbs : List PyData → Option PyData
  | [.int i] => some (.int (if i < 0 then -i else i))
  | _ => none
theorem pr_abs : PrN K (fun xs H Q => ∃ i, xs = [.int i] ∧ Q (.int (if i < 0 then -i else i)) H) pAbs := by
  intro H B xs ds d Q bd r e hq
  unfold pAbs at e
  split at e
  · rename_i i
    cases e
    obtain ⟨x, rfl, rx⟩ := RTs.one (ds := []) r
    exact ⟨i, by rw [rx.int], hq _ H (fun _ _ z => z) (.int _)⟩
  · cases e
def pInt : List PyData → Option PyData
  | [.int i] => some (.int i)
  | _ => none
theorem pr_int : PrN K (fun xs H Q => (∃ i, xs = [.int i] ∧ Q (.int i) H) ∨ ∃ k, xs = [.bl k] ∧ Q (.int (if k then 1 else 0)) H) pInt := by
  intro H B xs ds d Q bd r e hq
  unfold pInt at e
  split at e
  · rename_i i
    cases e
    obtain ⟨x, rfl, rx⟩ := RTs.one (ds := []) r
    exact .inl ⟨i, by rw [rx.int], hq _ H (fun _ _ z => z) (.int _)⟩
  · cases e
def pMax2 : List PyData → Option PyData
  | [.int i, .int j] => some (.int (if j > i then j else i))
  | _ => none
def pMin2 : List PyData → Option PyData
  | [.int i, .int j] => some (.int (if j < i then j else i))
  | _ => none
theorem pr_max2 : PrN K (fun xs H Q => ∃ i j, xs = [.int i, .int j] ∧ Q (.int (if j > i then j else i)) H) pMax2 := by
  intro H B xs ds d Q bd r e hq
  unfold pMax2 at e
  split at e
  · rename_i i j
    cases e
    obtain ⟨x, y, rfl, rx, ry⟩ := RTs.two r
    exact ⟨i, j, by rw [rx.int, ry.int], hq _ H (fun _ _ z => z) (.int _)⟩
  · cases e
theorem pr_min2 : PrN K (fun xs H Q => ∃ i j, xs = [.int i, .int j] ∧ Q (.int (if j < i then j else i)) H) pMin2 := by
  intro H B xs ds d Q bd r e hq
  unfold pMin2 at e
  split at e
  · rename_i i j
    cases e
    obtain ⟨x, y, rfl, rx, ry⟩ := RTs.two r
    exact ⟨i, j, by rw [rx.int, ry.int], hq _ H (fun _ _ z => z) (.int _)⟩
  · cases e
/-- the ints of a list of data -/
def intsOf : List PyData → Option (List Int)
  | [] => some []
  | .int i :: ds => (intsOf ds).map (i :: ·)
  | _ => none
theorem intsOf_eq : ∀ {ds : List PyData} {ns : List Int}, intsOf ds = some ns → ds = ns.map .int
  | [], _, e => by cases e; rfl
  | .int i :: ds, ns, e => by
    unfold intsOf at e
    cases q : intsOf ds with
    | none => rw [q] at e; cases e
    | some ms =>
      rw [q] at e
      cases e
      rw [intsOf_eq q]; rfl
theorem RDs.ints : ∀ {ns : List Int} {vs : List V}, RDs K H B (ns.map .int) vs → vs = ns.map V.int
  | [], _, r => by cases r; rfl
  | n :: ns, _, r => by
    cases r with
    | cons h t => cases h; rw [RDs.ints t]; rfl
def pSum : List PyData → Option PyData
  | [.list ds] => (intsOf ds).map fun ns => .int ns.sum
  | _ => none
theorem pr_sum : PrN K (rSum K) pSum := by
  intro H B xs ds d Q bd r e hq
  unfold pSum at e
  split at e
  · rename_i ds
    cases q : intsOf ds with
    | none => rw [q] at e; cases e
    | some ns =>
      rw [q] at e
      cases e
      obtain ⟨x, rfl, rx⟩ := RTs.one (ds := []) r
      obtain ⟨a, ys, rfl, h1, h2⟩ := rx.lst
      rw [intsOf_eq q] at h2
      exact ⟨a, ns, rfl, h2.ints ▸ h1, hq _ H (fun _ _ z => z) (.int _)⟩
  · cases e
/-- max, min of a tuple of two ints -/
def rMaxT (K : PySem.W.Frag) : List V → Hp → VK → Prop := fun xs H Q => ∃ a i j, xs = [.ref a] ∧ SqT K H a [.int i, .int j] ∧ Q (.int (max i j)) H
def rMinT (K : PySem.W.Frag) : List V → Hp → VK → Prop := fun xs H Q => ∃ a i j, xs = [.ref a] ∧ SqT K H a [.int i, .int j] ∧ Q (.int (min i j)) H
theorem alike_two (i j : Int) : PySem.W.AlikeAll [.int i, .int j] := by
  refine ⟨fun x hx y hy => ?_, fun x hx => ?_⟩
  · simp at hx hy
    rcases hx with rfl | rfl <;> rcases hy with rfl | rfl <;> rfl
  · simp at hx
    rcases hx with rfl | rfl <;> exact fun z => nomatch z
theorem cr_maxT (hc : X.calm = true) (hr : Room 0 X.A) : CallR X (.builtin "max") (rMaxT X.K) := by
  intro pins s σ H vs us Q I r h
  obtain ⟨a, i, j, rfl, hs, q⟩ := h
  rw [Vals.ref1 r]
  obtain ⟨its, rv, hl, _⟩ := I.tuple hs
  have d1 : DpAll X.K H [.int i, .int j] [.int i, .int j] := .cons (.int _) (.cons (.int _) .nil)
  obtain ⟨as, hrd⟩ := Dp.readsAll I _ _ _ d1 rv
  have hdp : PyData.depthAll [.int i, .int j] ≤ 1 := by simp [PyData.depthAll, PyData.depth]
  have hun := hr.un
  refine PySem.W.max_tuple_data (I.ok.hd hc) hl (by simpa using hrd) (alike_two i j) (by omega) fun k v h' tk bs _ hv hk => ?_
  have e : PySem.W.maxD (.int i) [.int j] = .int (max i j) := PySem.W.maxD_ints i [j]
  rw [e] at hv
  cases hv
  exact ⟨.int _, H, I.kept hk, ⟨_, rfl⟩, q⟩
def pMaxT : List PyData → Option PyData
  | [.tuple [.int i, .int j]] => some (.int (max i j))
  | _ => none
theorem pr_maxT : PrN K (rMaxT K) pMaxT := by
  intro H B xs ds d Q bd r e hq
  unfold pMaxT at e
  split at e
  · rename_i i j
    cases e
    obtain ⟨x, rfl, rx⟩ := RTs.one (ds := []) r
    obtain ⟨a, ys, rfl, h1, h2⟩ := rx.tup
    have e2 := RDs.ints (ns := [i, j]) h2
    subst e2
    exact ⟨a, i, j, rfl, h1, hq _ H (fun _ _ z => z) (.int _)⟩
  · cases e
theorem cr_minT (hc : X.calm = true) (hr : Room 0 X.A) : CallR X (.builtin "min") (rMinT X.K) := by
  intro pins s σ H vs us Q I r h
  obtain ⟨a, i, j, rfl, hs, q⟩ := h
  rw [Vals.ref1 r]
  obtain ⟨its, rv, hl, _⟩ := I.tuple hs
  have d1 : DpAll X.K H [.int i, .int j] [.int i, .int j] := .cons (.int _) (.cons (.int _) .nil)
  obtain ⟨as, hrd⟩ := Dp.readsAll I _ _ _ d1 rv
  have hdp : PyData.depthAll [.int i, .int j] ≤ 1 := by simp [PyData.depthAll, PyData.depth]
  have hun := hr.un
  refine PySem.W.min_tuple_data (I.ok.hd hc) hl (by simpa using hrd) (alike_two i j) (by omega) fun k v h' tk bs _ hv hk => ?_
  have e : PySem.W.minD (.int i) [.int j] = .int (min i j) := PySem.W.minD_ints i [j]
  rw [e] at hv
  cases hv
  exact ⟨.int _, H, I.kept hk, ⟨_, rfl⟩, q⟩
def pMinT : List PyData → Option PyData
  | [.tuple [.int i, .int j]] => some (.int (min i j))
  | _ => none
theorem pr_minT : PrN K (rMinT K) pMinT := by
  intro H B xs ds d Q bd r e hq
  unfold pMinT at e
  split at e
  · rename_i i j
    cases e
    obtain ⟨x, rfl, rx⟩ := RTs.one (ds := []) r
    obtain ⟨a, ys, rfl, h1, h2⟩ := rx.tup
    have e2 := RDs.ints (ns := [i, j]) h2
    subst e2
    exact ⟨a, i, j, rfl, h1, hq _ H (fun _ _ z => z) (.int _)⟩
  · cases e
/-- x >= y of two pairs of ints -/
def rGeT (K : PySem.W.Frag) : R2 := fun x y H Q => ∃ (a b : Addr) (i j k l : Int), x = .ref a ∧ y = .ref b ∧ SqT K H a [.int i, .int j] ∧ SqT K H b [.int k, .int l] ∧ Q (.bl (if i = k then decide (l ≤ j) else decide (k ≤ i))) H
theorem op_geT (hu : X.A.units < cLine) : OpR X (compareOp .GtE) (rGeT X.K) := by
  intro pins s σ H x y v u Q I rx ry h
  obtain ⟨a, b, i, j, k, l, rfl, rfl, ha, hb, q⟩ := h
  cases rx
  cases ry
  obtain ⟨its, r1, p1, _⟩ := I.tuple ha
  obtain ⟨its2, r2, p2, _⟩ := I.tuple hb
  obtain ⟨u1, u2, rfl, ⟨t1, rfl⟩, ⟨t2, rfl⟩⟩ := vals2 r1
  obtain ⟨u3, u4, rfl, ⟨t3, rfl⟩, ⟨t4, rfl⟩⟩ := vals2 r2
  have R := Ob.RcOp.tuples_ge (A := X.A) (s := s) (e := fun n => if n = 0 then (i == k) else (j == l)) (r := fun n => if n = 0 then decide (k ≤ i) else decide (l ≤ j)) p1 p2 hu (fun n h1 h2 => by
    match n, h1 with
    | 0, _ => exact SeqAt.EqAt.int_int _ _ _ _
    | 1, _ => exact SeqAt.EqAt.int_int _ _ _ _) (fun n h1 h2 _ => by
    match n, h1 with
    | 0, _ => exact Ob.RcOp.ge_int _ _ _ _
    | 1, _ => exact Ob.RcOp.ge_int _ _ _ _)
  refine R X.prog X.w X.xe (EP X pins σ Q) ⟨.bl _, H, I, rfl, ?_⟩
  have ev : Ob.lexAt (fun n => if n = 0 then (i == k) else (j == l)) (fun n => if n = 0 then decide (k ≤ i) else decide (l ≤ j)) (decide ([Value.int i t1, Value.int j t2].toArray.size ≥ [Value.int k t3, Value.int l t4].toArray.size)) 0 (min [Value.int i t1, Value.int j t2].toArray.size [Value.int k t3, Value.int l t4].toArray.size) = (if i = k then decide (l ≤ j) else decide (k ≤ i)) := by
    show (if (i == k) = true then (if (j == l) = true then true else decide (l ≤ j)) else decide (k ≤ i)) = _
    by_cases e : i = k
    · rw [if_pos (beq_iff_eq.mpr e), if_pos e]
      by_cases e2 : j = l
      · rw [if_pos (beq_iff_eq.mpr e2), e2]; simp
      · rw [if_neg (fun z => e2 (beq_iff_eq.mp z))]
    · rw [if_neg (fun z => e (beq_iff_eq.mp z)), if_neg e]
  rw [ev]
  exact q
def pGeT : PyData → PyData → Option PyData
  | .tuple [.int i, .int j], .tuple [.int k, .int l] => some (.bool (if i = k then decide (l ≤ j) else decide (k ≤ i)))
  | _, _ => none
theorem pr_geT : Pr2 K (rGeT K) pGeT := by
  intro H B x y dx dy d Q bd rx ry e hq
  unfold pGeT at e
  split at e
  · rename_i i j k l
    cases e
    obtain ⟨a, xs, rfl, h1, h2⟩ := rx.tup
    obtain ⟨b, ys, rfl, h3, h4⟩ := ry.tup
    have e1 := RDs.ints (ns := [i, j]) h2
    have e2 := RDs.ints (ns := [k, l]) h4
    subst e1 e2
    exact ⟨a, b, i, j, k, l, rfl, rfl, h1, h3, hq _ H (fun _ _ z => z) (.bl _)⟩
  · cases e
def pGe (a b : PyData) : Option PyData := (pGeI a b).orElse fun _ => pGeT a b
section
variable {a b : Expr} {ma mb : M Opd} {pos : Pos}
theorem ev_ge (hr : Room 0 X.A) (ha : EvO X ec W a ma) (hb : EvO X ec W b mb) (hm : behindInMarks .GtE b = false) : EvE X ec W (.Compare a [.GtE] [b] pos) (mP2 pGe ma mb) := ev_cmp (op_ge.or (op_geT hr.units0)) (pr_geI.or pr_geT) ha hb hm
theorem evT_ge (hr : Room 0 X.A) (ha : EvO X ec W a ma) (hb : EvO X ec W b mb) (hm : behindInMarks .GtE b = false) : EvT X ec W (.Compare a [.GtE] [b] pos) (asB (mP2 pGe ma mb)) := evT_cmp (op_ge.or (op_geT hr.units0)) (pr_geI.or pr_geT) ha hb hm
end
end EV
end

section
set_option Elab.async false
set_option linter.all false
set_option maxRecDepth 100000
/-! EvP3: slices, isinstance, methods, dicts. -/
namespace EV
open PySem PySem.Spec PyProof.Rows L2
variable {K : PySem.W.Frag} {H H1 H2 H' : Hp} {B B1 B2 B' : AS} {fr fr1 fr2 fr' : Fr} {σ σ1 σ2 σ' : L2.St} {ec : EC} {W : XK} {X : Cx}
/-! ### a[lo:hi] -/
abbrev rlP : Hp → L2.St → Fr → Hp → AS → Option Int → Option Int → Prop := fun _ _ _ _ _ a b => b = a
def EvP (X : Cx) (ec : EC) (W : XK) (e : Option Expr) (m : M (Option Int)) : Prop := PO X e (tOf X.K ec W rlP m)
theorem evP_none : EvP X ec W none (M.pure none) := ⟨fun pins s σ H Q I q => po_none.run pins s σ H Q I (by
  obtain ⟨B, fr, r, fr', R, e, h⟩ := q
  cases e
  exact h σ H B .refl R rfl none rfl)⟩
def mPart (m : M PyData) : M (Option Int) := m.bind fun d => fun fr => match d with
  | .int i => some (.ok (some i), fr)
  | _ => none
theorem evP_some {e : Expr} {m : M PyData} (h : EvE X ec W e m) : EvP X ec W (some e) (mPart m) := by
  obtain ⟨t, p, s1⟩ := h.out
  refine ⟨fun pins s σ H Q I q => (po_some p).run pins s σ H Q I ?_⟩
  obtain ⟨B, fr, r, fr', R, e, hr⟩ := q
  refine s1.thn R e hr fun d v fr1 H1 B1 R1 st e1 rd hr1 => ?_
  split at e1
  · rename_i i
    cases e1
    cases rd
    exact ⟨i, rfl, hr1 σ H1 B1 .refl R1 rfl _ rfl⟩
  · cases e1
def cutD (xs : List PyData) (lo hi : Option Int) : List PyData := (xs.drop (HT.sIx xs.length 0 lo)).take (HT.sIx xs.length xs.length hi - HT.sIx xs.length 0 lo)
theorem cut_rd {ds : List PyData} {xs : List V} (r : RDs K H B ds xs) (lo hi : Option Int) : RDs K H B (cutD ds lo hi) (cutV xs lo hi) := by
  unfold cutD cutV
  rw [r.length]
  exact (r.drop _).take _
def mSl (mo : M Opd) (ml mh : M (Option Int)) : M PyData := mo.bind fun o => ml.bind fun l => mh.bind fun h => fun fr => match rsv fr o with
  | some (.list ds) => some (.ok (.list (cutD ds l h)), fr)
  | some (.tuple ds) => some (.ok (.tuple (cutD ds l h)), fr)
  | _ => none
theorem ev_sl {e : Expr} {lo hi : Option Expr} {mo : M Opd} {ml mh : M (Option Int)} {p2 pos : Pos} (he : EvO X ec W e mo) (hl : EvP X ec W lo ml) (hh : EvP X ec W hi mh) : EvE X ec W (.Subscript e (.Slice lo hi none p2) pos) (mSl mo ml mh) := by
  obtain ⟨te, p1, s1⟩ := he.out
  refine .mk (pe_slice (sl_list.or sl_tupA) p1 hl hh) ?_
  intro σ H B fr r fr' Q R e hr
  refine s1.thn R e hr fun o v fr1 H1 B1 R1 st1 e1 ro hr1 => ?_
  refine Spc.thn tOf_sp R1 e1 hr1 fun l l' fr2 H2 B2 R2 st2 e2 el hr2 => ?_
  refine Spc.thn tOf_sp R2 e2 hr2 fun h h' fr3 H3 B3 R3 st3 e3 eh hr3 => ?_
  subst el eh
  have ro3 := (ro.step (st2.kp R1)).step (st3.kp R2)
  split at e3
  · rename_i ds q
    cases e3
    obtain ⟨a, xs, rfl, h1, h2⟩ := (rsv_rt R3 ro3 q).lst
    refine .inl ⟨a, xs, rfl, h1, fun p hp => hr3 σ _ B3 (.ext (EV.Same.new hp)) (R3.ext (EV.Same.new hp)) rfl _ ?_⟩
    exact .lst (.inl ⟨.inl upd_same, fun z => R3.BD _ z hp⟩) ((cut_rd h2 _ _).kp (.new R3.BD hp))
  · rename_i ds q
    cases e3
    obtain ⟨a, xs, rfl, h1, h2⟩ := (rsv_rt R3 ro3 q).tupA
    refine .inr ⟨a, xs, rfl, .inl (.inl h1.1), fun z => ?_, fun _ p hp => hr3 σ _ B3 (.ext (EV.Same.new hp)) (R3.ext (EV.Same.new hp)) rfl _ ?_⟩
    · have e : cutD ds l' h' = ds := by
        unfold cutD
        rw [h2.length, z.1, z.2, List.drop_zero, Nat.sub_zero, List.take_of_length_le (by rw [h2.length]; exact Nat.le_refl _)]
      have w := hr3 σ H3 B3 .refl R3 rfl (.ref a)
      rw [e] at w
      exact w (.tup h1 h2)
    · exact .tup ⟨upd_same, fun z => R3.BD _ z hp⟩ ((cut_rd h2 _ _).kp (.new R3.BD hp))
  · cases e3

/-! ### n.bit_length() -/
def mBits (m : M PyData) : M PyData := m.bind fun d => fun fr => match d with
  | .int i => some (.ok (.int (bitsI i : Nat)), fr)
  | _ => none
theorem ev_bits {e : Expr} {m : M PyData} {apos pos : Pos} (h : EvE X ec W e m) (hbase : attributeBase e "bit_length" X.env (eval e X.env) = eval e X.env) (hline : (apos.endLine == pos.line) = true) : EvE X ec W (.Call (.Attribute e "bit_length" apos) [] [] pos) (mBits m) := by
  obtain ⟨t, p, s1⟩ := h.out
  refine .mk (pe_bits p hbase hline) ?_
  intro σ H B fr r fr' Q R e hr
  refine s1.thn R e hr fun d v fr1 H1 B1 R1 st e1 rd hr1 => ?_
  split at e1
  · rename_i i
    cases e1
    cases rd
    exact ⟨i, rfl, hr1 σ H1 B1 .refl R1 rfl _ (.int _)⟩
  · cases e1

/-! ### isinstance -/
def tyN : PyData → String
  | .none => "NoneType"
  | .bool _ => "bool"
  | .int _ => "int"
  | .str _ => "str"
  | .list _ => "list"
  | .tuple _ => "tuple"
  | .dict _ => "dict"
theorem ty_lst {a : Addr} {xs : List V} (h : SqL K H a xs) : TyX K H (.ref a) (.type "list") := by
  rcases h with (h | ⟨o, h⟩) | ⟨o, its, n, h1, h2, _⟩
  · exact .base (.lst h)
  · exact .base (.frz h)
  · exact .kList h1 h2
theorem ty_of {d : PyData} {v : V} (r : RT K H B d v) : TyX K H v (.type (tyN d)) := by
  rcases r with r | ⟨a, rfl, _, h⟩
  · cases r with
    | non => exact .base .non
    | bl b => exact .base (.bl b)
    | int i => exact .base (.int i)
    | str x => exact .base (.str x)
    | lst h _ => exact ty_lst (h.elim (fun z => .inl z.1) .inr)
    | tup h _ => exact .base (.tup h.1)
    | dT h _ _ => exact .base (.dT h)
    | dK h _ _ _ => exact .base (.dK h)
  · cases h with
    | lst h _ => exact .base (.lst h)
    | dT h _ => exact .base (.dT h)
    | dK h _ _ => exact .base (.dK h)
def isT (T : String) (d : PyData) : Bool := match d with
  | .bool _ => T == "bool" || T == "int"
  | d => T == tyN d
def mIsi (T : String) (mo : M Opd) : M PyData := mo.bind fun o => fun fr => match rsv fr o with
  | some d => some (.ok (.bool (isT T d)), fr)
  | none => none
theorem ev_isi {T : String} {e : Expr} {mo : M Opd} {x : Str} {p p2 pos : Pos} (hT : ∀ d, kitB (tyN d) T = some (isT T d)) (hg : Gl X "isinstance") (hm : X.mg "isinstance" = none) (hb : bootBuiltins "isinstance" = some (.builtin "isinstance")) (hgt : Gl X x) (hmt : X.mg x = none) (hvt : bootBuiltins x = some (.type T))
    (hn : x ≠ "__name__") (hd : (x == ("__debug__" : Str)) = false) (ha : EvO X ec W e mo) (he : starEach [e, .Name x p] X.env = (false, eval e X.env) :: starEach [.Name x p] X.env) (he2 : starEach [.Name x p] X.env = (false, eval (.Name x p) X.env) :: starEach [] X.env) (hpl : (backTo pos (starEach [.Name x p] X.env)).any (·.1) = false) :
    EvE X ec W (.Call (.Name "isinstance" p2) [e, .Name x p] [] pos) (mIsi T mo) := by
  obtain ⟨t, p1, s1⟩ := ha.out
  refine .mk (pe_callB call_isi hg hm hb (pa_cons p1 (pa_cons (pe_bltn (v := .ty T) hgt hmt hvt rfl hn hd) pa_nil he2) he) (by decide) (by decide) he hpl) ?_
  intro σ H B fr r fr' Q R e hr
  refine s1.thn R e hr fun o v fr1 H1 B1 R1 st e1 ro hr1 => ?_
  split at e1
  · rename_i d q
    cases e1
    exact ⟨v, .ty T, .type (tyN d), .type T, isT T d, rfl, .ty T, ty_of (rsv_rt R1 ro q), kit_ty (hT d), hr1 σ H1 B1 .refl R1 rfl _ (.bl _)⟩
  · cases e1
theorem kit_tbl (T : String) (h : (["NoneType", "bool", "int", "str", "list", "tuple", "dict"].all fun t => decide (kitB t T = some (if t == "bool" then T == "bool" || T == "int" else T == t))) = true) : ∀ d, kitB (tyN d) T = some (isT T d) := by
  intro d
  simp only [List.all_cons, List.all_nil, Bool.and_eq_true, decide_eq_true_eq] at h
  obtain ⟨h1, h2, h3, h4, h5, h6, h7, _⟩ := h
  cases d with
  | none => exact h1
  | bool b => exact h2
  | int i => exact h3
  | str x => exact h4
  | list xs => exact h5
  | tuple xs => exact h6
  | dict kvs => exact h7

/-! ### list(x) -/
def pList : List PyData → Option PyData
  | [.list ds] => some (.list ds)
  | [.tuple ds] => some (.list ds)
  | _ => none
theorem nw_list : NwN K (fun xs H Q => ∃ p ys, xs = [.ref p] ∧ (SqL K H p ys ∨ SqT K H p ys) ∧ ∀ l, H l = none → Q (.ref l) (upd H l (.lst ys))) pList := by
  intro H B xs ds d Q bd r e hq
  unfold pList at e
  split at e
  · rename_i ds
    cases e
    obtain ⟨x, rfl, rx⟩ := RTs.one (ds := ds) r
    obtain ⟨a, ys, rfl, h1, h2⟩ := rx.lst
    exact ⟨a, ys, rfl, .inl h1, fun l hl => hq l _ hl (EV.Same.new hl) (.lst upd_same h2)⟩
  · rename_i ds
    cases e
    obtain ⟨x, rfl, rx⟩ := RTs.one (ds := ds) r
    obtain ⟨a, ys, rfl, h1, h2⟩ := rx.tup
    exact ⟨a, ys, rfl, .inr h1, fun l hl => hq l _ hl (EV.Same.new hl) (.lst upd_same h2)⟩
  · cases e
end EV
end

section
set_option Elab.async false
set_option linter.all false
set_option maxRecDepth 100000
/-! EvP4: dicts whose keys are tuples of ints and texts. -/
namespace EV
open PySem PySem.Spec PyProof.Rows L2
variable {K : PySem.W.Frag} {H H1 H2 H' : Hp} {B B1 B2 B' : AS} {fr fr1 fr2 fr' : Fr} {σ σ1 σ2 σ' : L2.St} {ec : EC} {W : XK} {X : Cx}
def keysOf : List PyData → Option (List Key)
  | [] => some []
  | .int i :: ds => (keysOf ds).map (.inl i :: ·)
  | .str x :: ds => (keysOf ds).map (.inr x :: ·)
  | _ => none
def keyOf : PyData → Option (List Key)
  | .tuple ds => keysOf ds
  | _ => none
theorem keysOf_map : ∀ ks : List Key, keysOf (ks.map fun | .inl i => PyData.int i | .inr s => .str s) = some ks
  | [] => rfl
  | .inl i :: ks => by show (keysOf _).map _ = _; rw [keysOf_map ks]; rfl
  | .inr i :: ks => by show (keysOf _).map _ = _; rw [keysOf_map ks]; rfl
theorem keyOf_keyD (ks : List Key) : keyOf (keyD ks) = some ks := keysOf_map ks
theorem keysOf_vs : ∀ {ds : List PyData} {ks : List Key} {vs : List V}, keysOf ds = some ks → RDs K H B ds vs → vs = ks.map kV ∧ ds = ks.map fun | .inl i => PyData.int i | .inr s => .str s
  | [], _, _, e, r => by cases e; cases r; exact ⟨rfl, rfl⟩
  | .int i :: ds, _, _, e, r => by
    unfold keysOf at e
    cases q : keysOf ds with
    | none => rw [q] at e; cases e
    | some ks =>
      rw [q] at e
      cases e
      cases r with
      | cons h t =>
        cases h
        obtain ⟨h1, h2⟩ := keysOf_vs q t
        exact ⟨by rw [h1]; rfl, by rw [h2]; rfl⟩
  | .str i :: ds, _, _, e, r => by
    unfold keysOf at e
    cases q : keysOf ds with
    | none => rw [q] at e; cases e
    | some ks =>
      rw [q] at e
      cases e
      cases r with
      | cons h t =>
        cases h
        obtain ⟨h1, h2⟩ := keysOf_vs q t
        exact ⟨by rw [h1]; rfl, by rw [h2]; rfl⟩
theorem RT.key {d : PyData} {v : V} {ks : List Key} (r : RT K H B d v) (e : keyOf d = some ks) : ∃ b, v = .ref b ∧ H b = some (.tup (ks.map kV)) ∧ d = keyD ks := by
  unfold keyOf at e
  split at e
  · rename_i ds
    obtain ⟨b, xs, rfl, h1, h2⟩ := r.tupH
    obtain ⟨h3, h4⟩ := keysOf_vs e h2
    exact ⟨b, rfl, h3 ▸ h1, by rw [h4]; rfl⟩
  · cases e
def isKey (ks : List Key) (kv : PyData × PyData) : Bool := decide (keyOf kv.1 = some ks)
def dLook (ds : List (PyData × PyData)) (ks : List Key) : Option PyData := (ds.find? (isKey ks)).map (·.2)
def dPut (ds : List (PyData × PyData)) (ks : List Key) (d : PyData) : List (PyData × PyData) := if ds.any (isKey ks) = true then ds.map (fun kv => if isKey ks kv = true then (kv.1, d) else kv) else ds ++ [(keyD ks, d)]
/-- all keys are tuples -/
def tKeys (ds : List (PyData × PyData)) : Bool := ds.all fun kv => (keyOf kv.1).isSome
theorem isKey_D {ks ls : List Key} {d : PyData} : isKey ks (keyD ls, d) = decide (ls = ks) := by
  unfold isKey
  rw [keyOf_keyD]
  by_cases e : ls = ks
  · rw [e]; simp
  · simp [e]
theorem RKT.look (ks : List Key) : ∀ {ds : List (PyData × PyData)} {kvs : List (List Key × V)}, RKT K H B ds kvs → (dLook ds ks = none ∧ valV kvs ks = none) ∨ ∃ d v, dLook ds ks = some d ∧ valV kvs ks = some v ∧ RD K H B d v
  | _, _, .nil => .inl ⟨rfl, rfl⟩
  | _, _, @RKT.cons _ _ _ ls d v ds kvs r t => by
    unfold dLook valV
    rw [List.find?_cons, List.find?_cons, isKey_D]
    by_cases e : ls = ks
    · rw [decide_eq_true e]
      exact .inr ⟨d, v, rfl, rfl, r⟩
    · rw [decide_eq_false e]
      exact RKT.look ks t
theorem RKT.any (ks : List Key) : ∀ {ds : List (PyData × PyData)} {kvs : List (List Key × V)}, RKT K H B ds kvs → ds.any (isKey ks) = kvs.any fun kv => decide (kv.1 = ks)
  | _, _, .nil => rfl
  | _, _, .cons r t => by
    rw [List.any_cons, List.any_cons, isKey_D, RKT.any ks t]
theorem RKT.repl (ks : List Key) {d : PyData} {v : V} (rd : RD K H B d v) : ∀ {ds : List (PyData × PyData)} {kvs : List (List Key × V)}, RKT K H B ds kvs → RKT K H B (ds.map fun kv => if isKey ks kv = true then (kv.1, d) else kv) (kvs.map fun kv => if kv.1 = ks then (kv.1, v) else kv)
  | _, _, .nil => .nil
  | _, _, @RKT.cons _ _ _ ls d' v' ds kvs r t => by
    rw [List.map_cons, List.map_cons, isKey_D]
    by_cases e : ls = ks
    · rw [if_pos (decide_eq_true e), if_pos e]
      exact .cons rd (RKT.repl ks rd t)
    · rw [if_neg (fun z => e (of_decide_eq_true z)), if_neg e]
      exact .cons r (RKT.repl ks rd t)
theorem RKT.snoc (ks : List Key) {d : PyData} {v : V} (rd : RD K H B d v) : ∀ {ds : List (PyData × PyData)} {kvs : List (List Key × V)}, RKT K H B ds kvs → RKT K H B (ds ++ [(keyD ks, d)]) (kvs ++ [(ks, v)])
  | _, _, .nil => .cons rd .nil
  | _, _, .cons r t => .cons r (RKT.snoc ks rd t)
theorem RKT.put (ks : List Key) {d : PyData} {v : V} (rd : RD K H B d v) {ds : List (PyData × PyData)} {kvs : List (List Key × V)} (r : RKT K H B ds kvs) : RKT K H B (dPut ds ks d) (putK kvs ks v) := by
  unfold dPut putK
  rw [r.any ks]
  split
  · exact r.repl ks rd
  · exact r.snoc ks rd
theorem RKT.length : ∀ {ds : List (PyData × PyData)} {kvs : List (List Key × V)}, RKT K H B ds kvs → ds.length = kvs.length
  | _, _, .nil => rfl
  | _, _, .cons _ t => by rw [List.length_cons, List.length_cons, RKT.length t]
theorem notT : ∀ {ds : List (PyData × PyData)} {kvs : List (Key × V)}, RKK K H B ds kvs → ds ≠ [] → tKeys ds = true → False
  | _, _, .nil, ne, _ => ne rfl
  | _, _, @RKK.cons _ _ _ k d v ds kvs r t, _, h => by
    unfold tKeys at h
    rw [List.all_cons, Bool.and_eq_true] at h
    have h1 : (keyOf (keyK k)).isSome = true := h.1
    cases k <;> cases h1
theorem RT.dct {ds : List (PyData × PyData)} {v : V} (r : RT K H B (.dict ds) v) (h : tKeys ds = true) : ∃ a kvs, v = .ref a ∧ H a = some (.dT kvs) ∧ RKT K H B ds kvs := by
  rcases r with r | ⟨a, rfl, _, r⟩
  · cases r with
    | dT e _ t => exact ⟨_, _, rfl, e, t⟩
    | dK e _ t ne => exact (notT t ne h).elim
  · cases r with
    | dT e t => exact ⟨_, _, rfl, e, t⟩
    | dK e t ne => exact (notT t ne h).elim
/-- the dict of an operand -/
def rsD (fr : Fr) (o : Opd) : Option (List (PyData × PyData)) := match rsv fr o with
  | some (.dict ds) => if tKeys ds = true then some ds else none
  | _ => none
theorem rsD_rt {o : Opd} {v : V} {ds : List (PyData × PyData)} (R : RF K ec H B fr σ) (h : RO K H B σ o v) (e : rsD fr o = some ds) : ∃ a kvs, v = .ref a ∧ H a = some (.dT kvs) ∧ RKT K H B ds kvs := by
  unfold rsD at e
  split at e
  · rename_i d q
    split at e
    · rename_i ht
      cases e
      exact (rsv_rt R h q).dct ht
    · cases e
  · cases e
def rsK (fr : Fr) (o : Opd) : Option (List Key) := match rsv fr o with
  | some d => keyOf d
  | none => none
theorem rsK_rt {o : Opd} {v : V} {ks : List Key} (R : RF K ec H B fr σ) (h : RO K H B σ o v) (e : rsK fr o = some ks) : ∃ b, v = .ref b ∧ H b = some (.tup (ks.map kV)) := by
  unfold rsK at e
  split at e
  · rename_i d q
    obtain ⟨b, h1, h2, _⟩ := (rsv_rt R h q).key e
    exact ⟨b, h1, h2⟩
  · cases e
/-- d[k] -/
def mDGet (md mk : M Opd) : M PyData := md.bind fun o => mk.bind fun k => fun fr => match rsD fr o, rsK fr k with
  | some ds, some ks => (match dLook ds ks with
    | some d => some (.ok d, fr)
    | none => none)
  | _, _ => none
theorem ev_dget {o i : Expr} {md mk : M Opd} {pos : Pos} (hr : Room 0 X.A) (ho : EvO X ec W o md) (hi : EvO X ec W i mk) (hs : NoSl i) : EvE X ec W (.Subscript o i pos) (mDGet md mk) := by
  obtain ⟨t1, p1, s1⟩ := ho.out
  obtain ⟨t2, p2, s2⟩ := hi.out
  refine .mk (pe_dget (by have := hr.un; omega) p1 p2 hs) ?_
  intro σ H B fr r fr' Q R e hr
  refine s1.thn R e hr fun x v fr1 H1 B1 R1 st1 e1 r1 hr1 => ?_
  refine s2.thn R1 e1 hr1 fun y u fr2 H2 B2 R2 st2 e2 r2 hr2 => ?_
  split at e2
  · rename_i ds ks qx qy
    split at e2
    · rename_i d ql
      cases e2
      obtain ⟨a, kvs, rfl, h1, h2⟩ := rsD_rt R2 (r1.step (st2.kp R1)) qx
      obtain ⟨b, rfl, h3⟩ := rsK_rt R2 r2 qy
      rcases h2.look ks with ⟨z, _⟩ | ⟨d', v', e1, e2, rd⟩
      · rw [ql] at z; cases z
      · rw [ql] at e1; cases e1
        exact ⟨a, v', rfl, e2 ▸ .t h1 h3, hr2 σ H2 B2 .refl R2 rfl _ rd⟩
    · cases e2
  · cases e2
/-- k in d -/
def mDIn (mk md : M Opd) : M PyData := mk.bind fun k => md.bind fun o => fun fr => match rsD fr o, rsK fr k with
  | some ds, some ks => some (.ok (.bool (dLook ds ks).isSome), fr)
  | _, _ => none
theorem sp_din {ty td : TE} {mk md : M Opd} (s1 : Spc K ec W (rlO K) ty mk) (s2 : Spc K ec W (rlO K) td md) : Spc K ec W (rlE K) (tDIn ty td) (mDIn mk md) := by
  intro σ H B fr r fr' Q R e hr
  refine s1.thn R e hr fun y u fr1 H1 B1 R1 st1 e1 r1 hr1 => ?_
  refine s2.thn R1 e1 hr1 fun x v fr2 H2 B2 R2 st2 e2 r2 hr2 => ?_
  split at e2
  · rename_i ds ks qx qy
    cases e2
    obtain ⟨a, kvs, rfl, h1, h2⟩ := rsD_rt R2 r2 qx
    obtain ⟨b, rfl, h3⟩ := rsK_rt R2 (r1.step (st2.kp R1)) qy
    refine ⟨a, valV kvs ks, rfl, .t h1 h3, ?_⟩
    have e : (valV kvs ks).isSome = (dLook ds ks).isSome := by
      rcases h2.look ks with ⟨z1, z2⟩ | ⟨d', v', z1, z2, _⟩ <;> rw [z1, z2] <;> rfl
    rw [e]
    exact hr2 σ H2 B2 .refl R2 rfl _ (.bl _)
  · cases e2
theorem ev_din {o i : Expr} {md mk : M Opd} {pos : Pos} (hr : Room 0 X.A) (hi : EvO X ec W i mk) (ho : EvO X ec W o md) (hm : behindInMarks .In o = false) : EvE X ec W (.Compare i [.In] [o] pos) (mDIn mk md) :=
  let ⟨_, p1, s1⟩ := hi.out; let ⟨_, p2, s2⟩ := ho.out; .mk (pe_cmp (pc_din (by have := hr.un; omega) p1 p2) hm) (sp_din s1 s2)
theorem evT_din {o i : Expr} {md mk : M Opd} {pos : Pos} (hr : Room 0 X.A) (hi : EvO X ec W i mk) (ho : EvO X ec W o md) (hm : behindInMarks .In o = false) : EvT X ec W (.Compare i [.In] [o] pos) (asB (mDIn mk md)) :=
  let ⟨_, p1, s1⟩ := hi.out; let ⟨_, p2, s2⟩ := ho.out; .mk (pt_cmp (pc_din (by have := hr.un; omega) p1 p2) hm) (sp_asB (sp_din s1 s2))
/-- d.get(k, x) -/
def mDGet2 (md mk : M Opd) (mx : M PyData) : M PyData := md.bind fun o => fun fr => match rsD fr o with
  | some _ => (mk.bind fun k => mx.bind fun x => fun fr => match rsD fr o, rsK fr k with
    | some ds, some ks => some (.ok ((dLook ds ks).getD x), fr)
    | _, _ => none) fr
  | none => none
theorem ev_dget2 {o e f : Expr} {md mk : M Opd} {mx : M PyData} {apos cpos : Pos} (hr : Room 0 X.A) (ho : EvO X ec W o md) (he : EvO X ec W e mk) (hf : EvE X ec W f mx) (m : M2 X o "get" apos e f cpos) : EvE X ec W (.Call (.Attribute o "get" apos) [e, f] [] cpos) (mDGet2 md mk mx) := by
  obtain ⟨t1, p1, s1⟩ := ho.out
  obtain ⟨t2, p2, s2⟩ := he.out
  obtain ⟨t3, p3, s3⟩ := hf.out
  refine .mk (pe_dget2 (by have := hr.un; omega) p1 p2 p3 m) ?_
  intro σ H B fr r fr' Q R e hr
  refine s1.thn R e hr fun x v fr1 H1 B1 R1 st1 e1 r1 hr1 => ?_
  split at e1
  · rename_i ds0 q0
    obtain ⟨a, kvs0, rfl, h0, _⟩ := rsD_rt R1 r1 q0
    refine ⟨a, rfl, .inr ⟨kvs0, .inl h0⟩, ?_⟩
    refine s2.thn R1 e1 hr1 fun y u fr2 H2 B2 R2 st2 e2 r2 hr2 => ?_
    refine s3.thn R2 e2 hr2 fun z w fr3 H3 B3 R3 st3 e3 r3 hr3 => ?_
    split at e3
    · rename_i ds ks qx qy
      cases e3
      obtain ⟨a', kvs, ea, h1, h2⟩ := rsD_rt R3 ((r1.step (st2.kp R1)).step (st3.kp R2)) qx
      cases ea
      obtain ⟨b, rfl, h3⟩ := rsK_rt R3 (r2.step (st3.kp R2)) qy
      refine ⟨valV kvs ks, .t h1 h3, ?_⟩
      rcases h2.look ks with ⟨z1, z2⟩ | ⟨d', v', z1, z2, rd⟩
      · rw [z1] at hr3; rw [z2]
        exact hr3 σ H3 B3 .refl R3 rfl _ r3
      · rw [z1] at hr3; rw [z2]
        exact hr3 σ H3 B3 .refl R3 rfl _ rd
    · cases e3
  · cases e1
/-- d[k] = e, d a slot -/
def sDPutM (i : Nat) (me : M PyData) (mk : M Opd) : MS := me.bind fun d => chk i (mk.bind fun k => fun fr => match fr[i]?, rsK fr k with
  | some (.ow l (.dict ds)), some ks => if tKeys ds = true ∧ ds.length < sizeLine then some (.ok .nx, fr.set i (.ow l (.dict (dPut ds ks d)))) else none
  | _, _ => none)
theorem evS_dput {i : Nat} {x : Str} {k e : Expr} {me : M PyData} {mk : M Opd} {pos pos' px : Pos} (hr : Room 0 X.A) (ho : PE X (.Name x px) (tVar i)) (hk : EvO X ec W k mk) (he : EvE X ec W e me) (hs : swapsWith e (some (.Subscript (.Name x px) k pos')) pos.line X.env = pure false) :
    EvS X ec W (.Assign [.Subscript (.Name x px) k pos'] e pos) (sDPutM i me mk) := by
  obtain ⟨te, p1, s1⟩ := he.out
  obtain ⟨tk, p2, s2⟩ := hk.out
  refine .mk (ps_dput (by have := hr.un; omega) ho p2 p1 hs) ?_
  intro σ H B fr r fr' D R e hr
  refine s1.thn R e hr fun d v fr1 H1 B1 R1 st1 e1 rd hr1 => ?_
  obtain ⟨⟨u, hu⟩, e1⟩ := chk_some R1 e1
  refine ⟨u, hu, ?_⟩
  refine s2.thn R1 e1 hr1 fun k w fr3 H3 B3 R3 st3 e3 rk hr3 => ?_
  split at e3
  · rename_i l ds ks q qk
    split at e3
    · rename_i hz
      cases e3
      obtain ⟨b, rfl, h3⟩ := rsK_rt R3 rk qk
      obtain ⟨a, ha, hB, hin⟩ := R3.ow i l _ q
      rw [hu] at ha
      cases ha
      cases hin with
      | dK e t ne => exact (notT t ne hz.1).elim
      | @dT _ kvs e t =>
        refine ⟨a, _, rfl, .t e h3 (by rw [← t.length]; exact hz.2), ?_⟩
        obtain ⟨s5, R5⟩ := set_in (d' := .dict (dPut ds ks d)) (o := .dT (putK kvs ks v)) R3 q hu (.dT upd_same ((t.put ks (rd.kp (st3.kp R1))).kp (Kp.at hB)))
        exact hr3 σ _ B3 s5 R5
    · cases e3
  · cases e3
/-- {} -/
theorem evN_dnew {pos : Pos} : EvN X ec W (.Dict [] [] pos) (mC (.dict [])) := .mk pe_dnewT (by
  intro σ H B fr r fr' Q R e hr
  cases e
  intro p hp
  obtain ⟨j1, j2, j3, j4⟩ := join R hp (EV.Same.new (o := .dT []) hp) (.dT (ds := []) upd_same .nil)
  exact hr σ _ _ j1 j2 rfl _ ⟨p, rfl, j3, j4, fq_none hp⟩)
/-- {k: v}, k a tuple -/
def tDisp1 (tk tv : TE) : TE := fun σ H Q => ∀ p, H p = none → tk σ (upd H p (.dT [])) fun y H1 => tv σ H1 fun v H2 => ∃ b ks, y = .ref b ∧ H2 b = some (.tup (ks.map kV)) ∧ H2 p = some (.dT []) ∧ Q (.ref p) (upd H2 p (.dT [(ks, v)]))
theorem pe_disp1 {pos : Pos} {k v : Expr} {tk tv : TE} (hu : X.A.units + 2 < cLine) (hk : PE X k tk) (hv : PE X v tv) : PE X (.Dict [some k] [v] pos) (tDisp1 tk tv) := by
  refine ⟨fun pins s σ H Q I q => ?_⟩
  have hn := I.hok.fresh (Nat.le_refl s.heap.objs.size)
  have I1 := I.laid (a := s.heap.objs.size) (o := .dT []) (h' := s.heap.push { cls := .type "dict", data := .dict #[] }) (t' := s.toks) (fun _ _ q => Heap.get?_push_of_some _ q) (Nat.le_refl _) (dt_empty s.heap I.big)
  have hz : (evalEachOpt [some k] X.env).zip ((evalEach [v] X.env).map fun v => do let x ← v; standAt pos; pure x) = (pairTrees [some k] [v] X.env pos).map fun p => (some p.1, p.2) := zip_pairTrees [some k] [v] X.env pos rfl rfl
  rw [arm_eval_Dict, hz, dictDisplay_pairs (pairTrees [some k] [v] X.env pos) (fun z => nomatch z) (by show 1 < 17; decide)]
  refine wpAny_bind (wpAny_standAt (wpAny_bind (wpAny_subDictH (knd := tupleKind (mixKind X.prog X.w)) (Q := fun d s' => wpAny (model X.prog X.w) X.A (pure (Value.ref d)) (EP X pins σ Q) X.xe s') ?_ (by show 1 ≤ 15; decide) (pairTrees_cons_walk
    (thn (hk.run pins _ σ _ _ I1 (q _ hn)) fun u s1 ⟨y, H1, I2, ry, q1⟩ => thn (hv.run pins s1 σ H1 _ I2 q1) fun u2 s2 ⟨v', H2, I3, rv, b, ks, ey, eb, ep, q2⟩ => pairTrees_nil_walk ?_)))))
  · show X.A.units < cLine
    omega
  · subst ey
    cases (show u = Value.ref b from ry)
    obtain ⟨z, hd, xs0, rel, dd⟩ := dt_of I3.hok ep
    cases rel
    refine ⟨[(ks, b, u2)], ⟨rfl, rfl, key_of I3.hok eb, trivial⟩, dd, fun h' tk dd' hs => wpAny_pure ⟨.ref _, _, ?_, rfl, q2⟩⟩
    obtain ⟨o, es, epp, hq, h2, h3, h4, _, h5⟩ := dd'
    refine d_write I3 (by rw [ep]; exact True.intro) hs ⟨o, hq⟩ ⟨by show 1 ≤ sizeLine; decide, hd, _, (Paired.cons ⟨rfl, ?_, rv⟩ .nil), o, es, epp, hq, h2, h3, h4, h5⟩
    rw [upd_ne (ne_of eb ep (fun z => nomatch z))]
    exact eb
/-- an owned object that the frame does not name is changed -/
theorem out_rf {a : Addr} {o : HO} {d : PyData} (R : RF K ec H B fr σ) (ho : NT o) (hin : OwnIn K H B a d) (hB : B a) (nw : ¬ Wr fr σ a) : RF K ec (upd H a o) B fr σ := by
  have kp : Kp B H B (upd H a o) := Kp.at hB
  refine ⟨R.len, fun i d h => R.kp_fz kp i d h, fun i l d h => ?_, R.dis, fun b hb => ?_, tabs_upd hin R.tabs⟩
  · obtain ⟨c, h1, h2, h3⟩ := R.ow i l d h
    have nc : c ≠ a := fun e => nw ⟨i, l, d, h, e ▸ h1⟩
    exact ⟨c, h1, h2, h3.kp kp fun u e _ => by rw [upd_ne nc]; exact e⟩
  · by_cases e : b = a
    · subst e; exact ⟨_, upd_same, ho⟩
    · obtain ⟨u, e1, nt⟩ := R.bdom b hb
      exact ⟨u, by rw [upd_ne e]; exact e1, nt⟩
def mDisp1 (mk mv : M PyData) : M PyData := mk.bind fun k => mv.bind fun d => fun fr => match keyOf k with
  | some ks => some (.ok (.dict [(keyD ks, d)]), fr)
  | none => none
theorem evN_disp1 {k v : Expr} {mk mv : M PyData} {pos : Pos} (hr : Room 0 X.A) (hk : EvE X ec W k mk) (hv : EvE X ec W v mv) : EvN X ec W (.Dict [some k] [v] pos) (mDisp1 mk mv) := by
  obtain ⟨t1, p1, s1⟩ := hk.out
  obtain ⟨t2, p2, s2⟩ := hv.out
  refine .mk (pe_disp1 (by have := hr.un; omega) p1 p2) ?_
  intro σ H B fr r fr' Q R e hr p hp
  obtain ⟨j1, j2, j3, j4⟩ := join (d := .dict []) R hp (EV.Same.new (o := .dT []) hp) (.dT upd_same .nil)
  refine s1.thn j2 e (hr.after R j1) fun y u fr1 H1 B1 R1 st1 e1 r1 hr1 => ?_
  refine s2.thn R1 e1 hr1 fun d v fr2 H2 B2 R2 st2 e2 r2 hr2 => ?_
  split at e2
  · rename_i ks qk
    cases e2
    have st12 := st1.trans j2 st2
    have hp2 : H2 p = some (.dT []) := st12.keep p _ upd_same nt_dT j4
    have hB2 : B2 p := st12.bk p (.inr rfl) j4
    have nw2 : ¬ Wr fr' σ p := fun w => (st12.wn p w).elim j4 fun z => z _ upd_same nt_dT
    obtain ⟨b, rfl, hb, _⟩ := RT.key (.inl (r1.kp (st2.kp R1))) qk
    refine ⟨b, ks, rfl, hb, hp2, ?_⟩
    have oin : OwnIn X.K H2 B2 p (.dict []) := .dT hp2 .nil
    have kp2 : Kp B2 H2 B2 (upd H2 p (.dT [(ks, v)])) := Kp.at hB2
    have R3 := out_rf (o := .dT [(ks, v)]) R2 nt_dT oin hB2 nw2
    have all : Step fr σ B H fr' σ B2 (upd H2 p (.dT [(ks, v)])) := by
      have s0 := j1.trans R st12
      refine ⟨fun c o h nt nw => ?_, s0.bk, s0.bn, s0.wn, fun c o h nt => ?_, s0.ln⟩
      · have : c ≠ p := fun z => by subst z; rw [hp] at h; cases h
        rw [upd_ne this]; exact s0.keep c o h nt nw
      · by_cases z : c = p
        · subst z; exact ⟨_, upd_same, nt_dT⟩
        · rw [upd_ne z]; exact s0.dm c o h nt
    have hr3 := hr
    exact hr3 σ _ B2 all R3 rfl _ ⟨p, rfl, ⟨hB2, .dT upd_same (.cons (r2.kp kp2) .nil)⟩, nw2, fq_none hp⟩
  · cases e2
end EV
end

section
set_option Elab.async false
set_option linter.all false
set_option maxRecDepth 100000
/-! EvP5: repr, sorted(set(..)), calls with a lent list, defs that make a list, keywords. -/
namespace EV
open PySem PySem.Spec PyProof.Rows L2
variable {K : PySem.W.Frag} {H H1 H2 H' : Hp} {B B1 B2 B' : AS} {fr fr1 fr2 fr' : Fr} {σ σ1 σ2 σ' : L2.St} {ec : EC} {W : XK} {X : Cx}
/-! ### repr -/
mutual
theorem noD : ∀ d : PyData, d.canLay0 = true → d.hasDict = false
  | .none, _ => rfl
  | .bool _, _ => rfl
  | .int _, _ => rfl
  | .str _, _ => rfl
  | .list xs, h => by show PyData.hasDictAll xs = false; exact noDs xs (by simpa [PyData.canLay0] using h)
  | .tuple xs, h => by show PyData.hasDictAll xs = false; exact noDs xs (by simpa [PyData.canLay0] using h)
  | .dict _, h => by simp [PyData.canLay0] at h
theorem noDs : ∀ ds : List PyData, PyData.canLayAll0 ds = true → PyData.hasDictAll ds = false
  | [], _ => rfl
  | d :: ds, h => by
    have h' : d.canLay0 = true ∧ PyData.canLayAll0 ds = true := by simpa [PyData.canLayAll0] using h
    show (PyData.hasDict d || PyData.hasDictAll ds) = false
    rw [noD d h'.1, noDs ds h'.2]; rfl
end
/-- what repr shows -/
def showOk (d : PyData) : Bool := d.canLay0 && decide (d.depth ≤ 64) && d.showable && decide (d.shown.length ≤ sizeLine)
def rRepr (K : PySem.W.Frag) : List V → Hp → VK → Prop := fun xs H Q => ∃ x d, xs = [x] ∧ Dp K H x d ∧ showOk d = true ∧ Q (.str d.shown) H
theorem call_repr (hr : Room 0 X.A) (hG : X.A.guards = some []) : CallR X (.builtin "repr") (rRepr X.K) := by
  intro pins s σ H xs us Q I r h
  obtain ⟨x, d, rfl, hd, ho, q⟩ := h
  obtain ⟨u, rfl, rx⟩ := vals1 r
  unfold showOk at ho
  rw [Bool.and_eq_true, Bool.and_eq_true, Bool.and_eq_true] at ho
  obtain ⟨⟨⟨h1, h2⟩, h3⟩, h4⟩ := ho
  have h2 := of_decide_eq_true h2
  have h4 := of_decide_eq_true h4
  have hu := hr.un
  obtain ⟨as, rd⟩ := Dp.reads I d x u hd rx
  cases hd with
  | non => cases (show u = Value.none from rx); exact PySem.P.repr_of_none ⟨.str _, H, I.tok _, ⟨_, rfl⟩, q⟩
  | bl b => cases (show u = Value.bool b from rx); exact PySem.P.repr_of_bool ⟨.str _, H, I.tok _, ⟨_, rfl⟩, q⟩
  | int i => obtain ⟨t, z⟩ := (show ∃ t, u = Value.int i t from rx); cases z; exact PySem.P.repr_of_int (of_decide_eq_true h3) ⟨.str _, H, I.tok _, ⟨_, rfl⟩, q⟩
  | str y => obtain ⟨t, z⟩ := (show ∃ t, u = Value.str y t from rx); cases z; exact PySem.P.repr_of_str ⟨.str _, H, I.tok _, ⟨_, rfl⟩, q⟩ h4
  | @lst a xs ds hs ha =>
    cases (show u = Value.ref a from rx)
    exact repr_of_reads' rd h3 (PyData.noDict_hsm (noD _ h1)) hG (by omega) (fun _ _ e => e) (fun h' u tk hk => ⟨.str _, H, I.kept hk, ⟨_, rfl⟩, q⟩) h4
  | @tup a xs ds hs ha =>
    cases (show u = Value.ref a from rx)
    exact repr_of_reads' rd h3 (PyData.noDict_hsm (noD _ h1)) hG (by omega) (fun _ _ e => e) (fun h' u tk hk => ⟨.str _, H, I.kept hk, ⟨_, rfl⟩, q⟩) h4
/-- {} shown -/
def rRepr0 : List V → Hp → VK → Prop := fun xs H Q => ∃ a, xs = [.ref a] ∧ H a = some (.dT []) ∧ Q (.str (PyData.dict []).shown) H
theorem call_repr0 (hr : Room 0 X.A) (hG : X.A.guards = some []) : CallR X (.builtin "repr") rRepr0 := by
  intro pins s σ H xs us Q I r h
  obtain ⟨a, rfl, ha, q⟩ := h
  rw [Vals.ref1 r]
  have hu := hr.un
  obtain ⟨_, hsys, xs, rel, o, es, ep, ho, hc, hdt, hes, _⟩ := (show ObjOk X.prog X.w H s.heap a (.dT []) from I.hok a _ ha)
  cases rel
  have he : es.toList = [] := hes
  have rd : Reads s.heap (.ref a) (.dict []) ([a] ++ []) := .dict (as := []) (bs := []) ho hc.1 hdt (by rw [he]; exact .nil) (by rw [he]; exact .nil)
  refine repr_of_reads' rd rfl (fun _ hm => ?_) hG (by show X.A.units + (0 + 1 + 1) < cLine; omega) (fun _ _ e => e) (fun h' u tk hk => ⟨.str _, H, I.kept hk, ⟨_, rfl⟩, q⟩) (by decide)
  rcases List.mem_cons.mp hm with z | z
  · exact absurd z (fun z => by rw [← z] at hsys; simp at hsys)
  · cases z
def pRepr : List PyData → Option PyData
  | [.dict []] => some (.str (PyData.dict []).shown)
  | [d] => if showOk d then some (.str d.shown) else none
  | _ => none
theorem pr_repr : PrN K (fun xs H Q => rRepr K xs H Q ∨ rRepr0 xs H Q) pRepr := by
  intro H B xs ds d Q bd r e hq
  unfold pRepr at e
  split at e
  · cases e
    obtain ⟨x, rfl, rx⟩ := RTs.one (ds := []) r
    obtain ⟨a, kvs, rfl, h1, h2⟩ := rx.dct rfl
    cases h2
    exact .inr ⟨a, rfl, h1, hq _ H (fun _ _ z => z) (.str _)⟩
  · rename_i d' _
    split at e
    · rename_i ho
      cases e
      obtain ⟨x, rfl, rx⟩ := RTs.one (ds := []) r
      have hc : d'.canLay0 = true := by
        unfold showOk at ho
        rw [Bool.and_eq_true, Bool.and_eq_true, Bool.and_eq_true] at ho
        exact ho.1.1.1
      exact .inl ⟨x, d', rfl, rx.dp hc, ho, hq _ H (fun _ _ z => z) (.str _)⟩
    · cases e
  · cases e
/-! ### sorted(set(..)) of at most two pairs -/
def in64 (i : Int) : Bool := decide (0 ≤ i ∧ i < 64)
def sort2 : List PyData → Option (List PyData)
  | [] => some []
  | [.tuple [.int a, .int b]] => if in64 a && in64 b then some [.tuple [.int a, .int b]] else none
  | [.tuple [.int a, .int b], .tuple [.int c, .int d]] => if in64 a && in64 b && (in64 c && in64 d) then
      (if a = c ∧ b = d then some [.tuple [.int a, .int b]] else if a < c ∨ (a = c ∧ b < d) then some [.tuple [.int a, .int b], .tuple [.int c, .int d]] else some [.tuple [.int c, .int d], .tuple [.int a, .int b]]) else none
  | _ => none
theorem bd64 {a b : Int} (ha : in64 a = true) (hb : in64 b = true) : TS.Bd 64 [a, b] := by
  have h1 := of_decide_eq_true ha
  have h2 := of_decide_eq_true hb
  intro x hx
  simp at hx
  rcases hx with rfl | rfl <;> omega
/-- what the answer may be -/
theorem set_two {α : Type} {L : List (α × List Int)} {k1 k2 : α × List Int} (hn : (L.map (·.2)).Nodup) (hm : ∀ p ∈ L, p = k1 ∨ p = k2) (h1 : k1.2 ∈ L.map (·.2)) (h2 : k2.2 ∈ L.map (·.2)) :
    (k1.2 = k2.2 ∧ (L = [k1] ∨ L = [k2])) ∨ (k1.2 ≠ k2.2 ∧ (L = [k1, k2] ∨ L = [k2, k1])) := by
  match L, hn, hm, h1, h2 with
  | [], _, _, h1, _ => cases h1
  | [p], hn, hm, h1, h2 =>
    simp at h1 h2
    refine .inl ⟨by rw [h1, h2], ?_⟩
    rcases hm p List.mem_cons_self with e | e <;> rw [e]
    · exact .inl rfl
    · exact .inr rfl
  | [p, q], hn, hm, h1, h2 =>
    have hpq : p.2 ≠ q.2 := by simpa using hn
    rcases hm p List.mem_cons_self with e1 | e1 <;> rcases hm q (List.mem_cons_of_mem _ List.mem_cons_self) with e2 | e2
    · exact absurd (by rw [e1, e2]) hpq
    · exact .inr ⟨by rw [← e1, ← e2]; exact hpq, .inl (by rw [e1, e2])⟩
    · exact .inr ⟨by rw [← e1, ← e2]; exact hpq.symm, .inr (by rw [e1, e2])⟩
    · exact absurd (by rw [e1, e2]) hpq
  | p :: q :: r :: t, hn, hm, h1, h2 =>
    exfalso
    have hpq : p.2 ≠ q.2 ∧ p.2 ≠ r.2 ∧ q.2 ≠ r.2 := by
      simp only [List.map_cons, List.nodup_cons, List.mem_cons, not_or] at hn
      exact ⟨hn.1.1, hn.1.2.1, hn.2.1.1⟩
    obtain ⟨n1, n2, n3⟩ := hpq
    have e1 := hm p List.mem_cons_self
    have e2 := hm q (List.mem_cons_of_mem _ List.mem_cons_self)
    have e3 := hm r (List.mem_cons_of_mem _ (List.mem_cons_of_mem _ List.mem_cons_self))
    rcases e1 with e1 | e1 <;> rcases e2 with e2 | e2 <;> rcases e3 with e3 | e3 <;> first | exact n1 (congrArg Prod.snd (e1.trans e2.symm)) | exact n2 (congrArg Prod.snd (e1.trans e3.symm)) | exact n3 (congrArg Prod.snd (e2.trans e3.symm))
def mSort2 (m : M PyData) : M PyData := m.bind fun d => fun fr => match d with
  | .list ds => (match sort2 ds with
    | some es => some (.ok (.list es), fr)
    | none => none)
  | _ => none
theorem pair_rd {a b : Int} {v : V} (r : RD K H B (.tuple [.int a, .int b]) v) : ∃ c, v = .ref c ∧ H c = some (.tup [.int a, .int b]) := by
  cases r with
  | tup h t =>
    have e := RDs.ints (ns := [a, b]) t
    subst e
    exact ⟨_, rfl, h.1⟩
theorem ev_sort2 {e : Expr} {m : M PyData} {p1 p2 p3 p4 : Pos} (hr : Room 0 X.A) (hc : X.calm = true) (hg : Gl X "sorted") (hm : X.mg "sorted" = none) (hb : bootBuiltins "sorted" = some (.builtin "sorted")) (hg2 : Gl X "set") (hm2 : X.mg "set" = none) (hb2 : bootBuiltins "set" = some (.type "set"))
    (h : EvE X ec W e m) (hs1 : starEach [e] X.env = (false, eval e X.env) :: starEach [] X.env) (hs2 : starEach [.Call (.Name "set" p1) [e] [] p2] X.env = (false, eval (.Call (.Name "set" p1) [e] [] p2) X.env) :: starEach [] X.env) (hp1 : (backTo p2 (starEach [] X.env)).any (·.1) = false) (hp2 : (backTo p4 (starEach [] X.env)).any (·.1) = false) :
    EvE X ec W (.Call (.Name "sorted" p3) [.Call (.Name "set" p1) [e] [] p2] [] p4) (mSort2 m) := by
  obtain ⟨t, pe, s1⟩ := h.out
  refine .mk (pe_callB (cr_sortedT hc) hg hm hb (pa_cons (pe_callTy (cr_setOfT hc hr.units) hg2 hm2 hb2 (pa_cons pe pa_nil hs1) (by decide) (by decide) hs1 hp1) pa_nil hs2) (by decide) (by decide) hs2 hp2) ?_
  intro σ H B fr r fr' Q R e hr
  refine s1.thn R e hr fun d v fr1 H1 B1 R1 st e1 rd hr1 => ?_
  split at e1
  · rename_i ds
    split at e1
    · rename_i es q
      cases e1
      cases rd with
      | @lst al xs _ hl hx =>
        -- the pairs' addresses
        have key : ∃ ks : List (Addr × List Int), xs = ks.map (fun p => V.ref p.1) ∧ (∀ p ∈ ks, H1 p.1 = some (.tup (p.2.map V.int)) ∧ p.2.length = 2 ∧ TS.Bd 64 p.2) ∧ ks.length < 64 ∧
            ∀ (L : List (Addr × List Int)) (H2 : Hp), Same H1 H2 → (L.map (·.2)).Nodup → (∀ p ∈ L, p ∈ ks) → (∀ p ∈ ks, p.2 ∈ L.map (·.2)) → L.Pairwise (fun q r => TS.code 64 q.2 ≤ TS.code 64 r.2) → RDs X.K H1 B1 es (L.map fun p => V.ref p.1) := by
          unfold sort2 at q
          split at q
          · cases q
            cases hx
            refine ⟨[], rfl, fun p hp => (nomatch hp), by show 0 < 64; decide, fun L H2 _ _ hm _ _ => ?_⟩
            cases L with
            | nil => exact .nil
            | cons p L => exact absurd (hm p List.mem_cons_self) (by simp)
          · rename_i a b
            split at q
            · rename_i hin
              cases q
              rw [Bool.and_eq_true] at hin
              cases hx with
              | cons r1 t =>
                cases t
                obtain ⟨c, rfl, hc1⟩ := pair_rd r1
                refine ⟨[(c, [a, b])], rfl, fun p hp => ?_, by show 1 < 64; decide, fun L H2 sm hn hm hk _ => ?_⟩
                · simp at hp
                  subst hp
                  exact ⟨hc1, rfl, bd64 hin.1 hin.2⟩
                · have h1 := hk (c, [a, b]) List.mem_cons_self
                  rcases set_two (k1 := (c, [a, b])) (k2 := (c, [a, b])) hn (fun p hp => .inl (by simpa using hm p hp)) h1 h1 with ⟨_, eL | eL⟩ | ⟨ne, _⟩
                  · rw [eL]; exact .cons r1 .nil
                  · rw [eL]; exact .cons r1 .nil
                  · exact absurd rfl ne
            · cases q
          · rename_i a b c d
            split at q
            · rename_i hin
              rw [Bool.and_eq_true, Bool.and_eq_true, Bool.and_eq_true] at hin
              obtain ⟨⟨i1, i2⟩, i3, i4⟩ := hin
              cases hx with
              | cons r1 t =>
                cases t with
                | cons r2 t =>
                  cases t
                  obtain ⟨c1, rfl, hc1⟩ := pair_rd r1
                  obtain ⟨c2, rfl, hc2⟩ := pair_rd r2
                  refine ⟨[(c1, [a, b]), (c2, [c, d])], rfl, fun p hp => ?_, by show 2 < 64; decide, fun L H2 sm hn hm hk hpw => ?_⟩
                  · simp at hp
                    rcases hp with rfl | rfl
                    · exact ⟨hc1, rfl, bd64 i1 i2⟩
                    · exact ⟨hc2, rfl, bd64 i3 i4⟩
                  · have k1 := hk (c1, [a, b]) List.mem_cons_self
                    have k2 := hk (c2, [c, d]) (List.mem_cons_of_mem _ List.mem_cons_self)
                    have b1 := of_decide_eq_true i1
                    have b2 := of_decide_eq_true i2
                    have b3 := of_decide_eq_true i3
                    have b4 := of_decide_eq_true i4
                    rcases set_two (k1 := (c1, [a, b])) (k2 := (c2, [c, d])) hn (fun p hp => by simpa using hm p hp) k1 k2 with ⟨ee, eL⟩ | ⟨ne, eL⟩
                    · have ee' : a = c ∧ b = d := by simpa using ee
                      rw [if_pos ee'] at q
                      cases q
                      rcases eL with eL | eL
                      · rw [eL]; exact .cons r1 .nil
                      · rw [eL]
                        obtain ⟨rfl, rfl⟩ := ee'
                        exact .cons r2 .nil
                    · have ne' : ¬ (a = c ∧ b = d) := fun z => ne (by simp [z.1, z.2])
                      rw [if_neg ne'] at q
                      rcases eL with eL | eL
                      · rw [eL] at hpw
                        have hle : TS.code 64 [a, b] ≤ TS.code 64 [c, d] := by simpa using hpw
                        have lt := pair_lt hle (fun z => ne' (by simpa using z)) b1 b2 b3 b4
                        rw [if_pos lt] at q
                        cases q
                        rw [eL]; exact .cons r1 (.cons r2 .nil)
                      · rw [eL] at hpw
                        have hle : TS.code 64 [c, d] ≤ TS.code 64 [a, b] := by simpa using hpw
                        have lt := pair_lt hle (fun z => ne' (by simp at z; exact ⟨z.1.symm, z.2.symm⟩)) b3 b4 b1 b2
                        rw [if_neg (by omega)] at q
                        cases q
                        rw [eL]; exact .cons r2 (.cons r1 .nil)
            · cases q
          · cases q
        obtain ⟨ks, rfl, hks, hlen, hfin⟩ := key
        refine ⟨al, ks, rfl, hl.elim (fun z => .inl z.1) .inr, fun p hp => .inl (.inl (hks p hp).1), hlen, fun a L ha hLk hkL => ?_⟩
        have sm : Same H1 (upd H1 a (SetTO X.prog X.w a L)) := EV.Same.new ha
        refine ⟨a, L, 2, 64, rfl, upd_same, fun p hp => .inl (.inl (sm _ _ (hks p (hLk p hp)).1)), by decide, fun p hp => (hks p (hLk p hp)).2, fun L' q' pm nd hfew pw hq' => ?_⟩
        have rds := hfin L' _ sm nd (fun p hp => hLk p (pm.mem_iff.mp hp)) (fun p hp => (pm.map (·.2)).mem_iff.mpr (hkL p hp)) pw
        have hq1 : H1 q' = none := by
          by_cases z : q' = a
          · rw [z]; exact ha
          · rwa [upd_ne z] at hq'
        have sm2 : Same H1 (upd (upd H1 a (SetTO X.prog X.w a L)) q' (.lst (L'.map fun q => V.ref q.1))) := fun b u hb => by
          rw [upd_ne (ne_of_none hb hq1)]; exact sm b u hb
        refine hr1 σ _ B1 (.ext sm2) (R1.ext sm2) rfl _ (.lst (.inl ⟨.inl upd_same, fun z => R1.BD _ z hq1⟩) (rds.kp ⟨fun b o e _ _ => sm2 b o e, fun _ _ _ _ n => n⟩))
    · cases e1
  · cases e1
end EV
end

section
set_option Elab.async false
set_option linter.all false
set_option maxRecDepth 100000
/-! EvP6: calls with a lent list, defs that make a list, keywords. -/
namespace EV
open PySem PySem.Spec PyProof.Rows L2
variable {K : PySem.W.Frag} {H H1 H2 H' : Hp} {B B1 B2 B' : AS} {fr fr1 fr2 fr' : Fr} {σ σ1 σ2 σ' : L2.St} {ec : EC} {W : XK} {X : Cx}
/-- a held list has been changed by someone that it was lent to -/
theorem set_lent {i : Nat} {l : Bool} {d d' : PyData} {a : Addr} (R : RF K ec H B fr σ) (h : fr[i]? = some (SD.ow l d)) (ha : σ[i]? = some (some (V.ref a))) (kpt : ∀ b o, H b = some o → NT o → b ≠ a → H' b = some o) (tb : LamX.Tabs ec.tb H') (o' : OwnIn K H' B a d') :
    Step fr σ B H (fr.set i (.ow l d')) σ B H' ∧ RF K ec H' B (fr.set i (.ow l d')) σ := by
  obtain ⟨a', ha', hB, hin⟩ := R.ow i l d h
  rw [ha] at ha'; cases ha'
  have hw : Wr fr σ a := ⟨i, l, d, h, ha⟩
  have kp : Kp B H B H' := ⟨fun b u e nt n => kpt b u e nt fun z => n (z.symm ▸ hB), fun b u e _ n => n⟩
  have at_a : ∃ u, H' a = some u ∧ NT u := by
    cases o' with
    | lst e _ => exact ⟨_, e, nt_lst⟩
    | dT e _ => exact ⟨_, e, nt_dT⟩
    | dK e _ _ => exact ⟨_, e, nt_dK⟩
  have dm : ∀ b u, H b = some u → NT u → ∃ u', H' b = some u' ∧ NT u' := fun b u hb nt => by
    by_cases e : b = a
    · subst e; exact at_a
    · exact ⟨u, kpt b u hb nt e, nt⟩
  have wr : ∀ {j l' d1}, (fr.set i (.ow l d'))[j]? = some (SD.ow l' d1) → (j = i ∧ l' = l ∧ d1 = d') ∨ (j ≠ i ∧ fr[j]? = some (SD.ow l' d1)) := fun {j l' d1} h1 => by
    rcases get_set h1 with ⟨e, z⟩ | ⟨ne, z⟩
    · cases z; exact .inl ⟨e, rfl, rfl⟩
    · exact .inr ⟨ne, z⟩
  have own : ∀ {j l' d1}, (fr.set i (.ow l d'))[j]? = some (SD.ow l' d1) → ∃ d2, fr[j]? = some (SD.ow l' d2) := fun {j l' d1} h1 => by
    rcases wr h1 with ⟨e, e2, _⟩ | ⟨_, q⟩
    · subst e e2; exact ⟨d, h⟩
    · exact ⟨_, q⟩
  refine ⟨⟨fun b u e nt n => kpt b u e nt fun z => n (z.symm ▸ hw), fun b h _ => h, fun b h => .inl h, fun b ⟨j, l', d1, h1, h2⟩ => ?_, dm, fun j d1 z => ?_⟩, ⟨?_, fun j d1 z => ?_, fun j l' d1 z => ?_, fun j k l1 l2 d1 d2 c z1 z2 z3 z4 => ?_, fun b hb => let ⟨u, e, nt⟩ := R.bdom b hb; dm b u e nt, tb⟩⟩
  · obtain ⟨d2, q⟩ := own h1
    exact .inl ⟨j, l', d2, q, h2⟩
  · obtain ⟨d2, q⟩ := own z
    exact ⟨⟨d2, q⟩, rfl⟩
  · rw [List.length_set]; exact R.len
  · rcases get_set z with ⟨_, z⟩ | ⟨ne, z⟩
    · cases z
    · exact R.kp_fz kp j d1 z
  · rcases wr z with ⟨e, _, e3⟩ | ⟨ne, q⟩
    · subst e e3
      exact ⟨a, ha, hB, o'⟩
    · obtain ⟨c, h1, h2, h3⟩ := R.ow j l' d1 q
      have nc : c ≠ a := fun e => ne (R.dis j i l' l d1 d c q h h1 (e ▸ ha))
      exact ⟨c, h1, h2, h3.kp kp fun u e nt => kpt c u e nt nc⟩
  · obtain ⟨d3, q1⟩ := own z1
    obtain ⟨d4, q2⟩ := own z2
    exact R.dis j k l1 l2 d3 d4 c q1 q2 z3 z4
/-- what the caller wants of a call that changes its list at a -/
def sameL (K : PySem.W.Frag) (ec : EC) (B : AS) (a : Addr) (H : Hp) (r : Except Xn PyData) (g' : List PyData) (Q : VK) (E : XK) : Prop := ∀ H' xs', (∀ b o, H b = some o → NT o → b ≠ a → H' b = some o) → LamX.Tabs ec.tb H' → H' a = some (.lst xs') → RDs K H' B g' xs' →
  match r with
  | .ok d => ∀ v, RD K H' B d v → Q v H'
  | .error x => ∀ dx v, H' dx = some (.xd [(("value" : Str), v)]) → RD K H' B x.2 v → E (.ref (ec.ad x.1)) (some dx) H'
abbrev FL := List PyData → List PyData → Option (Except Xn PyData × List PyData)
def spL (K : PySem.W.Frag) (ec : EC) (n : Nat) (F : FL) : Sp := fun vs H Q E =>
  ∃ (B : AS) (a : Addr) (g xs : _) (ds : List PyData) (us : List V) (r : Except Xn PyData) (g' : List PyData), vs = .ref a :: us ∧ LamX.Tabs ec.tb H ∧ BN H B ∧ B a ∧ H a = some (.lst xs) ∧ RDs K H B g xs ∧ RDs K H B ds us ∧ ds.length = n ∧ F g ds = some (r, g') ∧ sameL K ec B a H r g' Q E
def mCallL (F : FL) (as : M (List Opd)) : M PyData := as.bind fun xs => fun fr => match xs with
  | .inr i :: rest => (match fr[i]?, inls rest with
    | some (.ow l (.list g)), some ds => (match F g ds with
      | some (r, g') => some (r, fr.set i (.ow l (.list g')))
      | none => none)
    | _, _ => none)
  | _ => none
theorem sp_callL {n : Nat} {F : FL} {ta : TA} {ma : M (List Opd)} (hl : ∀ g ds r, F g ds = some r → ds.length = n) (ha : Spc K ec W (rlA K) ta ma) : Spc K ec W (rlE K) (tCall (spL K ec n F) [] W ta) (mCallL F ma) := by
  intro σ H B fr r fr' Q R e hr
  refine ha.thn R e hr fun xs vs fr1 H1 B1 R1 s1 e1 r1 hr1 => ?_
  split at e1
  · rename_i i rest
    split at e1
    · rename_i l g ds qi qr
      split at e1
      · rename_i r' g' qF
        cases e1
        cases r1 with
        | @cons _ v _ us h t =>
          obtain ⟨a, xs, h1, h2, h3, h4⟩ := R1.owl qi
          have h : σ[i]? = some (some v) := h
          rw [h1] at h
          cases h
          refine ⟨B1, a, g, xs, ds, us, r, g', by rw [List.append_nil], R1.tabs, R1.bdom, h2, h3, h4, inls_rd t qr, hl _ _ _ qF, qF, fun H' xs' kpt tb hx rx => ?_⟩
          obtain ⟨s5, R5⟩ := set_lent (d' := .list g') R1 qi h1 kpt tb (.lst hx rx)
          cases r with
          | ok d => exact fun v rd => hr1 σ H' B1 s5 R5 rfl v rd
          | error x => exact fun dx v ex rd => hr1 σ H' B1 dx v s5 R5 ex rd
      · cases e1
    · cases e1
  · cases e1
section
variable {x : Str} {e : Expr} {es : List Expr} {p pos : Pos} {k n : Nat} {f : Addr} {fd : FuncData} {ps : List Str} {F : FL} {mas : M (List Opd)}
theorem ev_callL (Fo : FnG X.prog X.w X.K X.mg X.base k f fd ps (spL X.K ec n F)) (hl : ∀ g ds r, F g ds = some r → ds.length = n) (hr : Room k X.A) (hG : X.A.guards = some []) (hg : Gl X x) (hm : X.mg x = some (.ref f)) (hk : PySem.W.keepIn X.K (.ref f) = true) (hb : L2.Binds X.K fd ps []) (hx : Passes (L2.CX X.prog X.w) X W)
    (ha : EvA X ec W (e :: es) mas) (hdb : (x == ("__debug__" : Str)) = false) (he : starEach (e :: es) X.env = (false, eval e X.env) :: starEach es X.env) (hpl : (backTo pos (starEach es X.env)).any (·.1) = false) :
    EvE X ec W (.Call (.Name x p) (e :: es) [] pos) (mCallL F mas) :=
  let ⟨_, h1, h2⟩ := ha.out; .mk (pe_callG Fo hr hG hg hm hk hb hx h1 hdb he hpl) (sp_callL hl h2)
end
/-- the body of a def whose first parameter is a lent list -/
def runL (n N : Nat) (m : MS) : FL := fun g ds => if ds.length = n then (match m ((SD.ow true (.list g) :: (ds.map SD.fz ++ List.replicate (N - n - 1) SD.no) : Fr)) with
  | some (r, fr') => (match (fr'[0]? : Option SD) with
    | some (SD.ow true (.list g')) => (match r with
      | .ok (.rt d) => some (.ok d, g')
      | .ok .nx => some (.ok .none, g')
      | .error x => some (.error x, g')
      | _ => none)
    | _ => none)
  | none => none) else none
theorem runL_len {n N : Nat} {m : MS} {g ds : List PyData} {r : Except Xn PyData × List PyData} (h : runL n N m g ds = some r) : ds.length = n := by
  unfold runL at h
  split at h
  · rename_i q; exact q
  · cases h
theorem start_own {k : Nat} {ds : List PyData} {i : Nat} {l : Bool} {d : PyData} (h : (ds.map SD.fz ++ List.replicate k SD.no)[i]? = some (SD.ow l d)) : False := by
  rw [List.getElem?_append] at h
  split at h
  · rw [List.getElem?_map] at h
    cases q : ds[i]? with
    | none => rw [q] at h; cases h
    | some d => rw [q] at h; cases h
  · rw [List.getElem?_replicate] at h
    split at h <;> cases h
theorem cons_ow {a : Addr} {l : Bool} {d : PyData} (R : RF K ec H B fr σ) (nO : ∀ (i : Nat) (l' : Bool) (d' : PyData), fr[i]? ≠ some (SD.ow l' d')) (o : OwnAt K H B a d) : RF K ec H B (.ow l d :: fr) (some (.ref a) :: σ) where
  len := by rw [List.length_cons, List.length_cons, R.len]
  fz := fun i d' h => match i, h with
    | 0, h => by cases h
    | i + 1, h => R.fz i d' h
  ow := fun i l' d' h => match i, h with
    | 0, h => by cases h; exact ⟨a, rfl, o⟩
    | i + 1, h => absurd h (nO i l' d')
  dis := fun i j l1 l2 d1 d2 c h1 h2 _ _ => match i, j, h1, h2 with
    | 0, 0, _, _ => rfl
    | i + 1, _, h, _ => absurd h (nO i _ _)
    | 0, j + 1, _, h => absurd h (nO j _ _)
  bdom := R.bdom
  tabs := R.tabs
section
variable {P : Program} {w : World} {mg : Str → Option Value} {base : Heap}
theorem fn_okLc {x qual : Str} {st : Stmt} {f : Addr} {fd : FuncData} {N ps : List Str} {k n : Nat} {m : MS} (Fu : Fun K x qual st f fd) (S : FnScope N ps (defScope st)) (hps : ps.length = n + 1)
    (hb : ∀ (cdv : Value) (A : Around) (outer : List Env) (s : Shared) (H : Hp) (E : XK), fd.code = cdv → Room k (A.deeper (envOfC qual (defScope st) s.heap.objs.size f cdv)) → A.guards = some [] →
      EvSs (cxOf (L2.CX P w) P w K mg base N qual (defScope st) f cdv A outer s H E) ec E (defBody st) m) :
    FnG P w K mg base (k + 1) f fd ps (spL K ec n (runL n N.length m)) := by
  have len : ∀ vs H Q E, spL K ec n (runL n N.length m) vs H Q E → vs.length = ps.length := fun vs H Q E h => by
    obtain ⟨B, a, g, xs, ds, us, r, g', rfl, _, _, _, _, _, h1, h2, _⟩ := h
    rw [List.length_cons, ← h1.length, h2, hps]
  obtain ⟨oc, od, kV, doc, pm, an, cdv, ct, osl, rfl, lk, hcd⟩ := Fu.ex
  refine ⟨len, fun A outer s H args us vs Q E hr hG e0 hbt rv h => LamX.run_ofS lk hcd S hr e0 hbt rv (len _ _ _ _ h) fun hr' => ?_⟩
  obtain ⟨B, a, g, xs, ds, us', r, g', rfl, tb, bd, hB, ha, rg, h1, h2, h3, h4⟩ := h
  obtain ⟨t, p, sp⟩ := (hb cdv A outer s H E rfl hr' hG).out
  refine ⟨t, p, ?_⟩
  unfold runL at h3
  rw [if_pos h2] at h3
  have R0 := start_rf (K := K) (ec := ec) tb bd h1 (N.length - n - 1)
  have R := cons_ow (l := true) R0 (fun i l' d' h => start_own h) ⟨hB, .lst ha rg⟩
  have es : L2.start N (.ref a :: us') = some (.ref a) :: (us'.map some ++ List.replicate (N.length - n - 1) none) := by
    unfold L2.start
    rw [List.length_cons, ← h1.length, h2, List.map_cons, List.cons_append, Nat.sub_sub]
  rw [es]
  have nwr : ∀ b, Wr (.ow true (.list g) :: (ds.map SD.fz ++ List.replicate (N.length - n - 1) SD.no)) (some (.ref a) :: (us'.map some ++ List.replicate (N.length - n - 1) none)) b → b = a := fun b ⟨i, l, d, z, z2⟩ => by
    match i, z, z2 with
    | 0, _, z2 => cases z2; rfl
    | i + 1, z, _ => exact (start_own z).elim
  split at h3
  · rename_i r0 fr' q
    split at h3
    · rename_i g0 q0
      -- behind the body
      have fin : ∀ {σ' B' H'}, Step (.ow true (.list g) :: (ds.map SD.fz ++ List.replicate (N.length - n - 1) SD.no)) (some (.ref a) :: (us'.map some ++ List.replicate (N.length - n - 1) none)) B H fr' σ' B' H' → RF K ec H' B' fr' σ' →
          ∃ xs', (∀ b o, H b = some o → NT o → b ≠ a → H' b = some o) ∧ LamX.Tabs ec.tb H' ∧ H' a = some (.lst xs') ∧ RDs K H' B g0 xs' ∧ ∀ d v, RD K H' B' d v → RD K H' B d v := fun {σ' B' H'} st R' => by
        obtain ⟨_, sl⟩ := st.ln 0 _ q0
        obtain ⟨a', e1, hB', hin⟩ := R'.ow 0 true _ q0
        rw [sl] at e1
        have e2 : a' = a := by cases e1; rfl
        subst e2
        cases hin with
        | @lst xs' _ ex rx =>
          have kp : Kp B' H' B H' := ⟨fun _ _ e _ _ => e, fun b o e _ n z => n (by
            by_cases hba : b = a'
            · rw [hba]; exact hB'
            · exact st.bk b z fun w => hba (nwr b w))⟩
          exact ⟨xs', fun b o e nt nb => st.keep b o e nt fun w => nb (nwr b w), R'.tabs, ex, rx.kp kp, fun d v rd => rd.kp kp⟩
      refine sp _ H B _ _ fr' _ R q ?_
      split at h3
      · rename_i d
        cases h3
        intro σ' H' B' st R' v rd
        obtain ⟨xs', k1, k2, k3, k4, k5⟩ := fin st R'
        exact h4 H' xs' k1 k2 k3 k4 v (k5 _ _ rd)
      · cases h3
        intro σ' H' B' st R'
        obtain ⟨xs', k1, k2, k3, k4, k5⟩ := fin st R'
        exact h4 H' xs' k1 k2 k3 k4 .non .non
      · rename_i x
        cases h3
        intro σ' H' B' dx v st R' ex rd
        obtain ⟨xs', k1, k2, k3, k4, k5⟩ := fin st R'
        exact h4 H' xs' k1 k2 k3 k4 dx v ex (k5 _ _ rd)
      · cases h3
    · cases h3
  · cases h3
theorem fn_okL {x qual : Str} {st : Stmt} {f : Addr} {fd : FuncData} {N ps : List Str} {k n : Nat} {m : MS} (Fu : Fun K x qual st f fd) (S : FnScope N ps (defScope st)) (hps : ps.length = n + 1)
    (hb : ∀ (cdv : Value) (A : Around) (outer : List Env) (s : Shared) (H : Hp) (E : XK), Room k (A.deeper (envOfC qual (defScope st) s.heap.objs.size f cdv)) → A.guards = some [] →
      EvSs (cxOf (L2.CX P w) P w K mg base N qual (defScope st) f cdv A outer s H E) ec E (defBody st) m) :
    FnG P w K mg base (k + 1) f fd ps (spL K ec n (runL n N.length m)) := fn_okLc Fu S hps fun cdv A outer s H E _ => hb cdv A outer s H E
end
end EV
end

section
set_option Elab.async false
set_option linter.all false
set_option maxRecDepth 100000
/-! EvP7: defs that make a list for their caller; calls by keywords; written lists. -/
namespace EV
open PySem PySem.Spec PyProof.Rows L2
variable {K : PySem.W.Frag} {H H1 H2 H' : Hp} {B B1 B2 B' : AS} {fr fr1 fr2 fr' : Fr} {σ σ1 σ2 σ' : L2.St} {ec : EC} {W : XK} {X : Cx}
/-- a list that someone made joins B -/
theorem joinS {a : Addr} {es : List PyData} {xs : List V} (R : RF K ec H B fr σ) (hn : Fq H a) (s : Sm ec.tb H H') (ha : H' a = some (.lst xs)) (rx : RDs K H' (fun b => B b ∨ b = a) es xs) :
    Step fr σ B H fr σ (fun b => B b ∨ b = a) H' ∧ RF K ec H' (fun b => B b ∨ b = a) fr σ ∧ OwnAt K H' (fun b => B b ∨ b = a) a (.list es) ∧ ¬ Wr fr σ a := by
  have nB : ¬ B a := fun z => by
    obtain ⟨o, e, nt⟩ := R.bdom a z
    exact hn o e nt
  have kp : Kp B H (fun b => B b ∨ b = a) H' := ⟨fun b o e nt _ => s.keep b o e nt, fun b o e nt n z => z.elim n fun q => by subst q; exact hn o e nt⟩
  refine ⟨⟨fun b o e nt _ => s.keep b o e nt, fun b h _ => .inl h, fun b h => h.imp id fun (e : b = a) => e.symm ▸ hn, fun b h => .inl h, fun b o e nt => ⟨o, s.keep b o e nt, nt⟩, fun _ d h => ⟨⟨d, h⟩, rfl⟩⟩, ⟨R.len, fun i d h => R.kp_fz kp i d h, fun i l d h => ?_, R.dis, fun b h => ?_, s.tabs⟩, ⟨.inr rfl, ?_⟩, fun w => nB (R.wrB w)⟩
  · obtain ⟨c, h1, h2, h3⟩ := R.ow i l d h
    exact ⟨c, h1, .inl h2, h3.kp kp fun o e nt => s.keep _ o e nt⟩
  · rcases h with h | h
    · obtain ⟨o, e, nt⟩ := R.bdom b h
      exact ⟨o, s.keep b o e nt, nt⟩
    · rw [h]; exact ⟨_, ha, nt_lst⟩
  · exact .lst ha rx
/-- a def that makes a list -/
def spN (K : PySem.W.Frag) (ec : EC) (n : Nat) (F : List PyData → Option (List PyData)) : Sp := fun vs H Q E =>
  ∃ (B : AS) (ds es : List PyData), LamX.Tabs ec.tb H ∧ BN H B ∧ RDs K H B ds vs ∧ ds.length = n ∧ F ds = some es ∧
    ∀ a H' xs, Fq H a → Sm ec.tb H H' → H' a = some (.lst xs) → RDs K H' (fun b => B b ∨ b = a) es xs → Q (.ref a) H'
def mCallN (F : List PyData → Option (List PyData)) (as : M (List Opd)) : M PyData := as.bind fun xs => fun fr => match inls xs with
  | some ds => (match F ds with
    | some es => some (.ok (.list es), fr)
    | none => none)
  | none => none
theorem sp_callN {n : Nat} {F : List PyData → Option (List PyData)} {ta : TA} {ma : M (List Opd)} (hl : ∀ ds r, F ds = some r → ds.length = n) (ha : Spc K ec W (rlA K) ta ma) : Spc K ec W (rlN K) (tCall (spN K ec n F) [] W ta) (mCallN F ma) := by
  intro σ H B fr r fr' Q R e hr
  refine ha.thn R e hr fun xs vs fr1 H1 B1 R1 s1 e1 r1 hr1 => ?_
  split at e1
  · rename_i ds q
    split at e1
    · rename_i es qF
      cases e1
      refine ⟨B1, ds, es, R1.tabs, R1.bdom, by rw [List.append_nil]; exact inls_rd r1 q, hl _ _ qF, qF, fun a H' xs hn sm ha rx => ?_⟩
      obtain ⟨j1, j2, j3, j4⟩ := joinS R1 hn sm ha rx
      exact hr1 σ H' _ j1 j2 rfl _ ⟨a, rfl, j3, j4, s1.back hn⟩
    · cases e1
  · cases e1
section
variable {x : Str} {e : Expr} {es : List Expr} {p pos : Pos} {k n : Nat} {f : Addr} {fd : FuncData} {ps : List Str} {F : List PyData → Option (List PyData)} {mas : M (List Opd)}
theorem evN_callN (Fo : FnG X.prog X.w X.K X.mg X.base k f fd ps (spN X.K ec n F)) (hl : ∀ ds r, F ds = some r → ds.length = n) (hr : Room k X.A) (hG : X.A.guards = some []) (hg : Gl X x) (hm : X.mg x = some (.ref f)) (hk : PySem.W.keepIn X.K (.ref f) = true) (hb : L2.Binds X.K fd ps []) (hx : Passes (L2.CX X.prog X.w) X W)
    (ha : EvA X ec W (e :: es) mas) (hdb : (x == ("__debug__" : Str)) = false) (he : starEach (e :: es) X.env = (false, eval e X.env) :: starEach es X.env) (hpl : (backTo pos (starEach es X.env)).any (·.1) = false) :
    EvN X ec W (.Call (.Name x p) (e :: es) [] pos) (mCallN F mas) :=
  let ⟨_, h1, h2⟩ := ha.out; .mk (pe_callG Fo hr hG hg hm hk hb hx h1 hdb he hpl) (sp_callN hl h2)
end
/-- the body: a statement, then the list returned -/
def runN (n N : Nat) (m1 : MS) (m2 : M PyData) (ds : List PyData) : Option (List PyData) := if ds.length = n then (match m1 (ds.map SD.fz ++ List.replicate (N - n) .no) with
  | some (.ok .nx, fr1) => (match m2 fr1 with
    | some (.ok (.list es), _) => some es
    | _ => none)
  | _ => none) else none
theorem runN_len {n N : Nat} {m1 : MS} {m2 : M PyData} {ds es : List PyData} (h : runN n N m1 m2 ds = some es) : ds.length = n := by
  unfold runN at h
  split at h
  · rename_i q; exact q
  · cases h
section
variable {P : Program} {w : World} {mg : Str → Option Value} {base : Heap}
theorem fn_okN {x qual : Str} {st st1 : Stmt} {e2 : Expr} {pr : Pos} {f : Addr} {fd : FuncData} {N ps : List Str} {k : Nat} {m1 : MS} {m2 : M PyData} (Fu : Fun K x qual st f fd) (S : FnScope N ps (defScope st)) (hbody : defBody st = [st1, .Return (some e2) pr])
    (hb : ∀ (cdv : Value) (A : Around) (outer : List Env) (s : Shared) (H : Hp) (E : XK), Room k (A.deeper (envOfC qual (defScope st) s.heap.objs.size f cdv)) → A.guards = some [] →
      EvS (cxOf (L2.CX P w) P w K mg base N qual (defScope st) f cdv A outer s H E) ec E st1 m1 ∧ EvN (cxOf (L2.CX P w) P w K mg base N qual (defScope st) f cdv A outer s H E) ec E e2 m2) :
    FnG P w K mg base (k + 1) f fd ps (spN K ec ps.length (runN ps.length N.length m1 m2)) := by
  have len : ∀ vs H Q E, spN K ec ps.length (runN ps.length N.length m1 m2) vs H Q E → vs.length = ps.length := fun vs H Q E h => by
    obtain ⟨B, ds, es, _, _, h1, h2, _⟩ := h
    rw [← h1.length]; exact h2
  obtain ⟨oc, od, kV, doc, pm, an, cdv, ct, osl, rfl, lk, hcd⟩ := Fu.ex
  refine ⟨len, fun A outer s H args us vs Q E hr hG e0 hbt rv h => LamX.run_ofS lk hcd S hr e0 hbt rv (len _ _ _ _ h) fun hr' => ?_⟩
  obtain ⟨B, ds, es, tb, bd, h1, h2, h3, h4⟩ := h
  obtain ⟨b1, b2⟩ := hb cdv A outer s H E hr' hG
  obtain ⟨t1, p1, sp1⟩ := b1.out
  obtain ⟨t2, p2, sp2⟩ := b2.out
  refine ⟨tSeq t1 (tRet t2), by rw [hbody]; exact pss_cons p1 (pss_one (ps_ret p2)), ?_⟩
  unfold runN at h3
  rw [if_pos h2] at h3
  have R := start_rf (K := K) (ec := ec) tb bd h1 (N.length - ps.length)
  have esN : L2.start N vs = vs.map some ++ List.replicate (N.length - ps.length) none := by
    unfold L2.start
    rw [← h1.length, h2]
  rw [esN]
  have nwr : ∀ b, ¬ Wr (ds.map SD.fz ++ List.replicate (N.length - ps.length) SD.no) (vs.map some ++ List.replicate (N.length - ps.length) none) b := fun b ⟨i, l, d, z, _⟩ => start_own z
  split at h3
  · rename_i fr1 q1
    split at h3
    · rename_i es' fr2 q2
      cases h3
      refine sp1 _ H B _ _ fr1 _ R q1 ?_
      intro σ1 H1 B1 st1 R1
      refine sp2 σ1 H1 B1 fr1 _ fr2 _ R1 q2 ?_
      intro σ2 H2 B2 st2 R2 es2 v hv
      obtain ⟨a, rfl, ⟨hB, hin⟩, _, fq⟩ := hv
      have st := st1.trans R st2
      cases hin with
      | @lst xs _ ex rx =>
        refine h4 a H2 xs (st1.back fq) ⟨fun b o e nt => st.keep b o e nt (nwr b), R2.tabs⟩ ex (rx.kp ⟨fun _ _ e _ _ => e, fun b o e _ n z => n ?_⟩)
        rcases z with z | z
        · exact st.bk b z (nwr b)
        · rw [z]; exact hB
    · cases h3
  · cases h3
end
/-! ### keywords -/
def EvK (X : Cx) (ec : EC) (W : XK) (kws : List Keyword) (m : M (List Opd)) : Prop := PK X kws (tOf X.K ec W (rlA X.K) m)
theorem evK_nil : EvK X ec W [] mNil := ⟨fun pos pins s σ H Q I q => pk_nil.run pos pins s σ H Q I (sp_nil.of q)⟩
theorem evK_cons {nm : Option Str} {e : Expr} {kpos : Pos} {kws : List Keyword} {ma : M Opd} {mb : M (List Opd)} (ha : EvO X ec W e ma) (hb : EvK X ec W kws mb) : EvK X ec W (⟨nm, e, kpos⟩ :: kws) (mCons ma mb) := by
  obtain ⟨t, p, s1⟩ := ha.out
  exact ⟨fun pos pins s σ H Q I q => (pk_cons p hb).run pos pins s σ H Q I ((sp_cons s1 tOf_sp).of q)⟩
theorem ev_callK {x : Str} {kws : List Keyword} {p pos : Pos} {k n : Nat} {f : Addr} {fd : FuncData} {ps : List Str} {F : List PyData → Option (Except Xn PyData)} {mas : M (List Opd)}
    (Fo : FnG X.prog X.w X.K X.mg X.base k f fd ps (spP X.K ec n F)) (hl : ∀ ds r, F ds = some r → ds.length = n) (hr : Room k X.A) (hG : X.A.guards = some []) (hg : Gl X x) (hm : X.mg x = some (.ref f)) (hk : PySem.W.keepIn X.K (.ref f) = true)
    (hb : ∀ (s : Shared) (ws : List Value), X.K.In s.heap → ws.length = ps.length → BindsTo s fd ⟨[], ps.zip ws⟩ (ps.zip ws)) (hx : Passes (L2.CX X.prog X.w) X W) (ha : EvK X ec W kws mas)
    (hall : (backToKw pos (keywordEach kws X.env)).all (·.1.isSome) = true) (hks : (backToKw pos (keywordEach kws X.env)).filterMap (·.1) = ps) (hdb : (x == ("__debug__" : Str)) = false)
    (hpl : ((backTo pos (starEach [] X.env)).any (·.1) || (backToKw pos (keywordEach kws X.env)).any (·.1.isNone)) = false) :
    EvE X ec W (.Call (.Name x p) [] kws pos) (mCall F mas) := by
  have pe : PE X (.Call (.Name x p) [] kws pos) (tCall (spP X.K ec n F) [] W (tOf X.K ec W (rlA X.K) mas)) := by
    refine ⟨fun pins s σ H Q I h => wpAny_Call_Name_kw (ld_glob I hg hm ?_ hdb)⟩
    refine PySem.W.callWith_KW0 (h₀ := X.base) I.ok.mod.kin hk hall (thn (ha.run pos pins s σ H _ I h) fun ws s2 ⟨vs, H2, I2, rv, q⟩ => ⟨I2.kIn, ?_⟩) hpl
    rw [hks]
    have q' : spP X.K ec n F vs H2 Q W := by have z : spP X.K ec n F (vs ++ []) H2 Q W := q; rwa [List.append_nil] at z
    have hl2 : ws.length = ps.length := by rw [← rv.length]; exact Fo.len _ _ _ _ q'
    refine wpAny_call (codeAny_mono (Fo.go X.A X.stack s2 H2 ⟨[], ps.zip ws⟩ ws vs Q W hr hG I2.env0 (hb s2 ws I2.kIn hl2) rv q') fun r s' hq => ?_)
    match r, hq with
    | .error e, hq => exact hx pins σ H2 s2 e s' I2 hq
    | .ok (.ret u), hq => exact I2.after hq
    | .ok .next, hq => exact hq.elim
    | .ok .brk, hq => exact hq.elim
    | .ok .cont, hq => exact hq.elim
  exact .mk pe (sp_call hl tOf_sp)
end EV
end

section
set_option Elab.async false
set_option linter.all false
set_option maxRecDepth 100000
/-! EvP8: what is left for a text: -n, pairs of targets, defs by name, words for side conditions. -/
namespace EV
open PySem PySem.Spec PyProof.Rows L2
variable {K : PySem.W.Frag} {H H1 H2 H' : Hp} {B B1 B2 B' : AS} {fr fr1 fr2 fr' : Fr} {σ σ1 σ2 σ' : L2.St} {ec : EC} {W : XK} {X : Cx}
def mNeg (m : M PyData) : M PyData := m.bind fun d => fun fr => match d with
  | .int i => some (.ok (.int (-i)), fr)
  | _ => none
theorem ev_neg {e : Expr} {m : M PyData} {pos : Pos} (h : EvE X ec W e m) : EvE X ec W (.UnaryOp .USub e pos) (mNeg m) := by
  obtain ⟨t, p, s1⟩ := h.out
  refine .mk (pe_un un_neg p) ?_
  intro σ H B fr r fr' Q R e hr
  refine s1.thn R e hr fun d v fr1 H1 B1 R1 st e1 rd hr1 => ?_
  split at e1
  · rename_i i
    cases e1
    cases rd
    exact ⟨i, rfl, hr1 σ H1 B1 .refl R1 rfl _ (.int _)⟩
  · cases e1
section
variable {i j : Nat} {x y : Str} {a b : Expr} {ma mb : M PyData} {px py pt pt2 pos : Pos} {kt k2 : Nat}
/-- x, y = a, b -/
theorem evS_par2 (hc : X.calm = true) (hN : X.N.Nodup) (hi : X.N[i]? = some x) (hj : X.N[j]? = some y) (hij : i ≠ j) (hx : X.env.scope.names.lookup x = some .local) (hy : X.env.scope.names.lookup y = some .local) (ha : EvE X ec W a ma) (hb : EvE X ec W b mb)
    (hs2 : starEach [a, b] X.env = (false, eval a X.env) :: starEach [b] X.env) (hs1 : starEach [b] X.env = (false, eval b X.env) :: starEach [] X.env)
    (hw : swappedStores [.Tuple [.Name x px, .Name y py] kt pt] (.Tuple [a, b] k2 pt2) X.env = pure (some [x, y])) (hs : swapsWithSole [.Tuple [.Name x px, .Name y py] kt pt] (.Tuple [a, b] k2 pt2) pos.line X.env = pure false) :
    EvS X ec W (.Assign [.Tuple [.Name x px, .Name y py] kt pt] (.Tuple [a, b] k2 pt2) pos) (sPar i j ma mb) := by
  obtain ⟨ta, p1, s1⟩ := ha.out
  obtain ⟨tb, p2, s2⟩ := hb.out
  exact evS_par (ps_par hc hN hi hj hij hx hy (pa_cons p1 (pa_cons p2 pa_nil hs1) hs2) hw hs) s1 s2
def sParEN (i j : Nat) (ma mb : M PyData) : MS := ma.bind fun x => mb.bind fun y => fun fr => if j < fr.length then some (.ok .nx, (fr.set i (.fz x)).set j (.ow false y)) else none
theorem evS_parEN (hc : X.calm = true) (hN : X.N.Nodup) (hi : X.N[i]? = some x) (hj : X.N[j]? = some y) (hij : i ≠ j) (hx : X.env.scope.names.lookup x = some .local) (hy : X.env.scope.names.lookup y = some .local) (ha : EvE X ec W a ma) (hb : EvN X ec W b mb)
    (hs2 : starEach [a, b] X.env = (false, eval a X.env) :: starEach [b] X.env) (hs1 : starEach [b] X.env = (false, eval b X.env) :: starEach [] X.env)
    (hw : swappedStores [.Tuple [.Name x px, .Name y py] kt pt] (.Tuple [a, b] k2 pt2) X.env = pure (some [x, y])) (hs : swapsWithSole [.Tuple [.Name x px, .Name y py] kt pt] (.Tuple [a, b] k2 pt2) pos.line X.env = pure false) :
    EvS X ec W (.Assign [.Tuple [.Name x px, .Name y py] kt pt] (.Tuple [a, b] k2 pt2) pos) (sParEN i j ma mb) := by
  obtain ⟨ta, p1, s1⟩ := ha.out
  obtain ⟨tb, p2, s2⟩ := hb.out
  refine .mk (ps_par hc hN hi hj hij hx hy (pa_cons p1 (pa_cons p2 pa_nil hs1) hs2) hw hs) ?_
  intro σ H B fr r fr' D R e hr
  refine s1.thn R e hr fun d v fr1 H1 B1 R1 st1 e1 rd hr1 => ?_
  refine s2.thn R1 e1 hr1 fun d2 w fr2 H2 B2 R2 st2 e2 rn hr2 => ?_
  split at e2
  · rename_i hlt
    cases e2
    obtain ⟨c, rfl, ow, nw, fq⟩ := rn
    refine ⟨v, .ref c, rfl, ?_⟩
    obtain ⟨s5, R5⟩ := set_fz R2 i (rd.kp (st2.kp R1))
    have nw5 : ¬ Wr (fr2.set i (.fz d)) (σ.set i (some v)) c := fun ⟨q, l, d', h1, h2⟩ => by
      rcases get_set h1 with ⟨_, z⟩ | ⟨ne, z⟩
      · cases z
      · rw [List.getElem?_set_ne (Ne.symm ne)] at h2
        exact nw ⟨q, l, d', z, h2⟩
    have st := (st1.trans R st2).trans R s5
    obtain ⟨s6, R6⟩ := set_ow R5 j ow nw5 (st1.back fq) (by rw [List.length_set]; exact hlt) st R
    exact hr _ H2 B2 s6 R6
  · cases e2
def sParNN (i j : Nat) (ma mb : M PyData) : MS := ma.bind fun x => mb.bind fun y => fun fr => if i < fr.length ∧ j < fr.length then some (.ok .nx, (fr.set i (.ow false x)).set j (.ow false y)) else none
theorem evS_parNN (hc : X.calm = true) (hN : X.N.Nodup) (hi : X.N[i]? = some x) (hj : X.N[j]? = some y) (hij : i ≠ j) (hx : X.env.scope.names.lookup x = some .local) (hy : X.env.scope.names.lookup y = some .local) (ha : EvN X ec W a ma) (hb : EvN X ec W b mb)
    (hs2 : starEach [a, b] X.env = (false, eval a X.env) :: starEach [b] X.env) (hs1 : starEach [b] X.env = (false, eval b X.env) :: starEach [] X.env)
    (hw : swappedStores [.Tuple [.Name x px, .Name y py] kt pt] (.Tuple [a, b] k2 pt2) X.env = pure (some [x, y])) (hs : swapsWithSole [.Tuple [.Name x px, .Name y py] kt pt] (.Tuple [a, b] k2 pt2) pos.line X.env = pure false) :
    EvS X ec W (.Assign [.Tuple [.Name x px, .Name y py] kt pt] (.Tuple [a, b] k2 pt2) pos) (sParNN i j ma mb) := by
  obtain ⟨ta, p1, s1⟩ := ha.out
  obtain ⟨tb, p2, s2⟩ := hb.out
  refine .mk (ps_par hc hN hi hj hij hx hy (pa_cons p1 (pa_cons p2 pa_nil hs1) hs2) hw hs) ?_
  intro σ H B fr r fr' D R e hr
  refine s1.thn R e hr fun d v fr1 H1 B1 R1 st1 e1 rd hr1 => ?_
  refine s2.thn R1 e1 hr1 fun d2 w fr2 H2 B2 R2 st2 e2 rn hr2 => ?_
  split at e2
  · rename_i hlt
    cases e2
    obtain ⟨c1, rfl, ⟨hB1, hin1⟩, nw1, fq1⟩ := rd
    obtain ⟨c, rfl, ow, nw, fq⟩ := rn
    refine ⟨.ref c1, .ref c, rfl, ?_⟩
    -- the first list stands behind the second's making
    have at1 : ∃ o, H1 c1 = some o ∧ NT o := R1.bdom c1 hB1
    have ne : c ≠ c1 := fun z => by
      obtain ⟨o, e, nt⟩ := at1
      exact fq o (z ▸ e) nt
    have ow1 : OwnAt X.K H2 B2 c1 d := ⟨st2.bk c1 hB1 nw1, hin1.kp (st2.kp R1) fun o e nt => st2.keep c1 o e nt nw1⟩
    have nw1' : ¬ Wr fr2 σ c1 := fun w => (st2.wn c1 w).elim nw1 fun z => by
      obtain ⟨o, e, nt⟩ := at1
      exact z o e nt
    obtain ⟨s5, R5⟩ := set_ow R2 i ow1 nw1' fq1 hlt.1 (st1.trans R st2) R
    have nw5 : ¬ Wr (fr2.set i (.ow false d)) (σ.set i (some (.ref c1))) c := fun ⟨q, l, d', h1, h2⟩ => by
      rcases get_set h1 with ⟨e, z⟩ | ⟨ne', z⟩
      · subst e
        rcases st_get h2 with ⟨_, z2⟩ | ⟨n3, _⟩
        · cases z2; exact ne rfl
        · exact n3 rfl
      · rw [List.getElem?_set_ne (Ne.symm ne')] at h2
        exact nw ⟨q, l, d', z, h2⟩
    obtain ⟨s6, R6⟩ := set_ow R5 j ow nw5 (st1.back fq) (by rw [List.length_set]; exact hlt.2) s5 R
    exact hr _ H2 B2 s6 R6
  · cases e2
end
/-! ### defs by name -/
/-- the global x is a def that keeps sp at the level k -/
structure GD (P : Program) (w : World) (K : PySem.W.Frag) (mg : Str → Option Value) (base : Heap) (x : Str) (k : Nat) (ps : List Str) (sp : Sp) : Prop where
  at_ : ∃ (f : Addr) (fd : FuncData), FnG P w K mg base k f fd ps sp ∧ mg x = some (.ref f) ∧ PySem.W.keepIn K (.ref f) = true ∧ L2.Binds K fd ps [] ∧ ∀ (s : Shared) (ws : List Value), K.In s.heap → ws.length = ps.length → BindsTo s fd ⟨[], ps.zip ws⟩ (ps.zip ws)
section
variable {x : Str} {e : Expr} {es : List Expr} {p pos : Pos} {k n : Nat} {ps : List Str} {mas : M (List Opd)}
theorem ev_gd {F : List PyData → Option (Except Xn PyData)} (G : GD X.prog X.w X.K X.mg X.base x k ps (spP X.K ec n F)) (hl : ∀ ds r, F ds = some r → ds.length = n) (hr : Room k X.A) (hG : X.A.guards = some []) (hg : Gl X x) (hx : Passes (L2.CX X.prog X.w) X W)
    (ha : EvA X ec W (e :: es) mas) (hdb : (x == ("__debug__" : Str)) = false) (he : starEach (e :: es) X.env = (false, eval e X.env) :: starEach es X.env) (hpl : (backTo pos (starEach es X.env)).any (·.1) = false) : EvE X ec W (.Call (.Name x p) (e :: es) [] pos) (mCall F mas) :=
  let ⟨_, _, Fo, hm, hk, hb, _⟩ := G.at_; ev_call Fo hl hr hG hg hm hk hb hx ha hdb he hpl
theorem ev_gdL {F : FL} (G : GD X.prog X.w X.K X.mg X.base x k ps (spL X.K ec n F)) (hl : ∀ g ds r, F g ds = some r → ds.length = n) (hr : Room k X.A) (hG : X.A.guards = some []) (hg : Gl X x) (hx : Passes (L2.CX X.prog X.w) X W)
    (ha : EvA X ec W (e :: es) mas) (hdb : (x == ("__debug__" : Str)) = false) (he : starEach (e :: es) X.env = (false, eval e X.env) :: starEach es X.env) (hpl : (backTo pos (starEach es X.env)).any (·.1) = false) : EvE X ec W (.Call (.Name x p) (e :: es) [] pos) (mCallL F mas) :=
  let ⟨_, _, Fo, hm, hk, hb, _⟩ := G.at_; ev_callL Fo hl hr hG hg hm hk hb hx ha hdb he hpl
theorem evN_gd {F : List PyData → Option (List PyData)} (G : GD X.prog X.w X.K X.mg X.base x k ps (spN X.K ec n F)) (hl : ∀ ds r, F ds = some r → ds.length = n) (hr : Room k X.A) (hG : X.A.guards = some []) (hg : Gl X x) (hx : Passes (L2.CX X.prog X.w) X W)
    (ha : EvA X ec W (e :: es) mas) (hdb : (x == ("__debug__" : Str)) = false) (he : starEach (e :: es) X.env = (false, eval e X.env) :: starEach es X.env) (hpl : (backTo pos (starEach es X.env)).any (·.1) = false) : EvN X ec W (.Call (.Name x p) (e :: es) [] pos) (mCallN F mas) :=
  let ⟨_, _, Fo, hm, hk, hb, _⟩ := G.at_; evN_callN Fo hl hr hG hg hm hk hb hx ha hdb he hpl
theorem ev_gdK {F : List PyData → Option (Except Xn PyData)} {kws : List Keyword} (G : GD X.prog X.w X.K X.mg X.base x k ps (spP X.K ec n F)) (hl : ∀ ds r, F ds = some r → ds.length = n) (hr : Room k X.A) (hG : X.A.guards = some []) (hg : Gl X x) (hx : Passes (L2.CX X.prog X.w) X W)
    (ha : EvK X ec W kws mas) (hall : (backToKw pos (keywordEach kws X.env)).all (·.1.isSome) = true) (hks : (backToKw pos (keywordEach kws X.env)).filterMap (·.1) = ps) (hdb : (x == ("__debug__" : Str)) = false)
    (hpl : ((backTo pos (starEach [] X.env)).any (·.1) || (backToKw pos (keywordEach kws X.env)).any (·.1.isNone)) = false) : EvE X ec W (.Call (.Name x p) [] kws pos) (mCall F mas) :=
  let ⟨_, _, Fo, hm, hk, _, hkw⟩ := G.at_; ev_callK Fo hl hr hG hg hm hk hkw hx ha hall hks hdb hpl
end
theorem passX {P : Program} {w : World} {mg : Str → Option Value} {base : Heap} {N : List Str} {qual : Str} {scope : Scope} {f : Addr} {cd : Value} {A : Around} {outer : List Env} {s : Shared} {E : XK} : Passes (L2.CX P w) (cxOf (L2.CX P w) P w K mg base N qual scope f cd A outer s H E) E := passes_call (takes_of rfl rfl rfl rfl) fun _ _ _ _ h => h
theorem takesX {P : Program} {w : World} {mg : Str → Option Value} {base : Heap} {N : List Str} {qual : Str} {scope : Scope} {f : Addr} {cd : Value} {A : Around} {outer : List Env} {s : Shared} {E : XK} : Takes (cxOf (L2.CX P w) P w K mg base N qual scope f cd A outer s H E) (fun cls d _ H => E cls d H) := takes_of rfl rfl rfl rfl
theorem ownX {P : Program} {w : World} {mg : Str → Option Value} {base : Heap} {N : List Str} {qual : Str} {scope : Scope} {f : Addr} {cd : Value} {A : Around} {outer : List Env} {s : Shared} {E : XK} : PassesOwn (model P w) (cxOf (L2.CX P w) P w K mg base N qual scope f cd A outer s H E).A (cxOf (L2.CX P w) P w K mg base N qual scope f cd A outer s H E).env (cxOf (L2.CX P w) P w K mg base N qual scope f cd A outer s H E).xe := passes_of (X := cxOf (L2.CX P w) P w K mg base N qual scope f cd A outer s H E) rfl
theorem passB {E : XK} (h : E = E0') : Passes (L2.CX X.prog X.w) X E := by subst h; exact passes_call takes0 fun _ _ _ _ h => h
theorem passLam {A : Around} {outer : List Env} {s : Shared} {E : XK} {scope : Scope} {f c' : Addr} : Passes (L2.CX (LamX.lamCx X A outer s H E scope f c').prog (LamX.lamCx X A outer s H E scope f c').w) (LamX.lamCx X A outer s H E scope f c') E := passes_call (X := LamX.lamCx X A outer s H E scope f c') (takes_of rfl rfl rfl rfl) fun _ _ _ _ h => h
end EV
end

section
set_option Elab.async false
set_option linter.all false
set_option maxRecDepth 100000
/-! EvP9: the rules as the printed proofs name them. -/
namespace EV
open PySem PySem.Spec PyProof.Rows L2
variable {K : PySem.W.Frag} {ec : EC} {W : XK} {X : Cx}
section
variable {a b c : Expr} {ma mb mc : M Opd} {m : M PyData} {pos : Pos}
theorem ev_sub (ha : EvO X ec W a ma) (hb : EvO X ec W b mb) : EvE X ec W (.BinOp a .Sub b pos) (mP2 pSub ma mb) := ev_op op_sub pr_sub ha hb
theorem ev_mul (ha : EvO X ec W a ma) (hb : EvO X ec W b mb) : EvE X ec W (.BinOp a .Mult b pos) (mP2 pMulI ma mb) := ev_op op_mulX pr_mulI ha hb
theorem ev_mod (ha : EvO X ec W a ma) (hb : EvO X ec W b mb) : EvE X ec W (.BinOp a .Mod b pos) (mP2 pMod ma mb) := ev_op op_mod pr_mod ha hb
theorem ev_div (ha : EvO X ec W a ma) (hb : EvO X ec W b mb) : EvE X ec W (.BinOp a .FloorDiv b pos) (mP2 pDiv ma mb) := ev_op op_fdivW pr_div ha hb
theorem ev_pow (ha : EvO X ec W a ma) (hb : EvO X ec W b mb) : EvE X ec W (.BinOp a .Pow b pos) (mP2 pPow ma mb) := ev_op op_powX pr_pow ha hb
theorem ev_lt (ha : EvO X ec W a ma) (hb : EvO X ec W b mb) : EvE X ec W (.Compare a [.Lt] [b] pos) (mP2 pLt ma mb) := ev_cmp op_lt pr_lt ha hb (nobehind _ (by decide) (by decide))
theorem ev_le (ha : EvO X ec W a ma) (hb : EvO X ec W b mb) : EvE X ec W (.Compare a [.LtE] [b] pos) (mP2 pLe ma mb) := ev_cmp op_le pr_le ha hb (nobehind _ (by decide) (by decide))
theorem ev_gt (ha : EvO X ec W a ma) (hb : EvO X ec W b mb) : EvE X ec W (.Compare a [.Gt] [b] pos) (mP2 pGt ma mb) := ev_cmp op_gt pr_gt ha hb (nobehind _ (by decide) (by decide))
theorem evT_lt (ha : EvO X ec W a ma) (hb : EvO X ec W b mb) : EvT X ec W (.Compare a [.Lt] [b] pos) (asB (mP2 pLt ma mb)) := evT_cmp op_lt pr_lt ha hb (nobehind _ (by decide) (by decide))
theorem evT_le (ha : EvO X ec W a ma) (hb : EvO X ec W b mb) : EvT X ec W (.Compare a [.LtE] [b] pos) (asB (mP2 pLe ma mb)) := evT_cmp op_le pr_le ha hb (nobehind _ (by decide) (by decide))
theorem evT_gt (ha : EvO X ec W a ma) (hb : EvO X ec W b mb) : EvT X ec W (.Compare a [.Gt] [b] pos) (asB (mP2 pGt ma mb)) := evT_cmp op_gt pr_gt ha hb (nobehind _ (by decide) (by decide))
theorem ev_isN (ha : EvO X ec W a ma) (hb : EvO X ec W b mb) : EvE X ec W (.Compare a [.Is] [b] pos) (mP2 pIsN ma mb) := ev_cmp op_isN1 pr_isN ha hb (nobehind _ (by decide) (by decide))
theorem ev_notN (ha : EvO X ec W a ma) (hb : EvO X ec W b mb) : EvE X ec W (.Compare a [.IsNot] [b] pos) (mP2 pNotN ma mb) := ev_cmp op_notN pr_notN ha hb (nobehind _ (by decide) (by decide))
theorem evT_isN (ha : EvO X ec W a ma) (hb : EvO X ec W b mb) : EvT X ec W (.Compare a [.Is] [b] pos) (asB (mP2 pIsN ma mb)) := evT_cmp op_isN1 pr_isN ha hb (nobehind _ (by decide) (by decide))
theorem evT_notN (ha : EvO X ec W a ma) (hb : EvO X ec W b mb) : EvT X ec W (.Compare a [.IsNot] [b] pos) (asB (mP2 pNotN ma mb)) := evT_cmp op_notN pr_notN ha hb (nobehind _ (by decide) (by decide))
theorem ev_isB (ha : EvO X ec W a ma) (hb : EvO X ec W b mb) : EvE X ec W (.Compare a [.Is] [b] pos) (mP2 pIsB ma mb) := ev_cmp op_isBl pr_isB ha hb (nobehind _ (by decide) (by decide))
theorem evT_isB (ha : EvO X ec W a ma) (hb : EvO X ec W b mb) : EvT X ec W (.Compare a [.Is] [b] pos) (asB (mP2 pIsB ma mb)) := evT_cmp op_isBl pr_isB ha hb (nobehind _ (by decide) (by decide))
theorem ev_lele (ha : EvO X ec W a ma) (hb : EvO X ec W b mb) (hc : EvO X ec W c mc) (hm : lastMarks [.LtE, .LtE] [b, c] = false) : EvE X ec W (.Compare a [.LtE, .LtE] [b, c] pos) (mChain pLe pLe ma mb mc) := ev_chain op_le pr_le op_le pr_le ha hb hc hm
theorem evT_lele (ha : EvO X ec W a ma) (hb : EvO X ec W b mb) (hc : EvO X ec W c mc) (hm : lastMarks [.LtE, .LtE] [b, c] = false) : EvT X ec W (.Compare a [.LtE, .LtE] [b, c] pos) (asB (mChain pLe pLe ma mb mc)) := evT_chain op_le pr_le op_le pr_le ha hb hc hm
end
/-! ### built-ins -/
theorem bb_len : bootBuiltins "len" = some (.builtin "len") := by decide +kernel
theorem bb_max : bootBuiltins "max" = some (.builtin "max") := by decide +kernel
theorem bb_min : bootBuiltins "min" = some (.builtin "min") := by decide +kernel
theorem bb_abs : bootBuiltins "abs" = some (.builtin "abs") := by decide +kernel
theorem bb_sum : bootBuiltins "sum" = some (.builtin "sum") := by decide +kernel
theorem bb_repr : bootBuiltins "repr" = some (.builtin "repr") := by decide +kernel
theorem bb_sorted : bootBuiltins "sorted" = some (.builtin "sorted") := by decide +kernel
theorem bb_isinstance : bootBuiltins "isinstance" = some (.builtin "isinstance") := by decide +kernel
theorem bb_int : bootBuiltins "int" = some (.type "int") := by decide +kernel
theorem bb_bool : bootBuiltins "bool" = some (.type "bool") := by decide +kernel
theorem bb_str : bootBuiltins "str" = some (.type "str") := by decide +kernel
theorem bb_list : bootBuiltins "list" = some (.type "list") := by decide +kernel
theorem bb_tuple : bootBuiltins "tuple" = some (.type "tuple") := by decide +kernel
theorem bb_set : bootBuiltins "set" = some (.type "set") := by decide +kernel
theorem kt_int : ∀ d, kitB (tyN d) "int" = some (isT "int" d) := kit_tbl "int" (by decide +kernel)
theorem kt_bool : ∀ d, kitB (tyN d) "bool" = some (isT "bool" d) := kit_tbl "bool" (by decide +kernel)
theorem kt_str : ∀ d, kitB (tyN d) "str" = some (isT "str" d) := kit_tbl "str" (by decide +kernel)
theorem kt_list : ∀ d, kitB (tyN d) "list" = some (isT "list" d) := kit_tbl "list" (by decide +kernel)
theorem kt_tuple : ∀ d, kitB (tyN d) "tuple" = some (isT "tuple" d) := kit_tbl "tuple" (by decide +kernel)
section
variable {a b : Expr} {ma mb : M Opd} {m : M PyData} {p p2 pos : Pos}
abbrev A1 (ma : M Opd) : M (List Opd) := mCons ma mNil
abbrev A2 (ma mb : M Opd) : M (List Opd) := mCons ma (mCons mb mNil)
theorem ev_len (hg : Gl X "len") (hm : X.mg "len" = none) (ha : EvO X ec W a ma) (he : starEach [a] X.env = (false, eval a X.env) :: starEach [] X.env) (hpl : (backTo pos (starEach [] X.env)).any (·.1) = false) : EvE X ec W (.Call (.Name "len" p) [a] [] pos) (mPN pLen (A1 ma)) :=
  ev_callB call_len_seq pr_len hg hm bb_len (evA_cons ha evA_nil he) (by decide) (by decide) he hpl
theorem ev_abs (hg : Gl X "abs") (hm : X.mg "abs" = none) (ha : EvO X ec W a ma) (he : starEach [a] X.env = (false, eval a X.env) :: starEach [] X.env) (hpl : (backTo pos (starEach [] X.env)).any (·.1) = false) : EvE X ec W (.Call (.Name "abs" p) [a] [] pos) (mPN pAbs (A1 ma)) :=
  ev_callB call_abs pr_abs hg hm bb_abs (evA_cons ha evA_nil he) (by decide) (by decide) he hpl
theorem ev_sum (hc : X.calm = true) (hg : Gl X "sum") (hm : X.mg "sum" = none) (ha : EvO X ec W a ma) (he : starEach [a] X.env = (false, eval a X.env) :: starEach [] X.env) (hpl : (backTo pos (starEach [] X.env)).any (·.1) = false) : EvE X ec W (.Call (.Name "sum" p) [a] [] pos) (mPN pSum (A1 ma)) :=
  ev_callB (cr_sum hc) pr_sum hg hm bb_sum (evA_cons ha evA_nil he) (by decide) (by decide) he hpl
theorem ev_int1 (hg : Gl X "int") (hm : X.mg "int" = none) (ha : EvO X ec W a ma) (he : starEach [a] X.env = (false, eval a X.env) :: starEach [] X.env) (hpl : (backTo pos (starEach [] X.env)).any (·.1) = false) : EvE X ec W (.Call (.Name "int" p) [a] [] pos) (mPN pInt (A1 ma)) :=
  ev_callTy call_int1 pr_int hg hm bb_int (evA_cons ha evA_nil he) (by decide) (by decide) he hpl
theorem ev_max1 (hr : Room 0 X.A) (hc : X.calm = true) (hg : Gl X "max") (hm : X.mg "max" = none) (ha : EvO X ec W a ma) (he : starEach [a] X.env = (false, eval a X.env) :: starEach [] X.env) (hpl : (backTo pos (starEach [] X.env)).any (·.1) = false) : EvE X ec W (.Call (.Name "max" p) [a] [] pos) (mPN pMaxT (A1 ma)) :=
  ev_callB (cr_maxT hc hr) pr_maxT hg hm bb_max (evA_cons ha evA_nil he) (by decide) (by decide) he hpl
theorem ev_min1 (hr : Room 0 X.A) (hc : X.calm = true) (hg : Gl X "min") (hm : X.mg "min" = none) (ha : EvO X ec W a ma) (he : starEach [a] X.env = (false, eval a X.env) :: starEach [] X.env) (hpl : (backTo pos (starEach [] X.env)).any (·.1) = false) : EvE X ec W (.Call (.Name "min" p) [a] [] pos) (mPN pMinT (A1 ma)) :=
  ev_callB (cr_minT hc hr) pr_minT hg hm bb_min (evA_cons ha evA_nil he) (by decide) (by decide) he hpl
theorem ev_max2 (hc : X.calm = true) (hg : Gl X "max") (hm : X.mg "max" = none) (ha : EvO X ec W a ma) (hb : EvO X ec W b mb) (he : starEach [a, b] X.env = (false, eval a X.env) :: starEach [b] X.env) (he2 : starEach [b] X.env = (false, eval b X.env) :: starEach [] X.env) (hpl : (backTo pos (starEach [b] X.env)).any (·.1) = false) :
    EvE X ec W (.Call (.Name "max" p) [a, b] [] pos) (mPN pMax2 (A2 ma mb)) := ev_callB (call_max2 hc) pr_max2 hg hm bb_max (evA_cons ha (evA_cons hb evA_nil he2) he) (by decide) (by decide) he hpl
theorem ev_min2 (hc : X.calm = true) (hg : Gl X "min") (hm : X.mg "min" = none) (ha : EvO X ec W a ma) (hb : EvO X ec W b mb) (he : starEach [a, b] X.env = (false, eval a X.env) :: starEach [b] X.env) (he2 : starEach [b] X.env = (false, eval b X.env) :: starEach [] X.env) (hpl : (backTo pos (starEach [b] X.env)).any (·.1) = false) :
    EvE X ec W (.Call (.Name "min" p) [a, b] [] pos) (mPN pMin2 (A2 ma mb)) := ev_callB (call_min2 hc) pr_min2 hg hm bb_min (evA_cons ha (evA_cons hb evA_nil he2) he) (by decide) (by decide) he hpl
theorem ev_repr (hr : Room 0 X.A) (hG : X.A.guards = some []) (hg : Gl X "repr") (hm : X.mg "repr" = none) (ha : EvO X ec W a ma) (he : starEach [a] X.env = (false, eval a X.env) :: starEach [] X.env) (hpl : (backTo pos (starEach [] X.env)).any (·.1) = false) : EvE X ec W (.Call (.Name "repr" p) [a] [] pos) (mPN pRepr (A1 ma)) :=
  ev_callB ((call_repr hr hG).or (call_repr0 hr hG)) pr_repr hg hm bb_repr (evA_cons ha evA_nil he) (by decide) (by decide) he hpl
theorem evN_list1 (hg : Gl X "list") (hm : X.mg "list" = none) (ha : EvO X ec W a ma) (he : starEach [a] X.env = (false, eval a X.env) :: starEach [] X.env) (hpl : (backTo pos (starEach [] X.env)).any (·.1) = false) : EvN X ec W (.Call (.Name "list" p) [a] [] pos) (mPN pList (A1 ma)) :=
  evN_callTy call_list_of nw_list hg hm bb_list (evA_cons ha evA_nil he) (by decide) (by decide) he hpl
end
/-! ### statements with a slot -/
section
variable {i : Nat} {x : Str} {k e : Expr} {me mk : M PyData} {pos pos' px cpos apos : Pos}
theorem evS_app (hN : X.N[i]? = some x) (hv : Vis X.env.scope x) (hd : (x == ("__debug__" : Str)) = false) (hcd : (x == ("__classdict__" : Str)) = false) (he : EvE X ec W e me) (hs : swapsWith (.Call (.Attribute (.Name x px) "append" apos) [e] [] cpos) none pos.line X.env = pure false)
    (hbase : attributeBase (.Name x px) "append" X.env (eval (.Name x px) X.env) = eval (.Name x px) X.env)
    (hfew : ((backTo cpos (starEach [e] X.env)).all (fun x => !x.1) && (backToKw cpos (keywordEach [] X.env)).all (fun x => x.1.isSome) && decide ([e].length + ([] : List Keyword).length + (if ([] : List Keyword).isEmpty then 0 else 1) < 30)) = true)
    (hline : (apos.endLine == cpos.line) = true) (hst : starEach [e] X.env = (false, eval e X.env) :: starEach [] X.env) (hpl : (backTo cpos (starEach [] X.env)).any (·.1) = false) :
    EvS X ec W (.Expr (.Call (.Attribute (.Name x px) "append" apos) [e] [] cpos) pos) (sAppend i me) :=
  evS_append he fun {te} p => ps_expr (pe_bm PySem.F.plainAttrs_list PySem.F.slot_list_append PySem.F.type_list_append mt_append (pe_var hN hv hd hcd) (pa_cons p pa_nil hst) hbase hfew hline hst hpl) hs
theorem evS_put (hN : X.N[i]? = some x) (hv : Vis X.env.scope x) (hd : (x == ("__debug__" : Str)) = false) (hcd : (x == ("__classdict__" : Str)) = false) (hk : EvE X ec W k mk) (he : EvE X ec W e me) (hx : PlainIx k)
    (hs : swapsWithSole [.Subscript (.Name x px) k pos'] e pos.line X.env = pure false) (hw : swappedStores [.Subscript (.Name x px) k pos'] e X.env = pure none) (h1 : (assignEach [.Subscript (.Name x px) k pos'] X.env).map (·.2) = [assign (.Subscript (.Name x px) k pos') X.env])
    (ha : ∀ v, assign (.Subscript (.Name x px) k pos') X.env v = (do
      let ov ← holding [v] (eval (.Name x px) X.env)
      let iv ← holding [v, ov] (eval k X.env)
      standAt pos'
      holding [v, ov, iv] (setItem ov iv v)
      release [v, ov, iv] [])) :
    EvS X ec W (.Assign [.Subscript (.Name x px) k pos'] e pos) (sStore i me mk) :=
  evS_store (pe_var hN hv hd hcd) hk he hx fun {te tk} p1 p2 => ps_asg p1 (pg_sub (pe_var hN hv hd hcd) p2 set_list ha) hs hw h1
theorem evS_putD (hr : Room 0 X.A) (hN : X.N[i]? = some x) (hv : Vis X.env.scope x) (hd : (x == ("__debug__" : Str)) = false) (hcd : (x == ("__classdict__" : Str)) = false) {mk : M Opd} (hk : EvO X ec W k mk) (he : EvE X ec W e me) (hs : swapsWith e (some (.Subscript (.Name x px) k pos')) pos.line X.env = pure false) :
    EvS X ec W (.Assign [.Subscript (.Name x px) k pos'] e pos) (sDPutM i me mk) := evS_dput hr (pe_var hN hv hd hcd) hk he hs
end
/-- a constant of the module's top -/
structure GC (K : PySem.W.Frag) (mg : Str → Option Value) (x : Str) (d : PyData) : Prop where
  at_ : ∃ (v : V) (u : Value), mg x = some u ∧ RelV v u ∧ ∀ (H : Hp) (B : AS), RD K H B d v
theorem ev_gc {x : Str} {d : PyData} {pos : Pos} (G : GC X.K X.mg x d) (hg : Gl X x) (hd : (x == ("__debug__" : Str)) = false) : EvE X ec W (.Name x pos) (mC d) := let ⟨_, _, h1, h2, h3⟩ := G.at_; ev_glob hg h1 h2 h3 hd
theorem evG_tup' {vs : List Nat} {es : List Expr} {k : Nat} {gs : Gs} {n : Nat} {pos : Pos} (hc : X.calm = true) (h : EvGs X ec vs es gs) (hn : (assignEach es X.env).length = n) (hst : (assignEach es X.env).findIdx? (·.1) = none) : EvG X ec vs (.Tuple es k pos) (gT n gs) := evG_tup h fun t p => pg_tup hc p hn hst
/-- an own error's class: what raising it needs -/
structure GE (P : Program) (w : World) (K : PySem.W.Frag) (mg : Str → Option Value) (base : Heap) (ec : EC) (x : Str) (c k : Nat) : Prop where
  at_ : OexC K (ec.ad c) ∧ mg x = some (.ref (ec.ad c)) ∧ ∃ (fI : Addr) (fd : FuncData), PySem.W.findIn K (.ref (ec.ad c)) "__init__" = some (some (.ref fI)) ∧ PySem.W.typeIn K (.ref fI) = some (.type "function") ∧ FnOk P w K mg base CX0 k fI fd ["self", "value"] (spIv (ec.ad c)) ∧ L2.Binds K fd ["self", "value"] []
theorem evS_raiseC {e : Expr} {x : Str} {m : M PyData} {p pos pos2 : Pos} {c k : Nat} (G : GE X.prog X.w X.K X.mg X.base ec x c k) (hc : X.calm = true) (hr : Room (k + 1) X.A) (tk : Takes X (fun cls d _ H => W cls d H)) (hg : Gl X x) (he : EvE X ec W e m)
    (hdb : (x == ("__debug__" : Str)) = false) (hs : starEach [e] X.env = (false, eval e X.env) :: starEach [] X.env) (hpl : (backTo pos (starEach [] X.env)).any (·.1) = false) : EvS X ec W (.Raise (some (.Call (.Name x p) [e] [] pos)) none pos2) (sRaise c m) :=
  let ⟨T, hm, _, _, h1, h2, h3, h4⟩ := G.at_; evS_raise hc T h1 h2 h3 hr h4 tk hg hm he hdb hs hpl
end EV
end

section
set_option Elab.async false
set_option linter.all false
set_option maxRecDepth 100000
/-! EvEnd: the end of a law whose def is right wherever nothing is being shown (repr) around; one table of code objects. -/
namespace EV
open PySem PySem.Spec PyProof.Rows L2
/-- what the start tracks: the table at Pt; the script at a, as the frozen object oa, if it is not of the written part -/
def startH (Pt a : Addr) (own : Bool) (oa : Obj) (xs : List V) : Hp := fun b => if b = Pt then some (.tbl #[]) else if b = a ∧ own = true then some (.frz oa (.lst xs)) else none
section
variable {P : Program} {w : World} {K : PySem.W.Frag} {mg mb : Str → Option Value} {k : Nat} {fa a c Pt : Addr} {x : Str} {sp : Sp} {s₁ : Shared} {vs : List Value} {ns : List Int}
theorem startH_some {own : Bool} {oa : Obj} {xs : List V} {b : Addr} {u : HO} (h : startH Pt a own oa xs b = some u) : (b = Pt ∧ u = .tbl #[]) ∨ (b ≠ Pt ∧ b = a ∧ own = true ∧ u = .frz oa (.lst xs)) := by
  unfold startH at h
  split at h
  · rename_i e; cases h; exact .inl ⟨e, rfl⟩
  · rename_i e
    split at h
    · rename_i e2; cases h; exact .inr ⟨e, e2.1, e2.2, rfl⟩
    · cases h
theorem law_callG (kin : K.In s₁.heap) (glob : s₁.heap.Ns mainGlobals mg) (blt : s₁.heap.Ns builtinsNs mb) (bltB : ∀ y : Str, y ≠ "__name__" → mb y = bootBuiltins y) (nolim : s₁.heap.NoLimit) (gens : s₁.gens = #[])
    (tabl : s₁.heap.get? Pt = some { cls := .none, data := .fields #[] }) (tablK : K.lookup Pt = none) (code : PySem.W.CodeHd s₁.heap c Pt)
    (bmod : ∃ (bm : Addr) (ob : Obj), mg "__builtins__" = some (.ref bm) ∧ bm ≠ builtinsNs ∧ s₁.heap.get? bm = some ob ∧ ob.cls = .type "module" ∧ ob.dict = some builtinsNs ∧ ob.data = .plain)
    (scr : s₁.heap.get? a = some { cls := .type "list", data := .seq vs.toArray }) (hints : IntsAre vs ns) (few : ns.length ≤ sizeLine) (room : Room k callerA)
    (F : ∀ base : Heap, K.In base → base.Ns mainGlobals mg → LamX.TabB base mg c Pt → ∃ fd : FuncData, FnG P w K mg base k fa fd [x] sp ∧ ∀ (s : Shared) (u : Value), K.In s.heap → BindsTo s fd ⟨[u], []⟩ [(x, u)])
    (law : ∀ H : Hp, H Pt = some (.tbl #[]) → SqL K H a (ns.map V.int) → sp [.ref a] H (fun v _ => v = .bl true) fun _ _ _ => False) :
    codeAny (model P w) callerA (.call (.ref fa) ⟨[.ref a], []⟩) (fun r s' => r = .ok (.ret (.bool true)) ∧ OldK s₁.heap s'.heap ∧ s'.os = s₁.os ∧ AllBare s'.gens) s₁ := by
  have rvs : Vals (ns.map V.int) vs := vals_ints hints
  have aNe : a ≠ Pt := fun z => by
    rw [z, tabl] at scr
    cases scr
  -- is the script an object of the written part?
  obtain ⟨own, hown, hsq⟩ : ∃ own : Bool, (own = true → K.lookup a = none) ∧ SqL K (startH Pt a own { cls := .type "list", data := .seq vs.toArray } (ns.map V.int)) a (ns.map V.int) := by
    cases e : K.lookup a with
    | none =>
      refine ⟨true, fun _ => rfl, .inl (.inr ⟨{ cls := .type "list", data := .seq vs.toArray }, ?_⟩)⟩
      unfold startH
      rw [if_neg aNe, if_pos ⟨rfl, rfl⟩]
    | some o =>
      have e2 := kin a o e
      rw [scr] at e2
      cases e2
      exact ⟨false, fun z => (nomatch z), .inr ⟨_, vs.toArray, _, e, rfl, rfl, rfl, by rw [List.size_toArray, hints.length]; exact few, by simpa using rvs⟩⟩
  generalize hH : startH Pt a own { cls := .type "list", data := .seq vs.toArray } (ns.map V.int) = H at hsq
  have Hsome : ∀ {b u}, H b = some u → (b = Pt ∧ u = .tbl #[]) ∨ (b ≠ Pt ∧ b = a ∧ own = true ∧ u = .frz { cls := .type "list", data := .seq vs.toArray } (.lst (ns.map V.int))) := fun {b u} h => startH_some (by rw [hH]; exact h)
  have HPt : H Pt = some (.tbl #[]) := by
    rw [← hH]
    unfold startH
    rw [if_pos rfl]
  -- an object of another make is not tracked
  have free : ∀ {b : Addr} {o : Obj}, s₁.heap.get? b = some o → (∀ ws n, o.data ≠ .seq ws n) → o.data ≠ .fields #[] → H b = none := fun {b o} e n1 n2 => by
    cases q : H b with
    | none => rfl
    | some u =>
      rcases Hsome q with ⟨z, _⟩ | ⟨_, z, _⟩
      · rw [z, tabl] at e; cases e; exact absurd rfl n2
      · rw [z, scr] at e; cases e; exact absurd rfl (n1 _ _)
  have keepNs : ∀ {b : Addr} {m : Str → Option Value}, s₁.heap.Ns b m → (hidT s₁.heap H).Ns b m := fun {b m} ⟨o, es, ep, e, d, r⟩ =>
    ⟨o, es, ep, hidT_get e (free e (fun _ _ z => by rw [d] at z; cases z) fun z => by rw [d] at z; cases z), d, r⟩
  have kinB : K.In (hidT s₁.heap H) := fun b o e => hidT_get (kin b o e) (by
    cases q : H b with
    | none => rfl
    | some u =>
      rcases Hsome q with ⟨z, _⟩ | ⟨_, z, z2, _⟩
      · rw [z, tablK] at e; cases e
      · rw [z, hown z2] at e; cases e)
  have mod : L2.Mod K mg (hidT s₁.heap H) := ⟨kinB, keepNs glob, ⟨mb, keepNs blt, bltB⟩, let ⟨mc, h1, h2⟩ := nolim; ⟨mc, keepNs h1, h2⟩⟩
  have gNe : mainGlobals ≠ Pt := fun z => by
    obtain ⟨o, es, ep, e, d, _⟩ := glob
    rw [z, tabl] at e; cases e; cases d
  have tab : LamX.TabB (hidT s₁.heap H) mg c Pt := by
    refine ⟨?_, ?_, gNe⟩
    · obtain ⟨o, us, file, tf, flags, tg, inF, text, tt, e, r1, r2, r3, r⟩ := code
      refine ⟨o, us, file, tf, flags, tg, inF, text, tt, hidT_get e (free e (fun _ _ z => by rw [r2] at z; cases z) fun z => ?_), r1, r2, r3, r⟩
      rw [r2] at z
      cases z
      simp at r3
    · obtain ⟨bm, ob, b1, b2, b3, b4, b5, b6⟩ := bmod
      have n1 : bm ≠ mainGlobals := fun z => by
        obtain ⟨o, es, ep, e, d, _⟩ := glob
        rw [z, e] at b3; cases b3; rw [d] at b6; cases b6
      have n2 : bm ≠ Pt := fun z => by rw [z, tabl] at b3; cases b3; cases b6
      exact ⟨bm, ob, b1, b2, n1, n2, hidT_get b3 (free b3 (fun _ _ z => by rw [b6] at z; cases z) fun z => by rw [b6] at z; cases z), b4, b5, b6⟩
  have hok : HOk P w H s₁.heap := fun b u q => by
    rcases Hsome q with ⟨z, zu⟩ | ⟨_, z, _, zu⟩
    · subst z zu; exact tabl
    · subst z zu; exact ⟨scr, by rw [List.length_map]; exact few, vs, _, rvs, scr⟩
  have e0 : Env0 P w K mg (hidT s₁.heap H) callerA [] s₁ H := ⟨rfl, mod, fun b o e => of_hidT e, Nat.le_of_eq (hidT_size _ _), trivial, fun b hb => absurd (show b ∈ ([] : List Addr) from hb) (by simp), hok, .of_eq gens⟩
  obtain ⟨fd, Fg, binds⟩ := F _ kinB (keepNs glob) tab
  refine codeAny_mono (Fg.go callerA [] s₁ H ⟨[.ref a], []⟩ [.ref a] [.ref a] _ _ room rfl e0 (binds s₁ (.ref a) kin) (.cons rfl .nil) (law H HPt hsq)) fun r s' q => ?_
  match r, q with
  | .error e, q =>
    obtain ⟨_, _, _, _, _, _, _, _, _, _, _, _, z⟩ := (show L2.CX P w _ H s₁ (fun _ _ _ => False) e s' from q)
    exact z.elim
  | .ok .next, q => exact q.elim
  | .ok .brk, q => exact q.elim
  | .ok .cont, q => exact q.elim
  | .ok (.ret u), q =>
    obtain ⟨v, H', os, bare, un, hok', rv, ev⟩ := q
    have ev' : v = .bl true := ev
    subst ev'
    obtain rfl : u = Value.bool true := rv
    have stays : ∀ b o, b ≠ Pt → s₁.heap.get? b = some o → s'.heap.get? b = some o := fun b o nb e => by
      cases q : H b with
      | none => exact un.keep b o e q (by intro z; exact absurd (show b ∈ ([] : List Addr) from z) (by simp)) (by simp)
      | some u =>
        rcases Hsome q with ⟨z, _⟩ | ⟨_, z, _, zu⟩
        · exact absurd z nb
        · subst zu
          obtain ⟨e2, _⟩ := hok' b _ (un.frzs b _ _ q)
          rw [z, scr] at e
          cases e
          exact e2
    obtain ⟨more, hmore⟩ := un.tbls Pt #[] HPt
    have grown : s'.heap.get? Pt = some { cls := .none, data := .fields (#[] ++ more) } := hok' Pt _ hmore
    refine ⟨rfl, ⟨fun b o e => ?_, fun b o e => ?_⟩, os, bare⟩
    · by_cases hb : b = Pt
      · subst hb
        rw [tabl] at e
        cases e
        exact .inr (.inl ⟨(code.tab tabl).isCodeTable, rfl, #[], more, rfl, grown⟩)
      · exact .inl (stays b o hb e)
    · by_cases hb : b = Pt
      · subst hb; exact ⟨_, grown⟩
      · exact ⟨o, stays b o hb e⟩
end
end EV
end

section
set_option Elab.async false
set_option linter.all false
set_option maxRecDepth 100000
/-! EvQ1: enumerate, sum of a tuple, sorted pairs, while, a written dict looked into. -/
namespace EV
open PySem PySem.Spec PyProof.Rows L2
variable {K : PySem.W.Frag} {H H1 H2 H' : Hp} {B B1 B2 B' : AS} {fr fr1 fr2 fr' : Fr} {σ σ1 σ2 σ' : L2.St} {ec : EC} {W : XK} {X : Cx}

/-! ### enumerate -/
def enumD : Nat → List PyData → List PyData
  | _, [] => []
  | i, d :: ds => .tuple [.int i, d] :: enumD (i + 1) ds
theorem enumD_len : ∀ (ds : List PyData) (n : Nat), (enumD n ds).length = ds.length
  | [], _ => rfl
  | d :: ds, n => by
    show (enumD (n + 1) ds).length + 1 = _
    rw [enumD_len ds]; rfl
theorem enumD_at : ∀ (ds : List PyData) (n i : Nat) (d : PyData), ds[i]? = some d → (enumD n ds)[i]? = some (.tuple [.int ((n + i : Nat) : Int), d])
  | [], _, _, _, h => by simp at h
  | d :: ds, n, 0, d', h => by
    simp at h
    subst h
    rfl
  | d :: ds, n, i + 1, d', h => by
    have := enumD_at ds (n + 1) i d' (by simpa using h)
    rw [show n + 1 + i = n + (i + 1) by omega] at this
    simpa [enumD] using this
theorem ite_ok {a : Addr} {xs : List V} {ds : List PyData} (h : LAt K H B a xs) (r : RDs K H B ds xs) : ItOk K H B (Ite K a) (enumD 0 ds) := fun H' B' k bd => by
  have h' := h.kp k
  have r' := r.kp k
  have sq : SqL K H' a xs := h'.elim (fun z => .inl z.1) .inr
  rw [enumD_len]
  refine ⟨fun i hi => ⟨xs, xs[i]'(by rw [← r.length]; exact hi), sq, by simp⟩, fun i hi => ⟨xs, sq, by rw [← r.length]; exact hi⟩, fun i x H'' hi ⟨T, y, e1, e2, e3, e4⟩ => ?_⟩
  subst e1 e3
  have e5 := e4 xs sq
  obtain ⟨v, q1, q2⟩ := r'.get (List.getElem?_eq_getElem hi)
  rw [e5] at q1
  cases q1
  refine ⟨EV.Same.new e2, _, enumD_at ds 0 i _ (List.getElem?_eq_getElem hi), ?_⟩
  rw [Nat.zero_add]
  exact .tup ⟨upd_same, fun z => bd _ z e2⟩ (.cons (.int _) (.cons (q2.kp (.new bd e2)) .nil))
def mEnum (m : M PyData) : M (List PyData) := m.bind fun d => fun fr => match d with
  | .list ds => some (.ok (enumD 0 ds), fr)
  | _ => none
theorem evI_enum {e : Expr} {p pos tpos : Pos} {elts : List Expr} {kk : Nat} {m : M PyData} (hg : Gl X "enumerate") (hm : X.mg "enumerate" = none) (h : EvE X ec W e m) (hs : starEach [e] X.env = (false, eval e X.env) :: starEach [] X.env) :
    EvI X ec W (.Tuple elts kk tpos) (.Call (.Name "enumerate" p) [e] [] pos) (mEnum m) := by
  obtain ⟨t, p1, s⟩ := h.out
  have hs' : starEach [e] X.env = [(false, eval e X.env)] := hs
  refine .mk (pi_enum hg hm (pa_cons p1 pa_nil hs) hs') fun σ H B fr r fr' Q R e hr => ?_
  refine s.thn R e hr fun d v fr1 H1 B1 R1 s1 e1 rd hr1 => ?_
  split at e1
  · cases e1
    cases rd with
    | @lst a xs ds h1 h2 => exact ⟨a, xs, rfl, h1.elim (fun z => .inl z.1) .inr, hr1 σ H1 B1 .refl R1 rfl _ (ite_ok h1 h2)⟩
  · cases e1

/-! ### sum of a tuple of ints -/
def rSumT (K : PySem.W.Frag) : List V → Hp → VK → Prop := fun vs H Q => ∃ (a : Addr) (ns : List Int), vs = [V.ref a] ∧ SqT K H a (ns.map V.int) ∧ Q (.int ns.sum) H
theorem cr_sumT (hc : X.calm = true) : CallR X (.builtin "sum") (rSumT X.K) := by
  intro pins s σ H vs us Q I r h
  obtain ⟨a, ns, rfl, hs, q⟩ := h
  obtain ⟨its, rv, hl, _⟩ := I.tuple hs
  rw [Vals.ref1 r]
  have hi := rv.ints
  obtain ⟨xs, e⟩ := hi.allInts.items
  have hn : numsOf (intItems xs).toList = ns := by rw [← e]; exact hi.numsOf
  rw [nums_intItems] at hn
  rw [e] at hl
  refine PySem.W.ktm_sumG (I.ok.hd hc) hl fun h' tk t' hk => ⟨.int ns.sum, H, I.kept hk, ?_, q⟩
  refine ⟨t', ?_⟩
  rw [preSum_eq, List.take_of_length_le (by simp), hn]
def pSumT : List PyData → Option PyData
  | [.tuple ds] => (intsOf ds).map fun ns => .int ns.sum
  | _ => none
theorem pr_sumT : PrN K (rSumT K) pSumT := by
  intro H B xs ds d Q bd r e hq
  unfold pSumT at e
  split at e
  · rename_i ds
    cases q : intsOf ds with
    | none => rw [q] at e; cases e
    | some ns =>
      rw [q] at e
      cases e
      obtain ⟨x, rfl, rx⟩ := RTs.one (ds := []) r
      obtain ⟨a, ys, rfl, h1, h2⟩ := rx.tup
      rw [intsOf_eq q] at h2
      exact ⟨a, ns, rfl, h2.ints ▸ h1, hq _ H (fun _ _ z => z) (.int _)⟩
  · cases e
theorem ev_sumT {a : Expr} {ma : M Opd} {p pos : Pos} (hc : X.calm = true) (hg : Gl X "sum") (hm : X.mg "sum" = none) (ha : EvO X ec W a ma) (he : starEach [a] X.env = (false, eval a X.env) :: starEach [] X.env) (hpl : (backTo pos (starEach [] X.env)).any (·.1) = false) : EvE X ec W (.Call (.Name "sum" p) [a] [] pos) (mPN pSumT (A1 ma)) :=
  ev_callB (cr_sumT hc) pr_sumT hg hm bb_sum (evA_cons ha evA_nil he) (by decide) (by decide) he hpl

/-! ### sorted, of pairs of ints -/
def lePP (p q : Int × Int) : Bool := if p.1 = q.1 then decide (p.2 ≤ q.2) else decide (p.1 ≤ q.1)
def insP (p : Int × Int) : List (Int × Int) → List (Int × Int)
  | [] => [p]
  | q :: qs => if lePP p q = true then p :: q :: qs else q :: insP p qs
def isortP : List (Int × Int) → List (Int × Int)
  | [] => []
  | p :: ps => insP p (isortP ps)
theorem insP_perm (p : Int × Int) : ∀ ps, (insP p ps).Perm (p :: ps)
  | [] => List.Perm.refl _
  | q :: qs => by
    unfold insP
    split
    · exact List.Perm.refl _
    · exact ((insP_perm p qs).cons q).trans (List.Perm.swap p q qs)
theorem isortP_perm : ∀ ps, (isortP ps).Perm ps
  | [] => List.Perm.refl _
  | p :: ps => (insP_perm p _).trans ((isortP_perm ps).cons p)
theorem lePP_iff {p q : Int × Int} : lePP p q = true ↔ (p.1 < q.1 ∨ (p.1 = q.1 ∧ p.2 ≤ q.2)) := by
  unfold lePP
  split <;> simp <;> omega
theorem insP_sorted {p : Int × Int} : ∀ {ps : List (Int × Int)}, ps.Pairwise (fun a b => lePP a b = true) → (insP p ps).Pairwise (fun a b => lePP a b = true)
  | [], _ => List.pairwise_singleton _ _
  | q :: qs, h => by
    rw [List.pairwise_cons] at h
    unfold insP
    split
    · rename_i hpq
      rw [List.pairwise_cons]
      refine ⟨fun z hz => ?_, List.pairwise_cons.mpr h⟩
      rcases List.mem_cons.mp hz with rfl | hz
      · exact hpq
      · have := h.1 z hz
        rw [lePP_iff] at this hpq ⊢
        omega
    · rename_i hpq
      rw [List.pairwise_cons]
      refine ⟨fun z hz => ?_, insP_sorted h.2⟩
      rcases List.mem_cons.mp ((insP_perm p qs).mem_iff.mp hz) with rfl | hz
      · rw [lePP_iff] at hpq ⊢
        omega
      · exact h.1 z hz
theorem isortP_sorted : ∀ ps, (isortP ps).Pairwise (fun a b => lePP a b = true)
  | [] => List.Pairwise.nil
  | p :: ps => insP_sorted (isortP_sorted ps)
theorem sortedP_uniq : ∀ {l m : List (Int × Int)}, l.Perm m → l.Pairwise (fun a b => lePP a b = true) → m.Pairwise (fun a b => lePP a b = true) → l = m
  | [], m, h, _, _ => (List.Perm.eq_nil h.symm).symm
  | x :: l, [], h, _, _ => absurd h.length_eq (by simp)
  | x :: l, y :: m, h, hl, hm => by
    rw [List.pairwise_cons] at hl hm
    have e : x = y := by
      rcases List.mem_cons.mp (h.mem_iff.mp (List.mem_cons_self (a := x) (l := l))) with e | hx
      · exact e
      · rcases List.mem_cons.mp (h.mem_iff.mpr (List.mem_cons_self (a := y) (l := m))) with e | hy
        · exact e.symm
        · have a := hl.1 y hy
          have b := hm.1 x hx
          rw [lePP_iff] at a b
          refine Prod.ext ?_ ?_ <;> omega
    subst e
    rw [sortedP_uniq h.cons_inv hl.2 hm.2]
def pairD (p : Int × Int) : PyData := .tuple [.int p.1, .int p.2]
def pairsOf : List PyData → Option (List (Int × Int))
  | [] => some []
  | .tuple [.int i, .int j] :: ds => (pairsOf ds).map ((i, j) :: ·)
  | _ => none
theorem pairsOf_eq : ∀ {ds : List PyData} {ps : List (Int × Int)}, pairsOf ds = some ps → ds = ps.map pairD
  | [], _, e => by cases e; rfl
  | d :: ds, ps, e => by
    unfold pairsOf at e
    split at e
    · rename_i h; cases h
    · rename_i i j ds' h
      cases h
      cases q : pairsOf ds with
      | none => rw [q] at e; cases e
      | some qs =>
        rw [q] at e
        cases e
        rw [pairsOf_eq q]; rfl
    · cases e
theorem pairsOf_map : ∀ ps : List (Int × Int), pairsOf (ps.map pairD) = some ps
  | [] => rfl
  | p :: ps => by
    show (pairsOf (ps.map pairD)).map (p :: ·) = _
    rw [pairsOf_map ps]; rfl
def pSortP : List PyData → Option PyData
  | [.list ds] => (pairsOf ds).map fun ps => .list ((isortP ps).map pairD)
  | _ => none
/-- which pair stands at an address -/
def kOf (H : Hp) : V → Int × Int
  | .ref t => match H t with
    | some (.tup [.int i, .int j]) => (i, j)
    | _ => (0, 0)
  | _ => (0, 0)
theorem kOf_rd {p : Int × Int} {v : V} (r : RD K H B (pairD p) v) : kOf H v = p ∧ ∃ t, v = .ref t ∧ H t = some (.tup [.int p.1, .int p.2]) := by
  unfold pairD at r
  cases r with
  | tup h t =>
    have e := RDs.ints (ns := [p.1, p.2]) t
    subst e
    have h1 : H _ = some (.tup [.int p.1, .int p.2]) := h.1
    refine ⟨?_, _, rfl, h1⟩
    simp only [kOf, h1]
theorem kOf_all : ∀ {ps : List (Int × Int)} {xs : List V}, RDs K H B (ps.map pairD) xs → xs.map (kOf H) = ps ∧ ∀ x ∈ xs, (∃ t, x = .ref t ∧ H t = some (.tup [.int (kOf H x).1, .int (kOf H x).2])) ∧ RD K H B (pairD (kOf H x)) x
  | [], _, r => by cases r; exact ⟨rfl, fun x hx => by cases hx⟩
  | p :: ps, _, r => by
    cases r with
    | cons h t =>
      obtain ⟨e1, t1, e2, e3⟩ := kOf_rd h
      obtain ⟨f1, f2⟩ := kOf_all t
      refine ⟨by rw [List.map_cons, e1, f1], fun x hx => ?_⟩
      rcases List.mem_cons.mp hx with rfl | hx
      · rw [e1]; exact ⟨⟨t1, e2, e3⟩, h⟩
      · exact f2 x hx
theorem rds_of : ∀ {ys : List V}, (∀ y ∈ ys, RD K H B (pairD (kOf H y)) y) → RDs K H B ((ys.map (kOf H)).map pairD) ys
  | [], _ => .nil
  | y :: ys, h => .cons (h y List.mem_cons_self) (rds_of fun z hz => h z (List.mem_cons_of_mem _ hz))
theorem nw_sortP : NwN K (rSortedPO K) pSortP := by
  intro H B xs ds d Q bd r e hq
  unfold pSortP at e
  split at e
  · rename_i ds
    cases q : pairsOf ds with
    | none => rw [q] at e; cases e
    | some ps =>
      rw [q] at e
      cases e
      obtain ⟨x, rfl, rx⟩ := RTs.one (ds := []) r
      obtain ⟨a, ys, rfl, h1, h2⟩ := rx.lst
      rw [pairsOf_eq q] at h2
      obtain ⟨e1, e2⟩ := kOf_all h2
      refine ⟨a, ys, kOf H, rfl, h1, fun x hx => (e2 x hx).1, fun zs p hs hst hp => ?_⟩
      have pm : zs.Perm ys := hst.perm
      have srt : (zs.map (kOf H)).Pairwise (fun a b => lePP a b = true) := by
        refine List.pairwise_map.mpr (List.Pairwise.imp (fun {a b} h => ?_) hs)
        have := SrtO.lexB_no.mp h
        rw [lePP_iff]
        omega
      have eq : zs.map (kOf H) = isortP ps := sortedP_uniq ((pm.map _).trans (e1 ▸ (isortP_perm _).symm)) srt (isortP_sorted _)
      refine hq p _ hp (EV.Same.new hp) (.lst upd_same ?_)
      rw [← eq]
      exact rds_of fun y hy => (e2 y (pm.mem_iff.mp hy)).2
  · cases e
theorem evN_sortP {a : Expr} {ma : M Opd} {p pos : Pos} (hg : Gl X "sorted") (hm : X.mg "sorted" = none) (ha : EvO X ec W a ma) (he : starEach [a] X.env = (false, eval a X.env) :: starEach [] X.env) (hpl : (backTo pos (starEach [] X.env)).any (·.1) = false) : EvN X ec W (.Call (.Name "sorted" p) [a] [] pos) (mPN pSortP (A1 ma)) :=
  evN_callB cr_sortedPO nw_sortP hg hm bb_sorted (evA_cons ha evA_nil he) (by decide) (by decide) he hpl

/-! ### while -/
def whileL (c : M Bool) (body : MS) : Nat → MS
  | 0 => fun _ => none
  | n + 1 => c.bind fun x => match x with
    | true => fun fr => (match body fr with
      | some (.ok .nx, fr2) => whileL c body n fr2
      | some (.ok .ct, fr2) => whileL c body n fr2
      | some (.ok .bk, fr2) => some (.ok .nx, fr2)
      | some (.ok (.rt d), fr2) => some (.ok (.rt d), fr2)
      | some (.error x, fr2) => some (.error x, fr2)
      | none => none)
    | false => M.pure .nx
theorem evS_while {c : Expr} {body : List Stmt} {mc : M Bool} {mb : MS} {pos : Pos} (n : Nat) (hp : PassesOwn (model X.prog X.w) X.A X.env X.xe) (hc : EvT X ec W c mc) (hb : EvSs X ec W body mb) : EvS X ec W (.While c body [] pos) (whileL mc mb n) := by
  obtain ⟨tc, p1, s1⟩ := hc.out
  obtain ⟨tb, p3, s3⟩ := hb.out
  refine .mk (ps_while hp p1 p3) fun σ H B fr r fr' D R e hr => ?_
  refine ⟨fun m σ H => ∃ (B : AS) (fr : Fr), RF X.K ec H B fr σ ∧ whileL mc mb m fr = some (r, fr') ∧ Res X.K ec W fr σ B H r fr' (kEnd X.K D), ⟨n, B, fr, R, e, hr⟩, ?_⟩
  rintro m σ2 H2 ⟨B2, fr2, R2, e2, hr2⟩
  cases m with
  | zero => cases e2
  | succ m =>
    refine s1.thn R2 e2 hr2 fun x y fr3 H3 B3 R3 st3 e3 exy hr3 => ?_
    subst exy
    cases y with
    | false =>
      cases e3
      exact iteF (hr3 σ2 H3 B3 .refl R3)
    | true =>
      refine iteT ⟨fun σ' H' => ∃ (B : AS) (fr : Fr), RF X.K ec H' B fr σ' ∧ whileL mc mb m fr = some (r, fr') ∧ Res X.K ec W fr σ' B H' r fr' (kEnd X.K D), fun σ' H' q => ⟨m, Nat.lt_succ_self m, q⟩, ?_⟩
      simp only [] at e3
      split at e3
      · rename_i fr5 qb
        exact s3 σ2 H3 B3 fr3 (.ok .nx) fr5 _ R3 qb fun σ5 H5 B5 st5 R5 => ⟨B5, fr5, R5, e3, hr3.after R3 st5⟩
      · rename_i fr5 qb
        exact s3 σ2 H3 B3 fr3 (.ok .ct) fr5 _ R3 qb fun σ5 H5 B5 st5 R5 => ⟨B5, fr5, R5, e3, hr3.after R3 st5⟩
      · rename_i fr5 qb
        cases e3
        exact s3 σ2 H3 B3 fr3 (.ok .bk) _ _ R3 qb fun σ5 H5 B5 st5 R5 => hr3 σ5 H5 B5 st5 R5
      · rename_i d' fr5 qb
        cases e3
        exact s3 σ2 H3 B3 fr3 (.ok (.rt d')) _ _ R3 qb fun σ5 H5 B5 st5 R5 => hr3 σ5 H5 B5 st5 R5
      · rename_i x' fr5 qb
        cases e3
        exact s3 σ2 H3 B3 fr3 (.error x') _ _ R3 qb hr3
      · cases e3
end EV
end

section
set_option Elab.async false
set_option linter.all false
set_option maxRecDepth 100000
/-! EvQ2: a written dict with texts as keys, looked into at once. -/
namespace EV
open PySem PySem.Spec PyProof.Rows L2
variable {K : PySem.W.Frag} {H H1 H2 H' : Hp} {B B1 B2 B' : AS} {fr fr1 fr2 fr' : Fr} {σ σ1 σ2 σ' : L2.St} {ec : EC} {W : XK} {X : Cx}
/-- a new object that no slot names: it joins B -/
theorem reserve {p : Addr} {o : HO} (R : RF K ec H B fr σ) (hp : H p = none) (nt : NT o) :
    Step fr σ B H fr σ (fun b => B b ∨ b = p) (upd H p o) ∧ RF K ec (upd H p o) (fun b => B b ∨ b = p) fr σ := by
  have s : Same H (upd H p o) := EV.Same.new hp
  have kp : Kp B H (fun b => B b ∨ b = p) (upd H p o) := Kp.join hp s
  refine ⟨⟨fun b o e _ _ => s b o e, fun b h _ => .inl h, fun b h => h.imp id fun (e : b = p) => fq_none (e.symm ▸ hp), fun b h => .inl h, fun b o e nt => ⟨o, s b o e, nt⟩, fun _ d h => ⟨⟨d, h⟩, rfl⟩⟩, ⟨R.len, fun i d h => R.kp_fz kp i d h, fun i l d h => ?_, R.dis, fun b h => ?_, R.tabs.ext s⟩⟩
  · obtain ⟨c, h1, h2, h3⟩ := R.ow i l d h
    exact ⟨c, h1, .inl h2, h3.kp kp fun o e _ => s _ o e⟩
  · rcases h with h | h
    · obtain ⟨o, e, nt⟩ := R.bdom b h
      exact ⟨o, s b o e, nt⟩
    · rw [h]; exact ⟨o, upd_same, nt⟩
theorem tabs_updK {T : List (Addr × Str)} {a : Addr} {o : HO} {kvs : List (Key × V)} (e2 : H a = some (.dK kvs)) (t : LamX.Tabs T H) : LamX.Tabs T (upd H a o) := fun p hp => by
  obtain ⟨ps, h1, h2, h3⟩ := t p hp
  have n : ∀ b u, H b = some u → (∀ xs, u ≠ .dK xs) → b ≠ a := fun b u e n3 z => by
    subst z
    rw [e] at e2; exact n3 _ (Option.some.inj e2)
  refine ⟨ps, by rw [upd_ne (n _ _ h1 (fun _ z => by cases z))]; exact h1, h2, fun pos cv hc => ?_⟩
  obtain ⟨c, e1, e2⟩ := h3 pos cv hc
  refine ⟨c, e1, ?_⟩
  rw [upd_ne (n _ _ e2 (fun _ z => by unfold LamX.CodeO at z; cases z))]
  exact e2
def mAll : List (M PyData) → M (List PyData)
  | [] => M.pure []
  | m :: ms => m.bind fun d => (mAll ms).bind fun ds => M.pure (d :: ds)
def zipK : List Str → List PyData → List (PyData × PyData)
  | s :: ss, d :: ds => (.str s, d) :: zipK ss ds
  | _, _ => []
def zipV : List Str → List V → List (Key × V)
  | s :: ss, v :: vs => (.inr s, v) :: zipV ss vs
  | _, _ => []
theorem zip_rkk : ∀ {ss : List Str} {ds : List PyData} {vs : List V}, RDs K H B ds vs → RKK K H B (zipK ss ds) (zipV ss vs)
  | [], _, _, _ => by unfold zipK zipV; exact .nil
  | _ :: _, _, _, .nil => .nil
  | _ :: _, _, _, .cons h t => .cons (k := .inr _) h (zip_rkk t)
theorem zipV_len : ∀ {ss : List Str} {vs : List V}, (zipV ss vs).length ≤ ss.length
  | [], _ => by unfold zipV; exact Nat.le_refl _
  | _ :: _, [] => Nat.zero_le _
  | _ :: ss, _ :: vs => Nat.succ_le_succ (zipV_len (ss := ss) (vs := vs))
theorem zipV_keys : ∀ {ss : List Str} {vs : List V}, ∀ kv ∈ zipV ss vs, ∃ s ∈ ss, kv.1 = Sum.inr s
  | [], _, kv, h => by unfold zipV at h; cases h
  | _ :: _, [], kv, h => by cases h
  | s :: ss, v :: vs, kv, h => by
    rcases List.mem_cons.mp h with rfl | h
    · exact ⟨s, List.mem_cons_self, rfl⟩
    · obtain ⟨t, h1, h2⟩ := zipV_keys kv h
      exact ⟨t, List.mem_cons_of_mem _ h1, h2⟩
theorem putK_new {kvs : List (Key × V)} {k : Key} {v : V} (h : ∀ kv ∈ kvs, kv.1 ≠ k) : putK kvs k v = kvs ++ [(k, v)] := by
  unfold putK
  rw [if_neg]
  intro z
  obtain ⟨kv, h1, h2⟩ := List.any_eq_true.mp z
  exact h kv h1 (of_decide_eq_true h2)
theorem merge_zip : ∀ {ss : List Str} {vs : List V} {acc : List (Key × V)}, ss.Nodup → (∀ kv ∈ acc, ∀ s ∈ ss, kv.1 ≠ Sum.inr s) → mergeK acc (zipV ss vs) = acc ++ zipV ss vs
  | [], _, acc, _, _ => by unfold zipV; exact (List.append_nil _).symm
  | _ :: _, [], acc, _, _ => (List.append_nil _).symm
  | s :: ss, v :: vs, acc, hn, ha => by
    rw [List.nodup_cons] at hn
    show mergeK (putK acc (Sum.inr s) v) (zipV ss vs) = acc ++ ((Sum.inr s, v) :: zipV ss vs)
    rw [putK_new fun kv h => ha kv h s List.mem_cons_self, merge_zip hn.2]
    · simp
    · intro kv h t ht
      rcases List.mem_append.mp h with h | h
      · exact ha kv h t (List.mem_cons_of_mem _ ht)
      · rw [List.mem_singleton] at h
        subst h
        intro z
        have : s = t := Sum.inr.inj z
        exact hn.1 (this ▸ ht)
theorem zipV_map : ∀ {ss : List Str} {vs : List V}, (zipV ss vs).map (fun kv => (kV kv.1, kv.2)) = (ss.zip vs).map fun p => (V.str p.1, p.2)
  | [], _ => by unfold zipV; rfl
  | _ :: _, [] => rfl
  | s :: ss, v :: vs => by
    show (kV (Sum.inr s), v) :: _ = (V.str s, v) :: _
    rw [zipV_map (ss := ss) (vs := vs)]
    rfl
/-- the entries of a display -/
inductive EvDs (X : Cx) (ec : EC) (W : XK) : List (Option Expr) → List Expr → List Str → List (M PyData) → Prop
  | nil : EvDs X ec W [] [] [] []
  | cons {s : Str} {j : _} {p : Pos} {v : Expr} {m : M PyData} {ks : List (Option Expr)} {vs : List Expr} {ss : List Str} {ms : List (M PyData)} : EvE X ec W v m → EvDs X ec W ks vs ss ms → EvDs X ec W (some (.Constant (.str s) j p) :: ks) (v :: vs) (s :: ss) (m :: ms)
theorem EvDs.len : ∀ {ks : List (Option Expr)} {vs : List Expr} {ss : List Str} {ms : List (M PyData)}, EvDs X ec W ks vs ss ms → ks.length = ss.length ∧ ks.length = vs.length ∧ ks.all (·.isSome) = true
  | _, _, _, _, .nil => ⟨rfl, rfl, rfl⟩
  | _, _, _, _, .cons _ t => by
    obtain ⟨h1, h2, h3⟩ := t.len
    exact ⟨by simp [h1], by simp [h2], by simpa using h3⟩
theorem EvDs.out {pos : Pos} : ∀ {ks : List (Option Expr)} {vs : List Expr} {ss : List Str} {ms : List (M PyData)}, EvDs X ec W ks vs ss ms → ∃ trs, PPs X pos ks vs trs ∧
    ∀ (σ : L2.St) (H : Hp) (B : AS) (fr : Fr) (r : Except Xn (List PyData)) (fr' : Fr) (Q : List (V × V) → Hp → Prop), RF X.K ec H B fr σ → mAll ms fr = some (r, fr') →
      Res X.K ec W fr σ B H r fr' (fun ds σ' H' B' => σ' = σ → ∀ us, RDs X.K H' B' ds us → Q ((ss.zip us).map fun p => (V.str p.1, p.2)) H') → tPairs trs σ H Q
  | _, _, _, _, .nil => ⟨[], pps_nil, fun σ H B fr r fr' Q R e h => by
    cases e
    exact h σ H B .refl R rfl [] .nil⟩
  | _, _, _, _, @EvDs.cons _ _ _ s j p v m ks vs ss ms hv t => by
    obtain ⟨trs, h1, h2⟩ := t.out
    obtain ⟨tv, p1, s1⟩ := hv.out
    refine ⟨(tC (.str s), tv) :: trs, pps_cons pe_str p1 h1, fun σ H B fr r fr' Q R e h => ?_⟩
    show tv σ H fun y H2 => tPairs trs σ H2 fun ps H3 => Q ((V.str s, y) :: ps) H3
    refine s1.thn R e h fun d y fr1 H1 B1 R1 st1 e1 rd hr1 => ?_
    rcases M.bind_some e1 with ⟨ds, fr2, e2, e3⟩ | ⟨x, e2, rfl⟩
    · cases e3
      refine h2 σ H1 B1 fr1 (.ok ds) fr' _ R1 e2 fun σ' H' B' st R' es us rds => ?_
      subst es
      exact hr1 σ' H' B' st R' rfl (y :: us) (.cons (rd.kp (st.kp R1)) rds)
    · exact h2 σ H1 B1 fr1 (.error x) fr' _ R1 e2 hr1
def mDispK (ss : List Str) (ms : List (M PyData)) : M PyData := (mAll ms).bind fun ds => fun fr => if ss ≠ [] ∧ ss.length ≤ 15 ∧ ss.Nodup ∧ ds.length = ss.length then some (.ok (.dict (zipK ss ds)), fr) else none
theorem zipK_ne {ss : List Str} {ds : List PyData} (h1 : ss ≠ []) (h2 : ds.length = ss.length) : zipK ss ds ≠ [] := by
  cases ss with
  | nil => exact absurd rfl h1
  | cons s ss =>
    cases ds with
    | nil => simp at h2
    | cons d ds => intro z; cases z
theorem ev_dispK {ks : List (Option Expr)} {vs : List Expr} {ss : List Str} {ms : List (M PyData)} {pos : Pos} (h : EvDs X ec W ks vs ss ms) (h0 : ks ≠ []) (h15 : ks.length ≤ 15) : EvN X ec W (.Dict ks vs pos) (mDispK ss ms) := by
  obtain ⟨trs, p1, s1⟩ := h.out (pos := pos)
  obtain ⟨l1, l2, l3⟩ := h.len
  refine .mk (pe_disp p1 l3 l2 h0 h15) ?_
  intro σ H B fr r fr' Q R e hr p hp
  obtain ⟨j1, j2⟩ := reserve (o := .dK []) R hp nt_dK
  have nB : ¬ B p := fun z => R.bd z hp
  have nw : ¬ Wr fr σ p := fun w => nB (R.wrB w)
  rcases M.bind_some e with ⟨ds, fr1, e1, e2⟩ | ⟨x, e1, rfl⟩
  · refine s1 σ _ _ fr (.ok ds) fr1 _ j2 e1 fun σ' H1 B1 st1 R1 es us rds => ?_
    subst es
    split at e2
    · rename_i hz
      cases e2
      have hp1 : H1 p = some (.dK []) := st1.keep p _ upd_same nt_dK nw
      have hB1 : B1 p := st1.bk p (.inr rfl) nw
      have nw1 : ¬ Wr fr' σ' p := fun w => (st1.wn p w).elim nw fun z => z _ upd_same nt_dK
      refine ⟨hp1, zipV ss us, zipV_map.symm, Nat.le_trans zipV_len hz.2.1, ?_⟩
      rw [merge_zip hz.2.2.1 (fun kv hk => by cases hk), List.nil_append]
      have kp2 : Kp B1 H1 B1 (upd H1 p (.dK (zipV ss us))) := Kp.at hB1
      have R3 : RF X.K ec (upd H1 p (.dK (zipV ss us))) B1 fr' σ' := by
        refine ⟨R1.len, fun i d h => R1.kp_fz kp2 i d h, fun i l d h => ?_, R1.dis, fun b hb => ?_, tabs_updK hp1 R1.tabs⟩
        · obtain ⟨c, h1, h2, h3⟩ := R1.ow i l d h
          have nc : c ≠ p := fun e => nw1 ⟨i, l, d, h, e ▸ h1⟩
          exact ⟨c, h1, h2, h3.kp kp2 fun u e _ => by rw [upd_ne nc]; exact e⟩
        · by_cases e : b = p
          · subst e; exact ⟨_, upd_same, nt_dK⟩
          · obtain ⟨u, e1, nt⟩ := R1.bdom b hb
            exact ⟨u, by rw [upd_ne e]; exact e1, nt⟩
      have all : Step fr σ' B H fr' σ' B1 (upd H1 p (.dK (zipV ss us))) := by
        have s0 := j1.trans R st1
        refine ⟨fun c o h nt nw => ?_, s0.bk, s0.bn, s0.wn, fun c o h nt => ?_, s0.ln⟩
        · have : c ≠ p := fun z => by subst z; rw [hp] at h; cases h
          rw [upd_ne this]; exact s0.keep c o h nt nw
        · by_cases z : c = p
          · subst z; exact ⟨_, upd_same, nt_dK⟩
          · rw [upd_ne z]; exact s0.dm c o h nt
      exact hr σ' _ B1 all R3 rfl _ ⟨p, rfl, ⟨hB1, .dK upd_same ((zip_rkk rds).kp kp2) (zipK_ne hz.1 hz.2.2.2)⟩, nw1, fq_none hp⟩
    · cases e2
  · exact s1 σ _ _ fr (.error x) fr' _ j2 e1 (hr.after R j1)
/-! ### looked into by a text -/
def isS (s : Str) : PyData → Bool
  | .str t => decide (t = s)
  | _ => false
def dLookS (ds : List (PyData × PyData)) (s : Str) : Option PyData := (ds.find? fun kv => isS s kv.1).map (·.2)
theorem lookS_k {s : Str} {d : PyData} : ∀ {ds : List (PyData × PyData)} {kvs : List (Key × V)}, RKK K H B ds kvs → dLookS ds s = some d → ∃ v, valV kvs (Sum.inr s) = some v ∧ RD K H B d v
  | _, _, .nil, h => by cases h
  | _, _, @RKK.cons _ _ _ k d' v' ds kvs r t, h => by
    unfold dLookS at h
    unfold valV
    rw [List.find?_cons] at h ⊢
    cases k with
    | inl i =>
      have e1 : isS s (keyK (Sum.inl i)) = false := rfl
      rw [e1] at h
      rw [decide_eq_false (fun z : (Sum.inl i : Key) = Sum.inr s => by cases z)]
      exact lookS_k t h
    | inr u =>
      by_cases e : u = s
      · subst e
        have e1 : isS u (keyK (Sum.inr u)) = true := decide_eq_true rfl
        rw [e1] at h
        rw [decide_eq_true rfl]
        cases h
        exact ⟨v', rfl, r⟩
      · have e1 : isS s (keyK (Sum.inr u)) = false := decide_eq_false e
        rw [e1] at h
        rw [decide_eq_false (fun z => e (Sum.inr.inj z))]
        exact lookS_k t h
theorem lookS_t {s : Str} : ∀ {ds : List (PyData × PyData)} {kvs : List (List Key × V)}, RKT K H B ds kvs → dLookS ds s = none
  | _, _, .nil => rfl
  | _, _, .cons _ t => by
    unfold dLookS
    rw [List.find?_cons]
    exact lookS_t t
def mIxS (md : M PyData) (mk : M Opd) : M PyData := md.bind fun d => mk.bind fun k => fun fr => match d, rsv fr k with
  | .dict ds, some (.str s) => (match dLookS ds s with
    | some x => some (.ok x, fr)
    | none => none)
  | _, _ => none
theorem ev_ixS {o i : Expr} {md : M PyData} {mk : M Opd} {pos : Pos} (hr : Room 0 X.A) (ho : EvE X ec W o md) (hi : EvO X ec W i mk) (hs : NoSl i) : EvE X ec W (.Subscript o i pos) (mIxS md mk) := by
  obtain ⟨t1, p1, s1⟩ := ho.out
  obtain ⟨t2, p2, s2⟩ := hi.out
  refine .mk (pe_dget (by have := hr.un; omega) p1 p2 hs) ?_
  intro σ H B fr r fr' Q R e hr
  refine s1.thn R e hr fun x v fr1 H1 B1 R1 st1 e1 r1 hr1 => ?_
  refine s2.thn R1 e1 hr1 fun y u fr2 H2 B2 R2 st2 e2 r2 hr2 => ?_
  split at e2
  · rename_i ds s qy
    split at e2
    · rename_i d ql
      cases e2
      have r1' := r1.kp (st2.kp R1)
      have eu := EV.RT.str (rsv_rt R2 r2 qy)
      subst eu
      cases r1' with
      | dT e _ t => rw [lookS_t t] at ql; cases ql
      | @dK a _ kvs e _ t ne =>
        obtain ⟨v', e3, rd⟩ := lookS_k t ql
        exact ⟨a, v', rfl, e3 ▸ (DGet.k (k := Sum.inr s) e), hr2 σ H2 B2 .refl R2 rfl _ rd⟩
    · cases e2
  · cases e2
end EV
end

section
set_option Elab.async false
set_option linter.all false
set_option maxRecDepth 100000
set_option maxHeartbeats 2000000
/-! EvMk: a def that marks all lists of what it is handed, deep down, and tells whether they were unmarked. -/
namespace EV
open PySem PySem.Spec PyProof.Rows L2
/-! ### not in -/
section
variable {K : PySem.W.Frag} {X : Cx} {ec : EC} {W : XK} {a b : Expr} {ma mb : M Opd} {pos : Pos}
def pNotIn : PyData → PyData → Option PyData
  | d, .list ds => if SeqAt.shaped d && SeqAt.shaped (.list ds) then some (.bool (!ds.any fun z => PyData.eqv z d)) else none
  | _, _ => none
theorem pr_notIn : Pr2 K (rNotInD K) pNotIn := by
  intro H B x y dx dy d Q bd rx ry e hq
  unfold pNotIn at e
  split at e
  · rename_i ds
    split at e
    · rename_i q
      cases e
      have q' := Bool.and_eq_true_iff.mp q
      exact ⟨dx, ds, rx.dp (SeqAt.canLay_of_shaped q'.1), ry.dp (SeqAt.canLay_of_shaped q'.2), q'.1, q'.2, hq _ H (fun _ _ z => z) (.bl _)⟩
    · cases e
  · cases e
end
/-! ### what can be marked: L its lists, no two of them one -/
mutual
inductive MK (H : Hp) : List Addr → PyData → V → Prop
  | non : MK H [] .none .non
  | bl (b : Bool) : MK H [] (.bool b) (.bl b)
  | int (i : Int) : MK H [] (.int i) (.int i)
  | str (x : Str) : MK H [] (.str x) (.str x)
  | tup {t : Addr} {xs : List V} {ds : List PyData} {L : List Addr} : H t = some (.tup xs) → MKs H L ds xs → MK H L (.tuple ds) (.ref t)
  | lst {a : Addr} {xs : List V} {ds : List PyData} {L : List Addr} : H a = some (.lst xs) → MKs H L ds xs → a ∉ L → MK H (a :: L) (.list ds) (.ref a)
inductive MKs (H : Hp) : List Addr → List PyData → List V → Prop
  | nil : MKs H [] [] []
  | cons {L1 L2 : List Addr} {d : PyData} {v : V} {ds : List PyData} {vs : List V} : MK H L1 d v → MKs H L2 ds vs → (∀ a ∈ L1, a ∉ L2) → MKs H (L1 ++ L2) (d :: ds) (v :: vs)
end
variable {K : PySem.W.Frag} {H H1 H2 H' : Hp} {ec : EC}
mutual
theorem MK.lists : ∀ {L : List Addr} {d : PyData} {v : V}, MK H L d v → ∀ a ∈ L, ∃ xs, H a = some (.lst xs)
  | _, _, _, .non, _, h => by cases h
  | _, _, _, .bl _, _, h => by cases h
  | _, _, _, .int _, _, h => by cases h
  | _, _, _, .str _, _, h => by cases h
  | _, _, _, .tup _ t, a, h => MKs.lists t a h
  | _, _, _, .lst e t _, a, h => by
    rcases List.mem_cons.mp h with rfl | h
    · exact ⟨_, e⟩
    · exact MKs.lists t a h
theorem MKs.lists : ∀ {L : List Addr} {d : List PyData} {v : List V}, MKs H L d v → ∀ a ∈ L, ∃ xs, H a = some (.lst xs)
  | _, _, _, .nil, _, h => by cases h
  | _, _, _, .cons h1 h2 _, a, h => by
    rcases List.mem_append.mp h with h | h
    · exact MK.lists h1 a h
    · exact MKs.lists h2 a h
end
mutual
theorem MK.kp {S : List Addr} (k : ∀ b o, H b = some o → NT o → b ∉ S → H' b = some o) (hS : ∀ a ∈ S, ∃ xs, H a = some (.lst xs)) : ∀ {L : List Addr} {d : PyData} {v : V}, (∀ a ∈ L, a ∉ S) → MK H L d v → MK H' L d v
  | _, _, _, _, .non => .non
  | _, _, _, _, .bl b => .bl b
  | _, _, _, _, .int i => .int i
  | _, _, _, _, .str x => .str x
  | _, _, _, n, @MK.tup _ t xs _ _ e s => .tup (k _ _ e nt_tup fun z => by
      obtain ⟨ys, e2⟩ := hS t z
      rw [e] at e2; cases e2) (MKs.kp k hS n s)
  | _, _, _, n, .lst e s na => .lst (k _ _ e nt_lst (n _ List.mem_cons_self)) (MKs.kp k hS (fun a h => n a (List.mem_cons_of_mem _ h)) s) na
theorem MKs.kp {S : List Addr} (k : ∀ b o, H b = some o → NT o → b ∉ S → H' b = some o) (hS : ∀ a ∈ S, ∃ xs, H a = some (.lst xs)) : ∀ {L : List Addr} {d : List PyData} {v : List V}, (∀ a ∈ L, a ∉ S) → MKs H L d v → MKs H' L d v
  | _, _, _, _, .nil => .nil
  | _, _, _, n, .cons h1 h2 dj => .cons (MK.kp k hS (fun a h => n a (List.mem_append_left _ h)) h1) (MKs.kp k hS (fun a h => n a (List.mem_append_right _ h)) h2) dj
end
mutual
theorem MK.rd : ∀ {L : List Addr} {d : PyData} {v : V}, MK H L d v → RD K H (fun _ => False) d v
  | _, _, _, .non => .non
  | _, _, _, .bl b => .bl b
  | _, _, _, .int i => .int i
  | _, _, _, .str x => .str x
  | _, _, _, .tup e s => .tup ⟨e, fun f => f⟩ (MKs.rd s)
  | _, _, _, .lst e s _ => .lst (.inl ⟨.inl e, fun f => f⟩) (MKs.rd s)
theorem MKs.rd : ∀ {L : List Addr} {d : List PyData} {v : List V}, MKs H L d v → RDs K H (fun _ => False) d v
  | _, _, _, .nil => .nil
  | _, _, _, .cons h1 h2 _ => .cons (MK.rd h1) (MKs.rd h2)
end
/-- unmarked, all lists short enough; m2 the test of the mark -/
def Unm (m2 : M Bool) (d : PyData) : Prop := m2 [.fz d, .no, .no] = some (.ok false, [.fz d, .no, .no])
mutual
def OkM (m2 : M Bool) : PyData → Prop
  | .list ds => Unm m2 (.list ds) ∧ ds.length ≤ 1000 ∧ OkMs m2 ds
  | .tuple ds => ds.length ≤ 1000 ∧ OkMs m2 ds
  | .dict _ => False
  | _ => True
def OkMs (m2 : M Bool) : List PyData → Prop
  | [] => True
  | d :: ds => OkM m2 d ∧ OkMs m2 ds
end
def spK (ec : EC) (m2 : M Bool) (n : Nat) : Sp := fun vs H Q E => ∃ (d : PyData) (v : V) (L : List Addr), vs = [v] ∧ LamX.Tabs ec.tb H ∧ MK H L d v ∧ OkM m2 d ∧ d.depth < n ∧
  ∀ H', (∀ b o, H b = some o → NT o → b ∉ L → H' b = some o) → LamX.Tabs ec.tb H' → Q (.bl true) H'
theorem tabs_lst {T : List (Addr × Str)} {a : Addr} {o : HO} {xs : List V} (e : H a = some (.lst xs)) (t : LamX.Tabs T H) : LamX.Tabs T (upd H a o) :=
  t.mono fun b u hb n => by
    rw [upd_ne]
    · exact hb
    · intro z
      subst z
      rw [e] at hb
      exact n _ (Option.some.inj hb).symm
/-- the marks of the items, one by one -/
def MkP (ec : EC) (m2 : M Bool) (n : Nat) (H0 : Hp) (L : List Addr) (D : Addr) (ds : List PyData) (xs : List V) (i : Nat) (H : Hp) : Prop :=
  ∃ S R : List Addr, L = S ++ R ∧ MKs H0 R (ds.drop i) (xs.drop i) ∧ (∀ a ∈ R, a ∉ S) ∧ (∀ a ∈ S, ∃ ys, H0 a = some (.lst ys)) ∧ (∀ b o, H0 b = some o → NT o → b ∉ S → H b = some o) ∧ LamX.Tabs ec.tb H ∧ H D = some (.lst (List.replicate i (.bl true)))
def tMkI (ec : EC) (m2 : M Bool) (n : Nat) (E : XK) : TE := tCall (spK ec m2 n) [] E (tCons (tVar 2) tNil)
theorem OkMs.get {m2 : M Bool} : ∀ {ds : List PyData} {d : PyData}, OkMs m2 ds → d ∈ ds → OkM m2 d
  | _ :: _, _, h, hd => by
    rcases List.mem_cons.mp hd with rfl | hd
    · exact h.1
    · exact OkMs.get h.2 hd
theorem depth_mem : ∀ {ds : List PyData} {d : PyData}, d ∈ ds → d.depth ≤ PyData.depthAll ds
  | x :: ds, d, hd => by
    show d.depth ≤ max x.depth (PyData.depthAll ds)
    rcases List.mem_cons.mp hd with rfl | hd
    · omega
    · have := depth_mem hd; omega
theorem MKs.length : ∀ {L : List Addr} {ds : List PyData} {xs : List V}, MKs H L ds xs → ds.length = xs.length
  | _, _, _, .nil => rfl
  | _, _, _, .cons _ t _ => by simp only [List.length_cons, MKs.length t]
theorem mk_start {m2 : M Bool} {n : Nat} {L : List Addr} {D : Addr} {ds : List PyData} {xs : List V} (tb : LamX.Tabs ec.tb H) (hk : MKs H L ds xs) (hD : H D = none) : MkP ec m2 n H L D ds xs 0 (upd H D (.lst [])) :=
  ⟨[], L, rfl, hk, (fun _ _ h => by cases h), (fun _ h => by cases h), (fun b o e _ _ => by rw [upd_ne (ne_of_none e hD)]; exact e), tb.ext (EV.Same.new hD), upd_same⟩
theorem mk_turn {m2 : M Bool} {n : Nat} {E : XK} {L : List Addr} {D : Addr} {ds : List PyData} {xs : List V} {i : Nat} {x : V} {σ : L2.St} {H0 Hi : Hp} (hl : xs.length ≤ 1000) (hD : H0 D = none) (hk : MKs H0 L ds xs) (ho : OkMs m2 ds) (hd : PyData.depthAll ds < n) (hx : xs[i]? = some x) (p : MkP ec m2 n H0 L D ds xs i Hi)
    (hσ : σ[2]? = some (some x)) : tMkI ec m2 n E σ Hi fun y H4 => ∃ acc, H4 D = some (.lst acc) ∧ acc.length < sizeLine ∧ MkP ec m2 n H0 L D ds xs (i + 1) (upd H4 D (.lst (acc ++ [y]))) := by
  obtain ⟨S, R, rfl, hR, dj, hS, kp, tb, eD⟩ := p
  have hi : i < xs.length := (List.getElem?_eq_some_iff.mp hx).1
  have hi2 : i < ds.length := by rw [hk.length]; exact hi
  have ex : xs.drop i = x :: xs.drop (i + 1) := by
    rw [List.drop_eq_getElem_cons hi]
    rw [List.getElem?_eq_getElem hi] at hx
    cases hx; rfl
  have ed : ds.drop i = ds[i] :: ds.drop (i + 1) := List.drop_eq_getElem_cons hi2
  rw [ex, ed] at hR
  have hm : ds[i] ∈ ds := List.getElem_mem hi2
  generalize ds[i] = di at hR hm
  cases hR with
  | @cons L1 L2 _ _ _ _ h1 h2 d12 =>
    have nD : ∀ a ∈ S ++ (L1 ++ L2), a ≠ D := fun a ha z => by
      subst z
      obtain ⟨ys, e⟩ := hk.lists a ha
      rw [hD] at e; cases e
    refine ⟨x, hσ, di, x, L1, rfl, tb, h1.kp kp hS (fun a ha => dj a (List.mem_append_left _ ha)), ho.get hm, Nat.lt_of_le_of_lt (depth_mem hm) hd, fun H4 k4 tb4 => ?_⟩
    have e4 : H4 D = some (.lst (List.replicate i (.bl true))) := k4 D _ eD nt_lst fun z => nD D (List.mem_append_right _ (List.mem_append_left _ z)) rfl
    refine ⟨_, e4, by rw [List.length_replicate, sizeLine_eq]; omega, S ++ L1, L2, by rw [List.append_assoc], h2, fun a ha hz => ?_, fun a ha => ?_, fun b o e nt nb => ?_, tabs_lst e4 tb4, ?_⟩
    · rcases List.mem_append.mp hz with hz | hz
      · exact dj a (List.mem_append_right _ ha) hz
      · exact d12 a hz ha
    · rcases List.mem_append.mp ha with ha | ha
      · exact hS a ha
      · exact h1.lists a ha
    · rw [upd_ne (ne_of_none e hD)]
      refine k4 b o (kp b o e nt fun z => nb (List.mem_append_left _ z)) nt fun z => nb (List.mem_append_right _ z)
    · rw [upd_same, ← List.replicate_succ']
/-- the reading of the body: slots told, kept, item -/
def tMk (K : PySem.W.Frag) (ec : EC) (W : XK) (m2 : M Bool) (n : Nat) (E : XK) : TS :=
  tSeq (tIfS (tOf K ec W rlT (asB (mIsi "list" (mSlot 0)))) (tSeq (tIfS (tOf K ec W rlT m2) (tRet (tC (.bl false))) tNext) (tSeq (tAsg (tLc (iList K (tVar 0)) (gName 2) tYes (tMkI ec m2 n E) [2]) (gName 1))
      (tSeq (tDrop (tBM K "list" rAppend (tVar 0) (tCons (tC (.str "marked")) tNil))) (tRet (tOp (rNotInD K) (tC (.bl false)) (tVar 1)))))) tNext)
    (tSeq (tIfS (tOf K ec W rlT (asB (mIsi "tuple" (mSlot 0)))) (tRet (tOp (rNotInD K) (tC (.bl false)) (tLc (iTup K (tVar 0)) (gName 2) tYes (tMkI ec m2 n E) [2]))) tNext) (tRet (tC (.bl true))))
theorem trues_dp (n : Nat) : DpAll K H (List.replicate n (.bl true)) (List.replicate n (.bool true)) := by
  induction n with
  | zero => exact .nil
  | succ n ih => exact .cons (.bl true) ih
theorem trues_lay : ∀ n, PyData.canLayAll0 (List.replicate n (.bool true)) = true
  | 0 => rfl
  | n + 1 => by
    show (PyData.canLay0 (.bool true) && PyData.canLayAll0 (List.replicate n (.bool true))) = true
    rw [trues_lay n]; rfl
theorem trues_depth : ∀ n, PyData.depthAll (List.replicate n (.bool true)) = 0
  | 0 => rfl
  | n + 1 => by
    show max 0 (PyData.depthAll (List.replicate n (.bool true))) = 0
    rw [trues_depth n]; rfl
theorem trues_any : ∀ n, ((List.replicate n (PyData.bool true)).any fun z => PyData.eqv z (.bool false)) = false
  | 0 => rfl
  | n + 1 => by
    rw [List.replicate_succ, List.any_cons, trues_any n]
    rfl
theorem trues_not {n : Nat} {D : Addr} {Q : VK} (e : H D = some (.lst (List.replicate n (.bl true)))) (q : Q (.bl true) H) : rNotInD K (.bl false) (.ref D) H Q := by
  refine ⟨.bool false, List.replicate n (.bool true), .bl false, .lst (.inl (.inl e)) (trues_dp n), rfl, ?_, ?_⟩
  · unfold SeqAt.shaped
    have h1 : PyData.canLay0 (.list (List.replicate n (.bool true))) = true := trues_lay n
    have h2 : PyData.depth (.list (List.replicate n (.bool true))) = 1 := by
      show PyData.depthAll (List.replicate n (.bool true)) + 1 = 1
      rw [trues_depth n]
    rw [h1, h2]
    rfl
  · rw [trues_any n]
    exact q
theorem tMk_ok {W : XK} {m2 : M Bool} {n : Nat} {E : XK} {L : List Addr} {d : PyData} {v : V} {D : Ends} (tb : LamX.Tabs ec.tb H) (hk : MK H L d v) (ho : OkM m2 d) (hd : d.depth < n + 1)
    (h : ∀ H', (∀ b o, H b = some o → NT o → b ∉ L → H' b = some o) → LamX.Tabs ec.tb H' → D.rt (.bl true) H') : tMk K ec W m2 n E D [some v, none, none] H := by
  have R : RF K ec H (fun _ => False) [.fz d, .no, .no] [some v, none, none] := by
    have := start_rf (K := K) (ec := ec) (B := fun _ => False) (ds := [d]) (vs := [v]) tb (fun a f => f.elim) (.cons (hk.rd) .nil) 2
    exact this
  have c1 : ∀ Q : Bool → Hp → Prop, (∀ H', Sm ec.tb H H' → Q (isT "list" d) H') → tOf K ec W rlT (asB (mIsi "list" (mSlot 0))) [some v, none, none] H Q := fun Q q => by
    refine ⟨_, _, .ok (isT "list" d), [.fz d, .no, .no], R, ?_, ?_⟩
    · cases d <;> rfl
    · intro σ' H' B' st R' es b eb
      subst eb
      exact q H' ⟨fun b o e nt => st.keep b o e nt fun w => (R.wrB w).elim, R'.tabs⟩
  have c3 : ∀ (H : Hp) (R : RF K ec H (fun _ => False) [.fz d, .no, .no] [some v, none, none]) (Q : Bool → Hp → Prop), (∀ H', Sm ec.tb H H' → Q (isT "tuple" d) H') → tOf K ec W rlT (asB (mIsi "tuple" (mSlot 0))) [some v, none, none] H Q := fun H R Q q => by
    refine ⟨_, _, .ok (isT "tuple" d), [.fz d, .no, .no], R, ?_, ?_⟩
    · cases d <;> rfl
    · intro σ' H' B' st R' es b eb
      subst eb
      exact q H' ⟨fun b o e nt => st.keep b o e nt fun w => (R.wrB w).elim, R'.tabs⟩
  refine c1 _ fun H1 sm1 => ?_
  have hk1 : MK H1 L d v := hk.kp (S := []) (fun b o e nt _ => sm1.keep b o e nt) (fun _ h => by cases h) (fun _ _ h => by cases h)
  have R1 : RF K ec H1 (fun _ => False) [.fz d, .no, .no] [some v, none, none] := R.exs sm1
  have h1 : ∀ H', (∀ b o, H1 b = some o → NT o → b ∉ L → H' b = some o) → LamX.Tabs ec.tb H' → D.rt (.bl true) H' := fun H' k t => h H' (fun b o e nt nb => k b o (sm1.keep b o e nt) nt nb) t
  -- no list, no tuple
  have atom : isT "list" d = false → isT "tuple" d = false → (if isT "list" d = true then (tSeq (tIfS (tOf K ec W rlT m2) (tRet (tC (.bl false))) tNext) (tSeq (tAsg (tLc (iList K (tVar 0)) (gName 2) tYes (tMkI ec m2 n E) [2]) (gName 1))
      (tSeq (tDrop (tBM K "list" rAppend (tVar 0) (tCons (tC (.str "marked")) tNil))) (tRet (tOp (rNotInD K) (tC (.bl false)) (tVar 1)))))) { D with nx := fun σ H => (tSeq (tIfS (tOf K ec W rlT (asB (mIsi "tuple" (mSlot 0)))) (tRet (tOp (rNotInD K) (tC (.bl false)) (tLc (iTup K (tVar 0)) (gName 2) tYes (tMkI ec m2 n E) [2]))) tNext) (tRet (tC (.bl true)))) D σ H } [some v, none, none] H1
      else tNext { D with nx := fun σ H => (tSeq (tIfS (tOf K ec W rlT (asB (mIsi "tuple" (mSlot 0)))) (tRet (tOp (rNotInD K) (tC (.bl false)) (tLc (iTup K (tVar 0)) (gName 2) tYes (tMkI ec m2 n E) [2]))) tNext) (tRet (tC (.bl true)))) D σ H } [some v, none, none] H1) := fun e1 e2 => by
    rw [e1]
    refine iteF ?_
    refine c3 H1 R1 _ fun H2 sm2 => ?_
    rw [e2]
    refine iteF ?_
    exact h1 H2 (fun b o e nt _ => sm2.keep b o e nt) sm2.tabs
  cases hk1 with
  | non => exact atom rfl rfl
  | bl b => exact atom (by cases b <;> rfl) (by cases b <;> rfl)
  | int i => exact atom rfl rfl
  | str x => exact atom rfl rfl
  | @tup t xs ds L et ts =>
    refine iteF ?_
    refine c3 H1 R1 _ fun H2 sm2 => ?_
    refine iteT ?_
    have et2 : H2 t = some (.tup xs) := sm2.keep _ _ et nt_tup
    have ts2 : MKs H2 L ds xs := ts.kp (S := []) (fun b o e nt _ => sm2.keep b o e nt) (fun _ h => by cases h) (fun _ _ h => by cases h)
    have hdd : PyData.depthAll ds < n := by
      have : PyData.depthAll ds + 1 < n + 1 := hd
      omega
    have hlen : xs.length ≤ 1000 := by rw [← ts.length]; exact ho.1
    refine ⟨.ref t, rfl, t, rfl, ⟨xs, .inl (.inl et2)⟩, fun Dn hDn => ?_⟩
    refine lc_tup (MkP ec m2 n H2 L Dn ds xs) (mk_start sm2.tabs ts2 hDn) (fun i Hi _ p => ?_) (fun i x Hi hx p => ⟨rfl, (mk_turn hlen hDn ts2 ho.2 hdd hx p rfl : tMkI ec m2 n E (List.set (wipe [some (V.ref t), none, none] [2]) 2 (some x)) Hi fun y H4 => ∃ acc, H4 Dn = some (.lst acc) ∧ acc.length < sizeLine ∧ MkP ec m2 n H2 L Dn ds xs (i + 1) (upd H4 Dn (.lst (acc ++ [y]))))⟩) fun Hn p => ?_
    · obtain ⟨S, R', _, _, _, hS, kp, _, _⟩ := p
      exact .inl (.inl (kp t _ et2 nt_tup fun z => by
        obtain ⟨ys, e⟩ := hS t z
        rw [et2] at e; cases e))
    · obtain ⟨S, R', hL, _, _, _, kp, tbn, eD⟩ := p
      refine trues_not eD (h1 Hn (fun b o e nt nb => kp b o (sm2.keep b o e nt) nt fun z => nb (by rw [hL]; exact List.mem_append_left _ z)) tbn)
  | @lst a xs ds L' ea ts na =>
    refine iteT ?_
    have hu : Unm m2 (.list ds) := ho.1
    refine ⟨_, _, .ok false, [.fz (.list ds), .no, .no], R1, hu, ?_⟩
    intro σ2 H2 B2 st2 R2 es b eb
    subst es eb
    refine iteF ?_
    have sm2 : Sm ec.tb H1 H2 := ⟨fun b o e nt => st2.keep b o e nt fun w => (R1.wrB w).elim, R2.tabs⟩
    have ea2 : H2 a = some (.lst xs) := sm2.keep _ _ ea nt_lst
    have ts2 : MKs H2 L' ds xs := ts.kp (S := []) (fun b o e nt _ => sm2.keep b o e nt) (fun _ h => by cases h) (fun _ _ h => by cases h)
    have hdd : PyData.depthAll ds < n := by
      have : PyData.depthAll ds + 1 < n + 1 := hd
      omega
    have hlen : xs.length ≤ 1000 := by rw [← ts.length]; exact ho.2.1
    refine ⟨.ref a, rfl, a, rfl, ⟨xs, .inl (.inl ea2)⟩, fun Dn hDn => ?_⟩
    refine lc_list (MkP ec m2 n H2 L' Dn ds xs) (mk_start sm2.tabs ts2 hDn) (fun i Hi _ p => ?_) (fun i x Hi hx p => ⟨rfl, (mk_turn hlen hDn ts2 ho.2.2 hdd hx p rfl : tMkI ec m2 n E (List.set (wipe [some (V.ref a), none, none] [2]) 2 (some x)) Hi fun y H4 => ∃ acc, H4 Dn = some (.lst acc) ∧ acc.length < sizeLine ∧ MkP ec m2 n H2 L' Dn ds xs (i + 1) (upd H4 Dn (.lst (acc ++ [y]))))⟩) fun Hn p => ?_
    · obtain ⟨S, R', hL, _, _, hS, kp, _, _⟩ := p
      exact .inl (.inl (kp a _ ea2 nt_lst fun z => na (by rw [hL]; exact List.mem_append_left _ z)))
    · obtain ⟨S, R', hL, _, _, _, kp, tbn, eD⟩ := p
      have ean : Hn a = some (.lst xs) := kp a _ ea2 nt_lst fun z => na (by rw [hL]; exact List.mem_append_left _ z)
      have nDa : Dn ≠ a := fun z => by
        subst z
        rw [hDn] at ea2; cases ea2
      refine ⟨.ref a, rfl, .inl ⟨rfl, xs, .inl (.inl ean)⟩, a, xs, .str "marked", rfl, rfl, ean, by rw [sizeLine_eq]; omega, ?_⟩
      have eD2 : upd Hn a (.lst (xs ++ [.str "marked"])) Dn = some (.lst (List.replicate xs.length (.bl true))) := by rw [upd_ne nDa]; exact eD
      refine ⟨.ref Dn, rfl, trues_not eD2 (h1 _ (fun b o e nt nb => ?_) (tabs_lst ean tbn))⟩
      have nb1 : b ≠ a := fun z => nb (by rw [z]; exact List.mem_cons_self)
      rw [upd_ne nb1]
      exact kp b o (sm2.keep b o e nt) nt fun z => nb (by rw [hL]; exact List.mem_cons_of_mem _ (List.mem_append_left _ z))
end EV
end

section
set_option Elab.async false
set_option linter.all false
set_option maxRecDepth 100000
set_option maxHeartbeats 2000000
/-! EvFr: results whose lists are all new, and what may be done with them: they are marked, and nobody else's change. -/
namespace EV
open PySem PySem.Spec PyProof.Rows L2
section
variable {K : PySem.W.Frag} {H H1 H2 H' : Hp} {B B1 B2 B' : AS} {fr fr1 fr2 fr' : Fr} {σ σ1 σ2 σ' : L2.St} {ec : EC} {W : XK} {X : Cx}
mutual
theorem MK.kq (k : ∀ b o, H b = some o → (∃ xs, o = .tup xs) → H' b = some o) : ∀ {L : List Addr} {d : PyData} {v : V}, (∀ a ∈ L, ∀ o, H a = some o → H' a = some o) → MK H L d v → MK H' L d v
  | _, _, _, _, .non => .non
  | _, _, _, _, .bl b => .bl b
  | _, _, _, _, .int i => .int i
  | _, _, _, _, .str x => .str x
  | _, _, _, n, .tup e s => .tup (k _ _ e ⟨_, rfl⟩) (MKs.kq k n s)
  | _, _, _, n, .lst e s na => .lst (n _ List.mem_cons_self _ e) (MKs.kq k (fun a h => n a (List.mem_cons_of_mem _ h)) s) na
theorem MKs.kq (k : ∀ b o, H b = some o → (∃ xs, o = .tup xs) → H' b = some o) : ∀ {L : List Addr} {d : List PyData} {v : List V}, (∀ a ∈ L, ∀ o, H a = some o → H' a = some o) → MKs H L d v → MKs H' L d v
  | _, _, _, _, .nil => .nil
  | _, _, _, n, .cons h1 h2 dj => .cons (MK.kq k (fun a h => n a (List.mem_append_left _ h)) h1) (MKs.kq k (fun a h => n a (List.mem_append_right _ h)) h2) dj
end
/-! ### data without lists -/
mutual
def lf : PyData → Bool
  | .list _ => false
  | .dict _ => false
  | .tuple ds => lfAll ds
  | _ => true
def lfAll : List PyData → Bool
  | [] => true
  | d :: ds => lf d && lfAll ds
end
mutual
theorem mk_lf : ∀ {d : PyData} {v : V}, RD K H B d v → lf d = true → MK H [] d v
  | _, _, .non, _ => .non
  | _, _, .bl b, _ => .bl b
  | _, _, .int i, _ => .int i
  | _, _, .str x, _ => .str x
  | _, _, .lst _ _, h => by cases h
  | _, _, .tup e t, h => .tup e.1 (mks_lf t h)
  | _, _, .dT _ _ _, h => by cases h
  | _, _, .dK _ _ _ _, h => by cases h
theorem mks_lf : ∀ {ds : List PyData} {vs : List V}, RDs K H B ds vs → lfAll ds = true → MKs H [] ds vs
  | _, _, .nil, _ => .nil
  | _, _, .cons h t, e => by
    have e' := Bool.and_eq_true_iff.mp (show (lf _ && lfAll _) = true from e)
    exact .cons (L1 := []) (L2 := []) (mk_lf h e'.1) (mks_lf t e'.2) (fun _ z => by cases z)
end
/-! ### promises of new results -/
def sameD (K : PySem.W.Frag) (ec : EC) (B : AS) (H : Hp) (r : Except Xn PyData) (Q : VK) (E : XK) : Prop := match r with
  | .ok d => ∀ v H', Sm ec.tb H H' → RD K H' B d v → (∃ L, MK H' L d v ∧ ∀ a ∈ L, Fq H a) → Q v H'
  | .error x => ∀ dx v H', Sm ec.tb H H' → H' dx = some (.xd [(("value" : Str), v)]) → RD K H' B x.2 v → E (.ref (ec.ad x.1)) (some dx) H'
def spD (K : PySem.W.Frag) (ec : EC) (n : Nat) (F : List PyData → Option (Except Xn PyData)) : Sp := fun vs H Q E =>
  ∃ (B : AS) (ds : List PyData) (r : Except Xn PyData), LamX.Tabs ec.tb H ∧ BN H B ∧ RDs K H B ds vs ∧ ds.length = n ∧ F ds = some r ∧ sameD K ec B H r Q E
theorem spP_D {n : Nat} {F : List PyData → Option (Except Xn PyData)} {vs : List V} {Q : VK} {E : XK} (h : spP K ec n F vs H Q E) : spD K ec n F vs H Q E := by
  obtain ⟨B, ds, r, h1, h2, h3, h4, h5, h6⟩ := h
  refine ⟨B, ds, r, h1, h2, h3, h4, h5, ?_⟩
  cases r with
  | ok d => exact fun v H' sm rd _ => h6 v H' sm rd
  | error x => exact h6
theorem GD.weak {P : Program} {w : World} {mg : Str → Option Value} {base : Heap} {x : Str} {k : Nat} {ps : List Str} {sp sp' : Sp} (h : ∀ vs H Q E, sp vs H Q E → sp' vs H Q E) (G : GD P w K mg base x k ps sp') : GD P w K mg base x k ps sp := by
  obtain ⟨f, fd, F, r⟩ := G.at_
  exact ⟨f, fd, ⟨fun vs H Q E q => F.len vs H Q E (h _ _ _ _ q), fun A outer s H args us vs Q E hr hG e0 hb rv q => F.go A outer s H args us vs Q E hr hG e0 hb rv (h _ _ _ _ q)⟩, r⟩
abbrev rlD (K : PySem.W.Frag) : Hp → L2.St → Fr → Hp → AS → PyData → V → Prop := fun H _ _ H' B' d v => RD K H' B' d v ∧ ∃ L, MK H' L d v ∧ ∀ a ∈ L, Fq H a ∧ ¬ B' a
def EvD (X : Cx) (ec : EC) (W : XK) (e : Expr) (m : M PyData) : Prop := PE X e (tOf X.K ec W (rlD X.K) m)
theorem sp_callD {n : Nat} {F : List PyData → Option (Except Xn PyData)} {ta : TA} {ma : M (List Opd)} (hl : ∀ ds r, F ds = some r → ds.length = n) (ha : Spc K ec W (rlA K) ta ma) : Spc K ec W (rlD K) (tCall (spD K ec n F) [] W ta) (mCall F ma) := by
  intro σ H B fr r fr' Q R e hr
  refine ha.thn R e hr fun xs vs fr1 H1 B1 R1 s1 e1 r1 hr1 => ?_
  split at e1
  · rename_i ds q
    split at e1
    · rename_i r' qF
      cases e1
      refine ⟨B1, ds, r, R1.tabs, R1.bdom, by rw [List.append_nil]; exact inls_rd r1 q, hl _ _ qF, qF, ?_⟩
      cases r with
      | ok d =>
        intro v H' sm rd ⟨L, mk, hL⟩
        refine hr1 σ H' B1 (.exs sm) (R1.exs sm) rfl v ⟨rd, L, mk, fun a ha => ⟨s1.back (hL a ha), fun z => ?_⟩⟩
        obtain ⟨o, e, nt⟩ := R1.bdom a z
        exact hL a ha o e nt
      | error x => exact fun dx v H' sm ex rd => hr1 σ H' B1 dx v (.exs sm) (R1.exs sm) ex rd
    · cases e1
  · cases e1
end
end EV
end

section
set_option Elab.async false
set_option linter.all false
set_option maxRecDepth 100000
set_option maxHeartbeats 2000000
/-! EvFr2: a def whose result is all new. -/
namespace EV
open PySem PySem.Spec PyProof.Rows L2
section
variable {K : PySem.W.Frag} {H H1 H2 H' : Hp} {B B1 B2 B' : AS} {fr fr1 fr2 fr' : Fr} {σ σ1 σ2 σ' : L2.St} {ec : EC} {W : XK} {X : Cx}
theorem ev_gdD {F : List PyData → Option (Except Xn PyData)} {x : Str} {e : Expr} {es : List Expr} {p pos : Pos} {k n : Nat} {ps : List Str} {mas : M (List Opd)} (G : GD X.prog X.w X.K X.mg X.base x k ps (spD X.K ec n F)) (hl : ∀ ds r, F ds = some r → ds.length = n) (hr : Room k X.A) (hG : X.A.guards = some []) (hg : Gl X x) (hx : Passes (L2.CX X.prog X.w) X W)
    (ha : EvA X ec W (e :: es) mas) (hdb : (x == ("__debug__" : Str)) = false) (he : starEach (e :: es) X.env = (false, eval e X.env) :: starEach es X.env) (hpl : (backTo pos (starEach es X.env)).any (·.1) = false) : EvD X ec W (.Call (.Name x p) (e :: es) [] pos) (mCall F mas) := by
  obtain ⟨f, fd, Fo, hm, hk, hb, _⟩ := G.at_
  obtain ⟨ta, h1, h2⟩ := ha.out
  have pe := pe_callG (p := p) Fo hr hG hg hm hk hb hx h1 hdb he hpl
  exact ⟨fun pins sh σ H Q I q => pe.run pins sh σ H Q I ((sp_callD hl h2).of q)⟩
/-- what a block's ends ask whose return is all new -/
def kEndD (K : PySem.W.Frag) (D : Ends) (fr : Fr) (σ : L2.St) (H : Hp) (f : Fl) (σ' : L2.St) (H' : Hp) (B' : AS) : Prop := match f with
  | .nx => D.nx σ' H'
  | .rt d => ∀ v, RD K H' B' d v → (∃ L, MK H' L d v ∧ ∀ a ∈ L, Wr fr σ a ∨ Fq H a) → D.rt v H'
  | .bk => D.bk σ' H'
  | .ct => D.ct σ' H'
def tOfSD (K : PySem.W.Frag) (ec : EC) (W : XK) (m : MS) : TS := fun D σ H =>
  ∃ (B : AS) (fr : Fr) (r : Except Xn Fl) (fr' : Fr), RF K ec H B fr σ ∧ m fr = some (r, fr') ∧ Res K ec W fr σ B H r fr' (kEndD K D fr σ H)
def EvSsD (X : Cx) (ec : EC) (W : XK) (sts : List Stmt) (m : MS) : Prop := PSs X sts (tOfSD X.K ec W m)
theorem Res.afterD {r : Except Xn Fl} {D : Ends} (R : RF K ec H B fr σ) (s : Step fr σ B H fr1 σ1 B1 H1) (h : Res K ec W fr σ B H r fr' (kEndD K D fr σ H)) : Res K ec W fr1 σ1 B1 H1 r fr' (kEndD K D fr1 σ1 H1) := by
  cases r with
  | error x => exact fun σ' H' B' dx v s' R' e r => h σ' H' B' dx v (s.trans R s') R' e r
  | ok f =>
    intro σ' H' B' s' R'
    have q := h σ' H' B' (s.trans R s') R'
    cases f with
    | nx => exact q
    | bk => exact q
    | ct => exact q
    | rt d =>
      intro v rd ⟨L, mk, hL⟩
      refine q v rd ⟨L, mk, fun a ha => ?_⟩
      rcases hL a ha with z | z
      · exact s.wn a z
      · exact .inr (s.back z)
/-- the statement ahead gives no result -/
def sSeqD (a b : MS) : MS := a.bind fun f => match f with
  | .nx => b
  | _ => fun _ => none
theorem evSsD_cons {st : Stmt} {rest : List Stmt} {a b : MS} (h1 : EvS X ec W st a) (h2 : EvSsD X ec W rest b) : EvSsD X ec W (st :: rest) (sSeqD a b) := by
  obtain ⟨t, p1, s1⟩ := h1.out
  have h2' : PSs X rest (tOfSD X.K ec W b) := h2
  have pp := pss_cons p1 h2'
  refine ⟨fun pins sh σ H D I q => pp.run pins sh σ H D I ?_⟩
  obtain ⟨B, fr, r, fr', R, e, hr⟩ := q
  rcases M.bind_some e with ⟨f, fr1, e1, e2⟩ | ⟨x, e1, rfl⟩
  · cases f with
    | nx =>
      refine s1 σ H B fr (.ok .nx) fr1 _ R e1 ?_
      intro σ1 H1 B1 st1 R1
      exact ⟨B1, fr1, r, fr', R1, e2, hr.afterD R st1⟩
    | rt d => cases e2
    | bk => cases e2
    | ct => cases e2
  · exact s1 σ H B fr (.error x) fr' _ R e1 hr
/-- return x, e: x a list of its own, e a new list, both of list-free things -/
def sRetD (i : Nat) (m2 : M PyData) : MS := fun fr => match fr[i]? with
  | some (.ow false (.list _)) => (m2.bind fun d2 => fun fr2 => match d2, fr2[i]? with
    | .list ds2, some (.ow false (.list ds1)) => if (lfAll ds1 && lfAll ds2) = true then some (.ok (.rt (.tuple [.list ds1, .list ds2])), fr2.set i (.fz (.list ds1))) else none
    | _, _ => none) fr
  | _ => none
theorem evSsD_ret2 {i : Nat} {x : Str} {px pt pr : Pos} {c : Nat} {e2 : Expr} {m2 : M PyData} (hN : X.N[i]? = some x) (hv : Vis X.env.scope x) (hd : (x == ("__debug__" : Str)) = false) (hcd : (x == ("__classdict__" : Str)) = false) (h2 : EvN X ec W e2 m2)
    (hs1 : starEach [.Name x px, e2] X.env = (false, eval (.Name x px) X.env) :: starEach [e2] X.env) (hs2 : starEach [e2] X.env = (false, eval e2 X.env) :: starEach [] X.env) : EvSsD X ec W [.Return (some (.Tuple [.Name x px, e2] c pt)) pr] (sRetD i m2) := by
  obtain ⟨t2, p2, s2⟩ := h2.out
  have pp : PSs X [.Return (some (.Tuple [.Name x px, e2] c pt)) pr] (tRet (tTup (tCons (tVar i) (tCons t2 tNil)))) := pss_one (ps_ret (pe_tup (pa_cons (pe_var hN hv hd hcd) (pa_cons p2 pa_nil hs2) hs1)))
  refine ⟨fun pins sh σ H D I q => pp.run pins sh σ H D I ?_⟩
  obtain ⟨B, fr, r, fr', R, e, hr⟩ := q
  unfold sRetD at e
  split at e
  · rename_i ds0 q0
    obtain ⟨aw, haw, hBw, _⟩ := R.ow i _ _ q0
    refine ⟨.ref aw, haw, ?_⟩
    rcases M.bind_some e with ⟨d2, fr2, e1, e3⟩ | ⟨x, e1, rfl⟩
    · refine s2 σ H B fr (.ok d2) fr2 _ R e1 ?_
      intro σ' H2 B2 st2 R2 es v ⟨as, ev, oa, nw, hn⟩
      subst es ev
      split at e3
      · rename_i ds2 ds1 q1
        split at e3
        · rename_i hlf
          cases e3
          have hlf' := Bool.and_eq_true_iff.mp hlf
          obtain ⟨aw', haw', oaw⟩ := R2.ow i _ _ q1
          rw [haw] at haw'
          cases haw'
          have wrw : Wr fr2 σ' aw := ⟨i, false, _, q1, haw⟩
          have nas : as ≠ aw := fun z => nw (z ▸ wrw)
          obtain ⟨R3, rd2⟩ := unown R2 oa nw
          have st3 : Step fr σ' B H fr2 σ' (fun b => B2 b ∧ b ≠ as) H2 := ⟨st2.keep, fun b hb n => ⟨st2.bk b hb n, fun z => by
            subst z
            obtain ⟨o, e1, nt⟩ := R.bdom b hb
            exact hn o e1 nt⟩, fun b z => st2.bn b z.1, st2.wn, st2.dm, st2.ln⟩
          obtain ⟨B4, v4, st4, R4, hv4, rd1⟩ := freeze R3 q1
          rw [haw] at hv4
          cases hv4
          have rd2' := rd2.kp (st4.kp R3)
          have st04 := st3.trans R st4
          refine ⟨by show 2 ≤ sizeLine; decide, fun p hp => ?_⟩
          have sm := EV.Same.new (o := .tup [.ref aw, .ref as]) hp
          have kpn : Kp B4 H2 B4 (upd H2 p (.tup [.ref aw, .ref as])) := .new R4.BD hp
          -- the lists
          obtain ⟨_, oaw⟩ := oaw
          obtain ⟨_, oas⟩ := oa
          cases oaw with
          | @lst xs1 _ ex1 rx1 =>
            cases oas with
            | @lst xs2 _ ex2 rx2 =>
              have m1 : MKs (upd H2 p (.tup [.ref aw, .ref as])) [] ds1 xs1 := (mks_lf rx1 hlf'.1).kp (S := []) (fun b o e nt _ => sm b o e) (fun _ h => by cases h) (fun _ h => by cases h)
              have m2' : MKs (upd H2 p (.tup [.ref aw, .ref as])) [] ds2 xs2 := (mks_lf rx2 hlf'.2).kp (S := []) (fun b o e nt _ => sm b o e) (fun _ h => by cases h) (fun _ h => by cases h)
              have mm : MK (upd H2 p (.tup [.ref aw, .ref as])) ([aw] ++ ([as] ++ [])) (.tuple [.list ds1, .list ds2]) (.ref p) :=
                .tup upd_same (.cons (.lst (sm _ _ ex1) m1 (fun h => by cases h)) (.cons (.lst (sm _ _ ex2) m2' (fun h => by cases h)) .nil (fun _ _ h => by cases h)) (fun a ha hb => by
                  simp at ha hb
                  exact nas (by rw [← hb, ha])))
              have fin := hr σ' _ B4 (st04.trans R (.ext sm)) (R4.ext sm)
              refine fin (.ref p) ?_ ⟨_, mm, fun a ha => ?_⟩
              · exact .tup ⟨upd_same, fun z => R4.bd z hp⟩ (.cons (rd1.kp kpn) (.cons (rd2'.kp kpn) .nil))
              · simp at ha
                rcases ha with rfl | rfl
                · exact .inl ⟨i, false, _, q0, haw⟩
                · exact .inr hn
        · cases e3
      · cases e3
    · exact s2 σ H B fr (.error x) fr' _ R e1 hr
  · cases e
theorem fn_okD {P : Program} {w : World} {mg : Str → Option Value} {base : Heap} {x qual : Str} {st : Stmt} {f : Addr} {fd : FuncData} {N ps : List Str} {k : Nat} {m : MS} (Fu : Fun K x qual st f fd) (S : FnScope N ps (defScope st))
    (hb : ∀ (cdv : Value) (A : Around) (outer : List Env) (s : Shared) (H : Hp) (E : XK), Room k (A.deeper (envOfC qual (defScope st) s.heap.objs.size f cdv)) → A.guards = some [] →
      EvSsD (cxOf (L2.CX P w) P w K mg base N qual (defScope st) f cdv A outer s H E) ec E (defBody st) m) :
    FnG P w K mg base (k + 1) f fd ps (spD K ec ps.length (runP ps.length N.length m)) := by
  have len : ∀ vs H Q E, spD K ec ps.length (runP ps.length N.length m) vs H Q E → vs.length = ps.length := fun vs H Q E h => by
    obtain ⟨B, ds, r, _, _, h1, h2, _⟩ := h
    rw [← h1.length]; exact h2
  obtain ⟨oc, od, kV, doc, pm, an, cdv, ct, osl, rfl, lk, hcd⟩ := Fu.ex
  refine ⟨len, fun A outer s H args us vs Q E hr hG e0 hbt rv h => LamX.run_ofS lk hcd S hr e0 hbt rv (len _ _ _ _ h) fun hr' => ?_⟩
  obtain ⟨B, ds, r, tb, bd, h1, h2, h3, h4⟩ := h
  refine ⟨_, hb cdv A outer s H E hr' hG, ?_⟩
  unfold runP at h3
  rw [if_pos h2] at h3
  have R := start_rf (K := K) (ec := ec) tb bd h1 (N.length - ps.length)
  have es : L2.start N vs = vs.map some ++ List.replicate (N.length - ps.length) none := by
    unfold L2.start
    rw [← h1.length, h2]
  rw [es]
  have nwr : ∀ b, ¬ Wr (ds.map SD.fz ++ List.replicate (N.length - ps.length) SD.no) (vs.map some ++ List.replicate (N.length - ps.length) none) b := fun b ⟨i, l, d, z, _⟩ => start_own z
  have same : ∀ {fr' σ' B' H'}, Step (ds.map SD.fz ++ List.replicate (N.length - ps.length) SD.no) (vs.map some ++ List.replicate (N.length - ps.length) none) B H fr' σ' B' H' → RF K ec H' B' fr' σ' → Sm ec.tb H H' := fun st R' => ⟨fun b o e nt => st.keep b o e nt (nwr b), R'.tabs⟩
  have weak : ∀ {fr' σ' B' H' d v}, Step (ds.map SD.fz ++ List.replicate (N.length - ps.length) SD.no) (vs.map some ++ List.replicate (N.length - ps.length) none) B H fr' σ' B' H' → RD K H' B' d v → RD K H' B d v := fun st rd =>
    rd.kp ⟨fun _ _ e _ _ => e, fun b o e _ n z => n (st.bk b z (nwr b))⟩
  split at h3
  · rename_i d fr' q
    cases h3
    refine ⟨B, _, .ok (.rt d), fr', R, q, ?_⟩
    intro σ' H' B' st R' v rd ⟨L, mk, hL⟩
    exact h4 v H' (same st R') (weak st rd) ⟨L, mk, fun a ha => (hL a ha).elim (fun z => (nwr a z).elim) id⟩
  · rename_i fr' q
    cases h3
    refine ⟨B, _, .ok .nx, fr', R, q, ?_⟩
    intro σ' H' B' st R'
    exact h4 .non H' (same st R') .non ⟨[], .non, fun _ h => by cases h⟩
  · rename_i x fr' q
    cases h3
    refine ⟨B, _, .error x, fr', R, q, ?_⟩
    intro σ' H' B' dx v st R' ex rd
    exact h4 dx v H' (same st R') ex (weak st rd)
  · cases h3
end
end EV
end

section
set_option Elab.async false
set_option linter.all false
set_option maxRecDepth 100000
set_option maxHeartbeats 2000000
/-! EvFr3: told = f(..); if a or b or not marked(told) or c or d: .. *)  what is marked is nobody else's. -/
namespace EV
open PySem PySem.Spec PyProof.Rows L2
section
variable {K : PySem.W.Frag} {H H1 H2 H3 H4 H' : Hp} {B B1 B2 B3 B' : AS} {fr fr1 fr2 fr' : Fr} {σ σ1 σ2 σ' : L2.St} {ec : EC} {W : XK} {X : Cx}
/-- all lists that the frame holds are of ints -/
def FlatF (fr : Fr) : Prop := ∀ (j : Nat) (l : Bool) (d : PyData), fr[j]? = some (SD.ow l d) → ∃ ns : List Int, d = .list (ns.map .int)
theorem rds_ints : ∀ {ns : List Int} {xs : List V}, RDs K H B (ns.map .int) xs → RDs K H' B' (ns.map .int) xs
  | [], _, r => by cases r; exact .nil
  | n :: ns, _, r => by
    cases r with
    | cons h t => cases h; exact .cons (.int n) (rds_ints t)
theorem own_flat {a : Addr} {ns : List Int} (h : OwnIn K H B a (.list (ns.map .int))) (e : ∀ o, H a = some o → H' a = some o) : OwnIn K H' B' a (.list (ns.map .int)) := by
  cases h with
  | lst ea r => exact .lst (e _ ea) (rds_ints r)
/-- the new lists L are kept apart -/
theorem apart {L : List Addr} (R : RF K ec H B fr σ) (s : Step fr σ B H fr σ B1 H1) (R1 : RF K ec H1 B1 fr σ) (hf : FlatF fr) (hL : ∀ a ∈ L, Fq H a ∧ ¬ B1 a) (hl : ∀ a ∈ L, ∃ xs, H1 a = some (.lst xs)) : RF K ec H1 (fun b => B1 b ∨ b ∈ L) fr σ := by
  have kp : Kp B H (fun b => B1 b ∨ b ∈ L) H1 := ⟨fun b o e nt n => s.keep b o e nt fun w => n (R.wrB w), fun b o e nt n z => by
    rcases z with z | z
    · rcases s.bn b z with q | q
      · exact n q
      · exact q o e nt
    · exact (hL b z).1 o e nt⟩
  refine ⟨R.len, fun i d h => R.kp_fz kp i d h, fun i l d h => ?_, R.dis, fun b h => ?_, R1.tabs⟩
  · obtain ⟨a, h1, h2, h3⟩ := R1.ow i l d h
    obtain ⟨ns, rfl⟩ := hf i l d h
    exact ⟨a, h1, .inl h2, own_flat h3 fun o e => e⟩
  · rcases h with h | h
    · exact R1.bdom b h
    · obtain ⟨xs, e⟩ := hl b h
      exact ⟨_, e, nt_lst⟩
/-- .. while something is looked at: frD knows them, frN does not -/
theorem apart_step {L : List Addr} {i : Nat} {d : PyData} (RN : RF K ec H (fun b => B b ∨ b ∈ L) (fr.set i .no) σ) (RD' : RF K ec H B (fr.set i (.fz d)) σ) (s : Step (fr.set i (.fz d)) σ B H (fr.set i (.fz d)) σ B1 H1) (R1 : RF K ec H1 B1 (fr.set i (.fz d)) σ) (hf : FlatF fr) (hB : ∀ a ∈ L, ¬ B a) (hl : ∀ a ∈ L, ∃ xs, H a = some (.lst xs)) :
    RF K ec H1 (fun b => B1 b ∨ b ∈ L) (fr.set i .no) σ ∧ (∀ a ∈ L, ¬ B1 a) ∧ (∀ a ∈ L, ∀ o, H a = some o → H1 a = some o) ∧ (∀ b o, H b = some o → (∃ xs, o = .tup xs) → H1 b = some o) := by
  have nw : ∀ b, ¬ B b → ¬ Wr (fr.set i (.fz d)) σ b := fun b n w => n (RD'.wrB w)
  have kl : ∀ a ∈ L, ∀ o, H a = some o → H1 a = some o := fun a ha o e => by
    obtain ⟨xs, e2⟩ := hl a ha
    rw [e] at e2
    cases e2
    exact s.keep a _ e nt_lst (nw a (hB a ha))
  have nB1 : ∀ a ∈ L, ¬ B1 a := fun a ha z => by
    rcases s.bn a z with q | q
    · exact hB a ha q
    · obtain ⟨xs, e⟩ := hl a ha
      exact q _ e nt_lst
  have kp : Kp (fun b => B b ∨ b ∈ L) H (fun b => B1 b ∨ b ∈ L) H1 := ⟨fun b o e nt n => s.keep b o e nt (nw b fun z => n (.inl z)), fun b o e nt n z => by
    rcases z with z | z
    · rcases s.bn b z with q | q
      · exact n (.inl q)
      · exact q o e nt
    · exact n (.inr z)⟩
  refine ⟨⟨by rw [List.length_set, ← R1.len, List.length_set], fun j d' h => RN.kp_fz kp j d' h, fun j l d' h => ?_, RN.dis, fun b h => ?_, R1.tabs⟩, nB1, kl, fun b o e ⟨xs, ho⟩ => ?_⟩
  · rcases get_set h with ⟨_, z⟩ | ⟨ne, z⟩
    · cases z
    · obtain ⟨ns, rfl⟩ := hf j l d' z
      obtain ⟨a, h1, h2, h3⟩ := R1.ow j l _ (by rw [List.getElem?_set_ne (Ne.symm ne)]; exact z)
      exact ⟨a, h1, .inl h2, own_flat h3 fun o e => e⟩
  · rcases h with h | h
    · exact R1.bdom b h
    · obtain ⟨xs, e⟩ := hl b h
      exact ⟨_, kl b h _ e, nt_lst⟩
  · subst ho
    refine s.keep b _ e nt_tup fun w => ?_
    obtain ⟨j, l, d', h1, h2⟩ := w
    obtain ⟨a, h3, _, h4⟩ := RD'.ow j l d' h1
    rw [h2] at h3
    cases h3
    cases h4 with
    | lst e2 _ => rw [e] at e2; cases e2
    | dT e2 _ => rw [e] at e2; cases e2
    | dK e2 _ _ => rw [e] at e2; cases e2
/-- .. and when they have been marked -/
theorem apart_end {L : List Addr} {i : Nat} (RN : RF K ec H (fun b => B b ∨ b ∈ L) (fr.set i .no) σ) (hf : FlatF fr) (hB : ∀ a ∈ L, ¬ B a) (hBd : ∀ b, B b → ∃ o, H b = some o ∧ NT o) (hw : ∀ (j : Nat) (l : Bool) (d : PyData) (a : Addr), (fr.set i .no)[j]? = some (SD.ow l d) → σ[j]? = some (some (V.ref a)) → B a)
    (k : ∀ b o, H b = some o → NT o → b ∉ L → H1 b = some o) (tb : LamX.Tabs ec.tb H1) : RF K ec H1 B (fr.set i .no) σ := by
  have kp : Kp (fun b => B b ∨ b ∈ L) H B H1 := ⟨fun b o e nt n => k b o e nt fun z => n (.inr z), fun b o e nt n z => n (.inl z)⟩
  refine ⟨RN.len, fun j d' h => RN.kp_fz kp j d' h, fun j l d' h => ?_, RN.dis, fun b h => ?_, tb⟩
  · obtain ⟨a, h1, h2, h3⟩ := RN.ow j l d' h
    have hBa := hw j l d' a h h1
    rcases get_set h with ⟨_, z⟩ | ⟨ne, z⟩
    · cases z
    · obtain ⟨ns, rfl⟩ := hf j l d' z
      refine ⟨a, h1, hBa, own_flat h3 fun o e => ?_⟩
      obtain ⟨o', e', nt⟩ := hBd a hBa
      rw [e] at e'
      cases e'
      exact k a o e nt fun z => hB a z hBa
  · obtain ⟨o, e, nt⟩ := hBd b h
    exact ⟨o, k b o e nt fun z => hB b z h, nt⟩
/-- the facts of such a turn -/
def MarkAt (i : Nat) (mc : M PyData) (n1 n2 n45 : M Bool) (m2 : M Bool) (n : Nat) (fr fr4 : Fr) : Prop := ∃ d : PyData, mc fr = some (.ok d, fr) ∧ i < fr.length ∧ FlatF fr ∧ OkM m2 d ∧ d.depth < n ∧ n1 (fr.set i (.fz d)) = some (.ok false, fr.set i (.fz d)) ∧ n2 (fr.set i (.fz d)) = some (.ok false, fr.set i (.fz d)) ∧ n45 (fr.set i .no) = some (.ok false, fr4)
open Classical in
noncomputable def sMark (i : Nat) (mc : M PyData) (n1 n2 n45 : M Bool) (m2 : M Bool) (n : Nat) : MS := fun fr => if h : ∃ fr4, MarkAt i mc n1 n2 n45 m2 n fr fr4 then some (.ok .nx, Classical.choose h) else none
theorem sMark_go {i : Nat} {mc : M PyData} {n1 n2 n45 : M Bool} {m2 : M Bool} {n : Nat} {fr fr4 : Fr} (h : MarkAt i mc n1 n2 n45 m2 n fr fr4) : sMark i mc n1 n2 n45 m2 n fr = some (.ok .nx, fr4) := by
  have hx : ∃ fr4, MarkAt i mc n1 n2 n45 m2 n fr fr4 := ⟨fr4, h⟩
  unfold sMark
  rw [dif_pos hx]
  obtain ⟨d, a1, _, a2, a3, a4, a5, a6, a7⟩ := Classical.choose_spec hx
  obtain ⟨d', b1, _, b2, b3, b4, b5, b6, b7⟩ := h
  rw [b1] at a1
  cases a1
  rw [b7] at a7
  cases a7
  rfl
theorem evSs_mark {i n k : Nat} {x y : Str} {e v1 v2 v4 : Expr} {vs : List Expr} {body rest : List Stmt} {mc : M PyData} {n1 n2 n45 m2 : M Bool} {mb m3 : MS} {px px2 pm pc pn pb pos1 pos2 : Pos}
    (hc : EvD X ec W e mc) (hN : X.N.Nodup) (hi : X.N[i]? = some x) (hx : Loc X.env.scope x) (hs : swapsWith e (some (.Name x px)) pos1.line X.env = pure false) (hfx : X.fn x = true ∨ X.env.scope.names.lookup x = some .local)
    (hv : Vis X.env.scope x) (hd1 : (x == ("__debug__" : Str)) = false) (hd2 : (x == ("__classdict__" : Str)) = false)
    (h1 : EvT X ec W v1 n1) (h2 : EvT X ec W v2 n2) (h45 : EvW X ec W (.BoolOp .Or (v4 :: vs) pb) n45) (hb : EvSs X ec W body mb) (h3 : EvSs X ec W rest m3)
    (G : GD X.prog X.w X.K X.mg X.base y k ["told"] (spK ec m2 n)) (hr : Room k X.A) (hG : X.A.guards = some []) (hg : Gl X y) (hp : Passes (L2.CX X.prog X.w) X W) (hdb : (y == ("__debug__" : Str)) = false)
    (he : starEach [.Name x px2] X.env = (false, eval (.Name x px2) X.env) :: starEach [] X.env) (hpl : (backTo pc (starEach [] X.env)).any (·.1) = false)
    (htr : ∀ whole, isTrue (.Call (.Name y pm) [.Name x px2] [] pc) X.env whole = (do let v ← whole; standAt (Expr.Call (.Name y pm) [.Name x px2] [] pc).pos; holding [v] (truthy v))) :
    EvSs X ec W (.Assign [.Name x px] e pos1 :: .If (.BoolOp .Or (v1 :: v2 :: .UnaryOp .Not (.Call (.Name y pm) [.Name x px2] [] pc) pn :: v4 :: vs) pb) body [] pos2 :: rest) (sSeq (sMark i mc n1 n2 n45 m2 n) m3) := by
  obtain ⟨f, fd, Fo, hm, hk, hbn, _⟩ := G.at_
  obtain ⟨t1, p1, s1⟩ := h1.out
  obtain ⟨t2, p2, s2⟩ := h2.out
  obtain ⟨t4, p4, s4⟩ := h45.out
  obtain ⟨tb, pb', sb⟩ := hb.out
  obtain ⟨t3, p3, s3⟩ := h3.out
  have hc' : PE X e (tOf X.K ec W (rlD X.K) mc) := hc
  have pcall := pe_callG (p := pm) Fo hr hG hg hm hk hbn hp (pa_cons (pe_var (i := i) (pos := px2) hi hv hd1 hd2) pa_nil he) hdb he hpl
  have pif := ps_if (pos := pos2) (PW.pt (pw_or p1 (pw_or p2 (pw_or (pt_not (pos := pn) (pt_val pcall htr)) p4)))) pb' pss_nil
  refine .mk (pss_cons (ps_set hN hi hx hc' hs hfx) (pss_cons pif p3)) ?_
  intro σ H B fr r fr' D R e' hr'
  rcases M.bind_some e' with ⟨fl, fr4, e1, e2⟩ | ⟨xx, e1, rfl⟩
  · unfold sMark at e1
    split at e1
    · rename_i hx4
      obtain ⟨d, a1, a0, a2, a3, a4, a5, a6, a7⟩ := Classical.choose_spec hx4
      cases e1
      generalize Classical.choose hx4 = fr4 at a7 e2
      refine tOf_sp σ H B fr (.ok d) fr _ R a1 ?_
      intro σ0 H1 B1 st1 R1 es v ⟨rd, L, mk, hL⟩
      subst es
      -- two views
      have RA := (set_fz R1 i rd).2
      have stA := (set_fz R1 i rd).1
      have RN0 := apart R st1 R1 a2 hL mk.lists
      have RN := (set_no RN0 i (some v)).2
      have sty : (σ0.set i (some v))[i]? = some (some v) := by
        have hlt : i < σ0.length := by
          rw [← R.len]
          exact a0
        rw [List.getElem?_set_self hlt]
      have hB1 : ∀ a ∈ L, ¬ B1 a := fun a ha => (hL a ha).2
      refine s1 (σ0.set i (some v)) H1 B1 _ (.ok false) _ _ RA a5 ?_
      intro σ2 H2 B2 st2 R2 es b eb
      subst es eb
      obtain ⟨RN2, hB2, kl2, kt2⟩ := apart_step RN RA st2 R2 a2 hB1 mk.lists
      have mk2 : MK H2 L d v := mk.kq kt2 kl2
      refine iteF ?_
      refine s2 (σ0.set i (some v)) H2 B2 _ (.ok false) _ _ R2 a6 ?_
      intro σ3 H3 B3 st3 R3 es b eb
      subst es eb
      obtain ⟨RN3, hB3, kl3, kt3⟩ := apart_step RN2 R2 st3 R3 a2 hB2 mk2.lists
      have mk3 : MK H3 L d v := mk2.kq kt3 kl3
      refine iteF ?_
      refine ⟨v, sty, d, v, L, rfl, R3.tabs, mk3, a3, a4, fun H4 k4 tb4 => ⟨true, rfl, ?_⟩⟩
      refine iteF ?_
      have R4 : RF X.K ec H4 B3 (fr.set i .no) (σ0.set i (some v)) := by
        refine apart_end RN3 a2 hB3 R3.bdom (fun j l d' a hj hs => ?_) k4 tb4
        rcases get_set hj with ⟨_, z⟩ | ⟨ne, z⟩
        · cases z
        · obtain ⟨a', q1, q2, _⟩ := R3.ow j l d' (by rw [List.getElem?_set_ne (Ne.symm ne)]; exact z)
          rw [hs] at q1
          cases q1
          exact q2
      have st03 : Step fr σ0 B H (fr.set i (.fz d)) (σ0.set i (some v)) B3 H3 := ((st1.trans R stA).trans R st2).trans R st3
      have st4 : Step fr σ0 B H (fr.set i .no) (σ0.set i (some v)) B3 H4 := by
        refine ⟨fun b o e nt w => k4 b o (st03.keep b o e nt w) nt fun z => (hL b z).1 o e nt, st03.bk, st03.bn, fun b ⟨j, l, d', q1, q2⟩ => ?_, fun b o e nt => ?_, fun j d' q => ?_⟩
        · rcases get_set q1 with ⟨_, z⟩ | ⟨ne, z⟩
          · cases z
          · exact st03.wn b ⟨j, l, d', by rw [List.getElem?_set_ne (Ne.symm ne)]; exact z, q2⟩
        · obtain ⟨o', e', nt'⟩ := st03.dm b o e nt
          exact ⟨o', k4 b o' e' nt' fun z => (hL b z).1 o e nt, nt'⟩
        · rcases get_set q with ⟨_, z⟩ | ⟨ne, z⟩
          · cases z
          · exact st03.ln j d' (by rw [List.getElem?_set_ne (Ne.symm ne)]; exact z)
      refine s4 (σ0.set i (some v)) H4 B3 _ (.ok false) fr4 _ R4 a7 ?_
      intro σ5 H5 B5 st5 R5 es b eb
      subst es eb
      refine iteF ?_
      exact s3 _ H5 B5 fr4 r fr' D R5 e2 (hr'.after R (st4.trans R st5))
    · cases e1
  · unfold sMark at e1
    split at e1 <;> cases e1
end
end EV
end

section
set_option Elab.async false
set_option linter.all false
set_option maxRecDepth 100000
set_option maxHeartbeats 4000000
/-! R79: refusals in k79: what the two defs and the classes must be; the rule for _law_refuses(lambda: .., word, value). -/
namespace K79
open PySem PySem.Spec PyProof.Rows L2 LamX EV
def top (i : Nat) : Stmt := PySem.Challenge.pw_anyserve_k79_tables_of_days.main.body.getD i (.Pass ⟨0, 0, 0, 0⟩)
def bns : List Str := ["len", "max", "min", "abs", "sum", "repr", "sorted", "isinstance", "int", "bool", "str", "list", "tuple", "range", "enumerate"]
theorem q_eq : (("_law_refused_right" : Str) ++ ".<locals>.") ++ "<lambda>" = ("_law_refused_right.<locals>.<lambda>" : Str) := by decide +kernel
def W_told : List Str := ["table", "number", "day", "rule"]
def M_ref : M PyData := mAnd (mP2 pEq (mVal (mP2 pIx (mSlot 3) (mVal (mC (.int 0))))) (mSlot 1)) (mP2 pEq (mVal (mPN pRepr (A1 (mVal (mP2 pIx (mSlot 3) (mVal (mC (.int 1)))))))) (mVal (mPN pRepr (A1 (mSlot 2)))))
abbrev N_cg : List Str := ["call", "caught", "e", "kinds"]
abbrev N_rf : List Str := ["call", "word", "value", "told"]
abbrev P_rf : List Str := ["call", "word", "value"]
section
variable {P : Program} {w : World} {K : PySem.W.Frag} {mg : Str → Option Value} {base : Heap} {ec : EC}
theorem cg_ok {g SE A0 A1 A2 A3 : Addr} {cd : Value} (h1 : mg "ScoreError" = some (.ref SE)) (h2 : mg "InvalidTable" = some (.ref A0)) (h3 : mg "InvalidNumber" = some (.ref A1)) (h4 : mg "InvalidDay" = some (.ref A2)) (h5 : mg "InvalidRule" = some (.ref A3)) (hi : mg "isinstance" = none) :
    CgOk P w K mg base N_cg "_law_caught" (defScope (top 51)) g cd (defBody (top 51)) SE [A0, A1, A2, A3] W_told := by
  intro A outer s H f c' q tl hr act
  have nd : (N_cg : List Str).Nodup := by decide +kernel
  exact pss_cons (ps_set nd rfl (.inl rfl) pe_non) (pss_cons
    (try_keep (i := 2) (c := .ref SE) (by rfl) (by rfl) (by rfl) nd (by rfl) (by rfl) (by exact ⟨rfl, by decide, .inl h1⟩) (fun W pn xe tk => pss_one (ps_expr (act W pn xe _ _ tk))) (fun a oe cls d pn => pss_one (ps_set nd rfl (.inl rfl) (pe_var (i := 2) rfl (.inl rfl) (by decide) (by decide)))))
    (pss_cons (ps_if (pt_cmpR op_isN1 (pe_var (i := 1) rfl (.inl rfl) (by decide) (by decide)) pe_non (nobehind _ (by decide) (by decide))) (pss_one (ps_ret (pe_tup (pa_cons pe_str (pa_cons pe_non pa_nil))))) pss_nil)
    (pss_cons (ps_set nd rfl (.inl rfl) (pe_lst (pa_isks (.cons (pe_isk rfl (.inl rfl) rfl hi rfl h2 (by decide) (by decide) (by decide)) (by rfl) (.cons (pe_isk rfl (.inl rfl) rfl hi rfl h3 (by decide) (by decide) (by decide)) (by rfl) (.cons (pe_isk rfl (.inl rfl) rfl hi rfl h4 (by decide) (by decide) (by decide)) (by rfl) (.cons (pe_isk rfl (.inl rfl) rfl hi rfl h5 (by decide) (by decide) (by decide)) (by rfl) .nil)))))))
    (pss_one (ps_ret (pe_tup (pa_cons (pe_ifExp (pt_cmpR op_eq (pe_bm PySem.F.plainAttrs_list PySem.F.slot_list_count PySem.F.type_list_count mt_countB (pe_var (i := 3) rfl (.inl rfl) (by decide) (by decide)) (pa_cons pe_bl pa_nil)) pe_int (nobehind _ (by decide) (by decide)))
      (pe_ix ix_list (pe_lst (pa_cons pe_str (pa_cons pe_str (pa_cons pe_str (pa_cons pe_str pa_nil))))) (pe_bm PySem.F.plainAttrs_list PySem.F.slot_list_index PySem.F.type_list_index mt_indexB (pe_var (i := 3) rfl (.inl rfl) (by decide) (by decide)) (pa_cons pe_bl pa_nil)) (fun _ _ => rfl)) pe_str)
      (pa_cons (pe_xk (pe_var (i := 1) rfl (.inl rfl) (by decide) (by decide))) pa_nil))))))))
/-- the two defs, the classes, the table of the asker's code object c, for the def whose lambdas bear the name q -/
structure GRef (K : PySem.W.Frag) (mg : Str → Option Value) (base : Heap) (ec : EC) (q : Str) (c Pt : Addr) : Prop where
  cg : ∃ (g : Addr) (cd : Value) (fd : FuncData), DefAt K mg "_law_caught" g N_cg ["call"] (defScope (top 51)) (defBody (top 51)) cd fd
  rf : ∃ (g : Addr) (cd : Value) (fd : FuncData), DefAt K mg "_law_refuses" g N_rf P_rf (defScope (top 52)) (defBody (top 52)) cd fd
  se : ∃ SE : Addr, mg "ScoreError" = some (.ref SE) ∧ mg "InvalidTable" = some (.ref (ec.ad 0)) ∧ mg "InvalidNumber" = some (.ref (ec.ad 1)) ∧ mg "InvalidDay" = some (.ref (ec.ad 2)) ∧ mg "InvalidRule" = some (.ref (ec.ad 3)) ∧ ∀ i, i < 4 → ErrC K ec SE [ec.ad 0, ec.ad 1, ec.ad 2, ec.ad 3] W_told i
  no1 : mg "isinstance" = none
  no2 : mg "repr" = none
  tab : TabB base mg c Pt
  mem : ec.tb = [(Pt, q)]
theorem ev_refX {X : Cx} {W : XK} {c Pt : Addr} {q : Str} {m : M PyData} {mas : M (List Opd)} {e1 e2 : Expr} {p pos lpos : Pos} {params : Arguments} {body : Expr} {scope : Scope} (GR : GRef X.K X.mg X.base ec q c Pt) (hq : X.env.qual ++ "<lambda>" = q)
    (hst : X.stack = X.env :: X.outer) (hef : X.env.frame = some X.env.locals) (hcode : X.env.code = .ref c) (hr : Room 31 X.A) (hG : X.A.guards = some []) (hg : Gl X "_law_refuses") (L : LamS X.env.scope scope) (hdef : defaultsOf params X.env = ([], []))
    (hbind : ∀ (q : Str) (cl : List (Str × Addr)) (pm cv ctv : Value), bindArgs (PySem.W.kla_fn "<lambda>" q params body scope cl pm cv ctv) ⟨[], []⟩ = pure [])
    (hbody : ∀ (E : XK) (A : Around) (outer : List Env) (s : Shared) (H : Hp) (f c' : Addr), Room 28 (A.deeper (lamEnv X scope s.heap.objs.size f c')) → A.guards = some [] → EvE (lamCx X A outer s H E scope f c') ec E body m)
    (ha : EvA X ec W [e1, e2] mas) (hsl : starEach (.Lambda params body scope lpos :: [e1, e2]) X.env = (false, eval (.Lambda params body scope lpos) X.env) :: starEach [e1, e2] X.env) (hpl : (backTo pos (starEach [e1, e2] X.env)).any (·.1) = false) :
    EvE X ec W (.Call (.Name "_law_refuses" p) (.Lambda params body scope lpos :: [e1, e2]) [] pos) (mRef m W_told M_ref mas) := by
  obtain ⟨⟨g2, cd2, fd2, D2⟩, ⟨g1, cd1, fd1, D1⟩, ⟨SE, s1, s2, s3, s4, s5, sE⟩, n1, n2, tb, mem⟩ := GR
  subst hq
  refine ev_refuses (k := 28) (SE := SE) (Ds := [ec.ad 0, ec.ad 1, ec.ad 2, ec.ad 3]) (a := "call") (told := "told") (by exact D1) D2 (cg_ok s1 s2 s3 s4 s5 n1) rfl rfl (.inl rfl) (by decide) rfl (.inl rfl) (.inl rfl) rfl rfl (by decide) (by decide) (by decide) (fun A outer s H E hr hG => ?_) hG hst hef tb hcode (by rw [mem]; exact List.mem_cons_self) (fun p hp _ => by rw [mem] at hp; simp at hp; rw [hp]) hr L hdef hbind hbody
    (fun c hc => sE c hc) hg (by decide) ha hsl hpl
  exact ev_and (ev_eq hr (evO_val (ev_index (evO_var rfl (.inl rfl) (by decide) (by decide)) (evO_val ev_int) (fun _ _ => rfl))) (evO_var rfl (.inl rfl) (by decide) (by decide)) (nobehind _ (by decide) (by decide)))
    (ev_one (ev_eq hr (evO_val (ev_repr hr hG rfl n2 (evO_val (ev_index (evO_var rfl (.inl rfl) (by decide) (by decide)) (evO_val ev_int) (fun _ _ => rfl))) (by rfl) (by rfl))) (evO_val (ev_repr hr hG rfl n2 (evO_var rfl (.inl rfl) (by decide) (by decide)) (by rfl) (by rfl))) (nobehind _ (by decide) (by decide))))
end
end K79
end

section
set_option Elab.async false
set_option linter.all false
set_option maxRecDepth 100000
set_option maxHeartbeats 4000000
/-! Mk79: the def that marks. -/
namespace K79
open PySem PySem.Spec PyProof.Rows L2 LamX EV
def N2_mark : M Bool := nAnd (asB (mP2 pNe (mSlot 0) (mVal (mLst mNil)))) (asB (mP2 pEq (mVal (mP2 pIx (mSlot 0) (mVal (mNeg (mC (.int 1)))))) (mVal (mC (.str "marked")))))
abbrev N_mark : List Str := ["told", "kept", "item"]
section
variable {P : Program} {w : World} {K : PySem.W.Frag} {mg : Str → Option Value} {base : Heap} {ec : EC}
theorem gd_mk {x : Str} {st : Stmt} {f : Addr} {fd : FuncData} {ps : List Str} {k : Nat} {sp : Sp} (Fu : Fun K x x st f fd) (hm : mg x = some (.ref f)) (Fo : FnG P w K mg base k f fd ps sp)
    (h1 : ∀ (kV doc pm : Value) (an : Option Addr) (cdv ct : Value) (us : List Value), us.length = ps.length → bindArgs (PySem.W.fnOf x x (defArgs st) (defBody st) (defScope st) .none kV doc pm an cdv ct) ⟨us, []⟩ = pure (ps.zip us))
    (h2 : ∀ (kV doc pm : Value) (an : Option Addr) (cdv ct : Value) (us : List Value), us.length = ps.length → bindArgs (PySem.W.fnOf x x (defArgs st) (defBody st) (defScope st) .none kV doc pm an cdv ct) ⟨[], ps.zip us⟩ = pure (ps.zip us)) : GD P w K mg base x k ps sp := by
  refine ⟨f, fd, Fo, hm, Fu.kp, Fu.binds h1, ?_⟩
  obtain ⟨oc, od, kV, doc, pm, an, cdv, ct, osl, rfl, lk, hcd⟩ := Fu.ex
  exact fun s ws _ hl => .of_eq (h2 kV doc pm an cdv ct ws hl)
theorem sc_mark : FnScope N_mark ["told"] (defScope (top 40)) := ⟨rfl, rfl, rfl, by decide +kernel, rfl, by decide +kernel, by decide +kernel⟩
theorem mark_zero {f : Addr} {fd : FuncData} (Fu : Fun K "_law_marked" "_law_marked" (top 40) f fd) (hm : mg "_law_marked" = some (.ref f)) : GD P w K mg base "_law_marked" 1 ["told"] (spK ec N2_mark 0) :=
  gd_mk Fu hm ⟨fun vs H Q E ⟨_, _, _, _, _, _, _, h, _⟩ => absurd h (Nat.not_lt_zero _), fun _ _ _ _ _ _ vs _ _ _ _ _ _ _ ⟨_, _, _, _, _, _, _, h, _⟩ => absurd h (Nat.not_lt_zero _)⟩
    (fun _ _ _ _ _ _ us hl => match us, hl with | [_], _ => rfl) (fun _ _ _ _ _ _ us hl => match us, hl with | [_], _ => rfl)
theorem ok_mark {k n : Nat} {f : Addr} {fd : FuncData} (Fu : Fun K "_law_marked" "_law_marked" (top 40) f fd) (hm : mg "_law_marked" = some (.ref f)) (hbn : ∀ x ∈ bns, mg x = none) (G : GD P w K mg base "_law_marked" k ["told"] (spK ec N2_mark n)) :
    GD P w K mg base "_law_marked" (k + 1) ["told"] (spK ec N2_mark (n + 1)) := by
  have nd : (N_mark : List Str).Nodup := sc_mark.nd
  obtain ⟨f0, fd0, Fo, hm0, hk0, hb0, _⟩ := G.at_
  have len : ∀ vs H Q E, spK ec N2_mark (n + 1) vs H Q E → vs.length = (["told"] : List Str).length := fun vs H Q E ⟨_, _, _, e, _⟩ => by rw [e]; rfl
  refine gd_mk Fu hm ?_ (fun _ _ _ _ _ _ us hl => match us, hl with | [_], _ => rfl) (fun _ _ _ _ _ _ us hl => match us, hl with | [_], _ => rfl)
  obtain ⟨oc, od, kV, doc, pm, an, cdv, ct, osl, rfl, lk, hcd⟩ := Fu.ex
  refine ⟨len, fun A outer s H args us vs Q E hr hG e0 hbt rv h => LamX.run_ofS lk hcd sc_mark hr e0 hbt rv (len _ _ _ _ h) fun hr' => ?_⟩
  obtain ⟨d, v, L, rfl, tb, mk, ok, dp, fin⟩ := h
  have hr0 := hr'.mono (Nat.zero_le _)
  have hu : (A.deeper (envOfC "_law_marked" (defScope (top 40)) s.heap.objs.size f cdv)).units + 65 < cLine := by
    have := hr0.un
    omega
  refine ⟨tMk K ec E N2_mark n E0', ?_, tMk_ok (W := E) (E := E0') tb mk ok dp fin⟩
  exact pss_cons (ps_if (evT_val (ev_isi kt_list rfl (hbn "isinstance" (by decide)) bb_isinstance rfl (hbn "list" (by decide)) bb_list (by decide) (by decide) (evO_var (i := 0) rfl (by first | exact .inl rfl | exact .inr (.inl rfl) | exact .inr (.inr rfl)) (by decide) (by decide)) (by rfl) (by rfl) (by rfl)) (fun _ => rfl))
      (pss_cons (ps_if (evT_w (evW_and (evT_ne hr0 (evO_var (i := 0) rfl (by first | exact .inl rfl | exact .inr (.inl rfl) | exact .inr (.inr rfl)) (by decide) (by decide)) (evO_val (ev_fz (evN_lst evA_nil))) (by first | rfl | exact nobehind _ (by decide) (by decide)))
          (evW_and1 (evT_eq hr0 (evO_val (ev_index (evO_var (i := 0) rfl (by first | exact .inl rfl | exact .inr (.inl rfl) | exact .inr (.inr rfl)) (by decide) (by decide)) (evO_val (ev_neg ev_int)) (fun _ _ => rfl))) (evO_val ev_str) (by first | rfl | exact nobehind _ (by decide) (by decide)))))) (pss_one (ps_ret pe_bl)) pss_nil)
      (pss_cons (ps_setLc (i := 1) (own := [("item", 2)]) (g := gName 2) (tt := tYes) rfl nd rfl rfl (by rfl) (pi_list (pe_var (i := 0) rfl (by first | exact .inl rfl | exact .inr (.inl rfl) | exact .inr (.inr rfl)) (by decide) (by decide))) (blkOk_by (by rfl)) (fun _ _ _ _ _ => pg_name (i := 2) nd rfl (by first | exact .inl rfl | exact .inr rfl) (by first | exact .inl rfl | exact .inr rfl)) (fun _ _ _ _ _ => pts_nil)
          (fun _ _ _ _ _ => pe_callG Fo hr' hG rfl hm0 hk0 hb0 (passB rfl) (pa_cons (pe_var (i := 2) rfl (by first | exact .inl rfl | exact .inr (.inl rfl) | exact .inr (.inr rfl)) (by decide) (by decide)) pa_nil (by rfl)) (by decide) (by rfl) (by rfl)))
      (pss_cons (ps_expr (pe_bm PySem.F.plainAttrs_list PySem.F.slot_list_append PySem.F.type_list_append mt_append (pe_var (i := 0) rfl (by first | exact .inl rfl | exact .inr (.inl rfl) | exact .inr (.inr rfl)) (by decide) (by decide)) (pa_cons pe_str pa_nil)))
      (pss_one (ps_ret (pe_cmpR (op_notInD hu) pe_bl (pe_var (i := 1) rfl (by first | exact .inl rfl | exact .inr (.inl rfl) | exact .inr (.inr rfl)) (by decide) (by decide)) (by first | rfl | exact nobehind _ (by decide) (by decide)))))))) pss_nil)
    (pss_cons (ps_if (evT_val (ev_isi kt_tuple rfl (hbn "isinstance" (by decide)) bb_isinstance rfl (hbn "tuple" (by decide)) bb_tuple (by decide) (by decide) (evO_var (i := 0) rfl (by first | exact .inl rfl | exact .inr (.inl rfl) | exact .inr (.inr rfl)) (by decide) (by decide)) (by rfl) (by rfl) (by rfl)) (fun _ => rfl))
      (pss_one (ps_ret (pe_cmpR (op_notInD hu) pe_bl (pe_lc (own := [("item", 2)]) (g := gName 2) (tt := tYes) rfl nd (pi_tup (pe_var (i := 0) rfl (by first | exact .inl rfl | exact .inr (.inl rfl) | exact .inr (.inr rfl)) (by decide) (by decide))) (blkOk_by (by rfl)) (fun _ _ _ _ _ => pg_name (i := 2) nd rfl (by first | exact .inl rfl | exact .inr rfl) (by first | exact .inl rfl | exact .inr rfl)) (fun _ _ _ _ _ => pts_nil)
          (fun _ _ _ _ _ => pe_callG Fo hr' hG rfl hm0 hk0 hb0 (passB rfl) (pa_cons (pe_var (i := 2) rfl (by first | exact .inl rfl | exact .inr (.inl rfl) | exact .inr (.inr rfl)) (by decide) (by decide)) pa_nil (by rfl)) (by decide) (by rfl) (by rfl))) (by first | rfl | exact nobehind _ (by decide) (by decide))))) pss_nil)
    (pss_one (ps_ret pe_bl)))
end
end K79
end

section
set_option Elab.async false
set_option linter.all false
set_option maxRecDepth 100000
/-! M79: the meanings of the defs of k79 (printed by wip/gen.py). -/
namespace K79
open PySem PySem.Spec PyProof.Rows L2 EV
def D_DEEPEST : PyData := .int 4
def D_ORDERS : PyData := .list [.str "on", .str "turns", .str "winner", .str "loser"]

/-! ### is_whole -/
abbrev N_is_whole : List Str := ["value"]
abbrev P_is_whole : List Str := ["value"]
def m_is_whole : MS := (sRet (mAnd (mIsi "int" (mSlot 0)) (mNot (mIsi "bool" (mSlot 0)))))
def F_is_whole : List PyData → Option (Except Xn PyData) := runP 1 1 m_is_whole
theorem len_is_whole : ∀ ds r, F_is_whole ds = some r → ds.length = 1 := fun _ _ h => runP_len h
/-! ### is_count -/
abbrev N_is_count : List Str := ["value"]
abbrev P_is_count : List Str := ["value"]
def m_is_count : MS := (sRet (mAnd (mCall F_is_whole (mCons (mVal (mVar 0)) mNil)) (mP2 pGe (mSlot 0) (mVal (mC (.int 0))))))
def F_is_count : List PyData → Option (Except Xn PyData) := runP 1 1 m_is_count
theorem len_is_count : ∀ ds r, F_is_count ds = some r → ds.length = 1 := fun _ _ h => runP_len h
/-! ### is_between -/
abbrev N_is_between : List Str := ["value", "low", "high"]
abbrev P_is_between : List Str := ["value", "low", "high"]
def m_is_between : MS := (sRet (mAnd (mCall F_is_whole (mCons (mVal (mVar 0)) mNil)) (mChain pLe pLe (mSlot 1) (mSlot 0) (mSlot 2))))
def F_is_between : List PyData → Option (Except Xn PyData) := runP 3 3 m_is_between
theorem len_is_between : ∀ ds r, F_is_between ds = some r → ds.length = 3 := fun _ _ h => runP_len h
/-! ### is_side -/
abbrev N_is_side : List Str := ["value"]
abbrev P_is_side : List Str := ["value"]
def m_is_side : MS := (sRet (mCall F_is_between (mCons (mVal (mVar 0)) (mCons (mVal (mC (.int 0))) (mCons (mVal (mC (.int 1))) mNil)))))
def F_is_side : List PyData → Option (Except Xn PyData) := runP 1 1 m_is_side
theorem len_is_side : ∀ ds r, F_is_side ds = some r → ds.length = 1 := fun _ _ h => runP_len h
/-! ### are_rallies -/
abbrev N_are_rallies : List Str := ["value", "side"]
abbrev P_are_rallies : List Str := ["value"]
def m_are_rallies : MS := (sRet (mAnd (mIsi "list" (mSlot 0)) (mP2 pEq (mVal (mLc [1] (asL (mVar 0)) (gN 1) (nNot (asB (mCall F_is_side (mCons (mVal (mVar 1)) mNil)))) (mVar 1))) (mVal (mLst mNil)))))
def F_are_rallies : List PyData → Option (Except Xn PyData) := runP 1 2 m_are_rallies
theorem len_are_rallies : ∀ ds r, F_are_rallies ds = some r → ds.length = 1 := fun _ _ h => runP_len h
/-! ### is_word -/
abbrev N_is_word : List Str := ["value", "word"]
abbrev P_is_word : List Str := ["value", "word"]
def m_is_word : MS := (sRet (mAnd (mIsi "tuple" (mSlot 0)) (mAnd (mP2 pEq (mVal (mPN pLen (A1 (mSlot 0)))) (mVal (mC (.int 1)))) (mAnd (mIsi "str" (mVal (mP2 pIx (mSlot 0) (mVal (mC (.int 0)))))) (mP2 pEq (mVal (mP2 pIx (mSlot 0) (mVal (mC (.int 0))))) (mSlot 1))))))
def F_is_word : List PyData → Option (Except Xn PyData) := runP 2 2 m_is_word
theorem len_is_word : ∀ ds r, F_is_word ds = some r → ds.length = 2 := fun _ _ h => runP_len h
/-! ### is_order -/
abbrev N_is_order : List Str := ["value", "word", "mark"]
abbrev P_is_order : List Str := ["value"]
def m_is_order : MS := (sSeq (mIf (asB (mP2 pNe (mVal (mLc [1] (asL (mC D_ORDERS)) (gN 1) (asB (mCall F_is_word (mCons (mVal (mVar 0)) (mCons (mVal (mVar 1)) mNil)))) (mVar 1))) (mVal (mLst mNil)))) (sRet (mC (.bool true))) (M.pure .nx)) (sSeq (mIf (nOr (nNot (asB (mIsi "tuple" (mSlot 0)))) (nOr (asB (mP2 pNe (mVal (mPN pLen (A1 (mSlot 0)))) (mVal (mC (.int 2))))) (nOr (nNot (asB (mIsi "str" (mVal (mP2 pIx (mSlot 0) (mVal (mC (.int 0)))))))) (asB (mP2 pNe (mVal (mP2 pIx (mSlot 0) (mVal (mC (.int 0))))) (mVal (mC (.str "row")))))))) (sRet (mC (.bool false))) (M.pure .nx)) (sSeq (mIf (nOr (nNot (asB (mIsi "list" (mVal (mP2 pIx (mSlot 0) (mVal (mC (.int 1)))))))) (nNot (asB (mChain pLe pLe (mVal (mC (.int 1))) (mVal (mPN pLen (A1 (mVal (mP2 pIx (mSlot 0) (mVal (mC (.int 1)))))))) (mVal (mC (.int 8))))))) (sRet (mC (.bool false))) (M.pure .nx)) (sRet (mP2 pEq (mVal (mLc [2] (asL (mP2 pIx (mSlot 0) (mVal (mC (.int 1))))) (gN 2) (nNot (asB (mCall F_is_side (mCons (mVal (mVar 2)) mNil)))) (mVar 2))) (mVal (mLst mNil)))))))
def F_is_order : List PyData → Option (Except Xn PyData) := runP 1 3 m_is_order
theorem len_is_order : ∀ ds r, F_is_order ds = some r → ds.length = 1 := fun _ _ h => runP_len h
/-! ### are_numbers_of_race -/
abbrev N_are_numbers_of_race : List Str := ["need", "lead", "cap"]
abbrev P_are_numbers_of_race : List Str := ["need", "lead", "cap"]
def m_are_numbers_of_race : MS := (sSeq (mIf (nOr (nNot (asB (mCall F_is_between (mCons (mVal (mVar 0)) (mCons (mVal (mC (.int 1))) (mCons (mVal (mC (.int 30))) mNil)))))) (nNot (asB (mCall F_is_between (mCons (mVal (mVar 1)) (mCons (mVal (mC (.int 1))) (mCons (mVal (mC (.int 3))) mNil))))))) (sRet (mC (.bool false))) (M.pure .nx)) (sRet (mOr (mP2 pIsN (mSlot 2) (mVal (mC .none))) (mCall F_is_between (mCons (mVal (mVar 2)) (mCons (mVal (mVar 0)) (mCons (mVal (mC (.int 40))) mNil)))))))
def F_are_numbers_of_race : List PyData → Option (Except Xn PyData) := runP 3 3 m_are_numbers_of_race
theorem len_are_numbers_of_race : ∀ ds r, F_are_numbers_of_race ds = some r → ds.length = 3 := fun _ _ h => runP_len h
/-! ### is_score -/
abbrev N_is_score : List Str := ["value"]
abbrev P_is_score : List Str := ["value"]
def m_is_score : MS := (sRet (mAnd (mIsi "tuple" (mSlot 0)) (mAnd (mP2 pEq (mVal (mPN pLen (A1 (mSlot 0)))) (mVal (mC (.int 2)))) (mAnd (mCall F_is_count (mCons (mVal (mP2 pIx (mSlot 0) (mVal (mC (.int 0))))) mNil)) (mCall F_is_count (mCons (mVal (mP2 pIx (mSlot 0) (mVal (mC (.int 1))))) mNil))))))
def F_is_score : List PyData → Option (Except Xn PyData) := runP 1 1 m_is_score
theorem len_is_score : ∀ ds r, F_is_score ds = some r → ds.length = 1 := fun _ _ h => runP_len h
/-! ### is_special -/
abbrev N_is_special : List Str := ["value", "deep"]
abbrev P_is_special : List Str := ["value", "deep"]
def m_is_special (F_is_rule_within : List PyData → Option (Except Xn PyData)) : MS := (sSeq (mIf (nOr (nNot (asB (mIsi "tuple" (mSlot 0)))) (nOr (asB (mP2 pNe (mVal (mPN pLen (A1 (mSlot 0)))) (mVal (mC (.int 2))))) (nOr (nNot (asB (mCall F_is_score (mCons (mVal (mP2 pIx (mSlot 0) (mVal (mC (.int 0))))) mNil)))) (asB (mP2 pGt (mVal (mPN pMaxT (A1 (mVal (mP2 pIx (mSlot 0) (mVal (mC (.int 0)))))))) (mVal (mC (.int 40)))))))) (sRet (mC (.bool false))) (M.pure .nx)) (sRet (mCall F_is_rule_within (mCons (mVal (mP2 pIx (mSlot 0) (mVal (mC (.int 1))))) (mCons (mVal (mVar 1)) mNil)))))
/-! ### are_specials -/
abbrev N_are_specials : List Str := ["value", "deep", "one", "at"]
abbrev P_are_specials : List Str := ["value", "deep"]
def m_are_specials (F_is_special : List PyData → Option (Except Xn PyData)) : MS := (sSeq (mIf (nOr (nNot (asB (mIsi "list" (mSlot 0)))) (nOr (asB (mP2 pGt (mVal (mPN pLen (A1 (mSlot 0)))) (mVal (mC (.int 8))))) (asB (mP2 pNe (mVal (mLc [2] (asL (mVar 0)) (gN 2) (nNot (asB (mCall F_is_special (mCons (mVal (mVar 2)) (mCons (mVal (mVar 1)) mNil))))) (mVar 2))) (mVal (mLst mNil)))))) (sRet (mC (.bool false))) (M.pure .nx)) (sRet (mP2 pEq (mVal (mLc [3] (mRng2 (mCons (mVal (mC (.int 1))) (mCons (mVal (mPN pLen (A1 (mSlot 0)))) mNil))) (gN 3) (asB (mP2 pGe (mVal (mP2 pIx (mVal (mP2 pIx (mSlot 0) (mVal (mP2 pSub (mSlot 3) (mVal (mC (.int 1))))))) (mVal (mC (.int 0))))) (mVal (mP2 pIx (mVal (mP2 pIx (mSlot 0) (mSlot 3))) (mVal (mC (.int 0))))))) (mVar 3))) (mVal (mLst mNil)))))
/-! ### is_rule_within -/
abbrev N_is_rule_within : List Str := ["value", "deep", "word", "need", "lead", "cap", "order", "unit", "specials"]
abbrev P_is_rule_within : List Str := ["value", "deep"]
def m_is_rule_within (F_is_rule_within : List PyData → Option (Except Xn PyData)) (F_are_specials : List PyData → Option (Except Xn PyData)) : MS := (sSeq (mIf (nOr (asB (mCall F_is_word (mCons (mVal (mVar 0)) (mCons (mVal (mC (.str "rally"))) mNil)))) (asB (mCall F_is_word (mCons (mVal (mVar 0)) (mCons (mVal (mC (.str "hand"))) mNil))))) (sRet (mC (.bool true))) (M.pure .nx)) (sSeq (mIf (nOr (asB (mP2 pEq (mSlot 1) (mVal (mC (.int 0))))) (nOr (nNot (asB (mIsi "tuple" (mSlot 0)))) (nOr (asB (mP2 pNe (mVal (mPN pLen (A1 (mSlot 0)))) (mVal (mC (.int 7))))) (nNot (asB (mIsi "str" (mVal (mP2 pIx (mSlot 0) (mVal (mC (.int 0))))))))))) (sRet (mC (.bool false))) (M.pure .nx)) (sSeq (sAsg (mVar 0) (gT 7 (gsCons (gN 2) (gsCons (gN 3) (gsCons (gN 4) (gsCons (gN 5) (gsCons (gN 6) (gsCons (gN 7) (gsCons (gN 8) gsNil))))))))) (sSeq (mIf (nOr (asB (mP2 pNe (mSlot 2) (mVal (mC (.str "race"))))) (nOr (nNot (asB (mCall F_are_numbers_of_race (mCons (mVal (mVar 3)) (mCons (mVal (mVar 4)) (mCons (mVal (mVar 5)) mNil)))))) (nNot (asB (mCall F_is_order (mCons (mVal (mVar 6)) mNil)))))) (sRet (mC (.bool false))) (M.pure .nx)) (sRet (mAnd (mCall F_is_rule_within (mCons (mVal (mVar 7)) (mCons (mVal (mP2 pSub (mSlot 1) (mVal (mC (.int 1))))) mNil))) (mCall F_are_specials (mCons (mVal (mVar 8)) (mCons (mVal (mP2 pSub (mSlot 1) (mVal (mC (.int 1))))) mNil)))))))))
def F_is_rule_within : Nat → List PyData → Option (Except Xn PyData)
  | 0 => fun _ => none
  | n + 1 => runP 2 9 (m_is_rule_within (F_is_rule_within n) (runP 2 4 (m_are_specials (runP 2 2 (m_is_special (F_is_rule_within n))))))
def F_is_special (n : Nat) : List PyData → Option (Except Xn PyData) := runP 2 2 (m_is_special (F_is_rule_within n))
def F_are_specials (n : Nat) : List PyData → Option (Except Xn PyData) := runP 2 4 (m_are_specials (F_is_special n))
theorem len_is_rule_within : ∀ (n : Nat) ds r, F_is_rule_within n ds = some r → ds.length = 2
  | 0, _, _, h => by cases h
  | n + 1, _, _, h => runP_len h
theorem len_is_special : ∀ (n : Nat) ds r, F_is_special n ds = some r → ds.length = 2 := fun _ _ _ h => runP_len h
theorem len_are_specials : ∀ (n : Nat) ds r, F_are_specials n ds = some r → ds.length = 2 := fun _ _ _ h => runP_len h
/-! ### is_rule -/
abbrev N_is_rule : List Str := ["value"]
abbrev P_is_rule : List Str := ["value"]
def m_is_rule : MS := (sRet (mCall (F_is_rule_within 5) (mCons (mVal (mVar 0)) (mCons (mVal (mC D_DEEPEST)) mNil))))
def F_is_rule : List PyData → Option (Except Xn PyData) := runP 1 1 m_is_rule
theorem len_is_rule : ∀ ds r, F_is_rule ds = some r → ds.length = 1 := fun _ _ h => runP_len h
/-! ### check_rule -/
abbrev N_check_rule : List Str := ["rule"]
abbrev P_check_rule : List Str := ["rule"]
def m_check_rule : MS := (mIf (nNot (asB (mCall F_is_rule (mCons (mVal (mVar 0)) mNil)))) (sRaise 3 (mVar 0)) (M.pure .nx))
def F_check_rule : List PyData → Option (Except Xn PyData) := runP 1 1 m_check_rule
theorem len_check_rule : ∀ ds r, F_check_rule ds = some r → ds.length = 1 := fun _ _ h => runP_len h
/-! ### unit_of -/
abbrev N_unit_of : List Str := ["rule", "score", "place", "special"]
abbrev P_unit_of : List Str := ["rule", "score"]
def m_unit_of : MS := (sSeq (sFor (asL (mP2 pIx (mSlot 0) (mVal (mC (.int 6))))) (gT 2 (gsCons (gN 2) (gsCons (gN 3) gsNil))) (mIf (asB (mP2 pEq (mSlot 2) (mSlot 1))) (sRet (mVar 3)) (M.pure .nx))) (sRet (mP2 pIx (mSlot 0) (mVal (mC (.int 5))))))
def F_unit_of : List PyData → Option (Except Xn PyData) := runP 2 4 m_unit_of
theorem len_unit_of : ∀ ds r, F_unit_of ds = some r → ds.length = 2 := fun _ _ h => runP_len h
/-! ### begun -/
abbrev N_begun : List Str := ["rule", "side", "turn"]
abbrev P_begun : List Str := ["rule", "side"]
def m_begun (F_begun : List PyData → Option (Except Xn PyData)) : MS := (sSeq (mIf (asB (mP2 pNe (mVal (mP2 pIx (mSlot 0) (mVal (mC (.int 0))))) (mVal (mC (.str "race"))))) (sRet (mTup (mCons (mVal (mVar 1)) mNil))) (M.pure .nx)) (sSeq (sAsg (mVar 1) (gN 2)) (sSeq (mIf (nAnd (asB (mP2 pEq (mVal (mP2 pIx (mVal (mP2 pIx (mSlot 0) (mVal (mC (.int 4))))) (mVal (mC (.int 0))))) (mVal (mC (.str "row"))))) (asB (mP2 pEq (mVal (mP2 pIx (mVal (mP2 pIx (mVal (mP2 pIx (mSlot 0) (mVal (mC (.int 4))))) (mVal (mC (.int 1))))) (mVal (mC (.int 0))))) (mVal (mC (.int 1)))))) (sAsg (mP2 pSub (mVal (mC (.int 1))) (mSlot 1)) (gN 2)) (M.pure .nx)) (sRet (mTup (mCons (mVal (mC (.int 0))) (mCons (mVal (mC (.int 0))) (mCons (mVal (mVar 1)) (mCons (mVal (mVar 2)) (mCons (mVal (mCall F_begun (mCons (mVal (mCall F_unit_of (mCons (mVal (mVar 0)) (mCons (mVal (mTup (mCons (mVal (mC (.int 0))) (mCons (mVal (mC (.int 0))) mNil)))) mNil)))) (mCons (mVal (mVar 2)) mNil)))) mNil))))))))))
def F_begun : Nat → List PyData → Option (Except Xn PyData)
  | 0 => fun _ => none
  | n + 1 => runP 2 3 (m_begun (F_begun n))
theorem len_begun : ∀ (n : Nat) ds r, F_begun n ds = some r → ds.length = 2
  | 0, _, _, h => by cases h
  | n + 1, _, _, h => runP_len h
/-! ### is_won -/
abbrev N_is_won : List Str := ["rule", "score", "need", "lead", "cap"]
abbrev P_is_won : List Str := ["rule", "score"]
def m_is_won : MS := (sSeq (sAsg (mSl (mSlot 0) (mPart (mC (.int 1))) (mPart (mC (.int 4)))) (gT 3 (gsCons (gN 2) (gsCons (gN 3) (gsCons (gN 4) gsNil))))) (sSeq (mIf (nAnd (asB (mP2 pNotN (mSlot 4) (mVal (mC .none)))) (asB (mP2 pGe (mVal (mPN pMaxT (A1 (mSlot 1)))) (mSlot 4)))) (sRet (mC (.bool true))) (M.pure .nx)) (sRet (mAnd (mP2 pGe (mVal (mPN pMaxT (A1 (mSlot 1)))) (mSlot 2)) (mP2 pGe (mVal (mPN pAbs (A1 (mVal (mP2 pSub (mVal (mP2 pIx (mSlot 1) (mVal (mC (.int 0))))) (mVal (mP2 pIx (mSlot 1) (mVal (mC (.int 1)))))))))) (mSlot 3))))))
def F_is_won : List PyData → Option (Except Xn PyData) := runP 2 5 m_is_won
theorem len_is_won : ∀ ds r, F_is_won ds = some r → ds.length = 2 := fun _ _ h => runP_len h
/-! ### next_turn -/
abbrev N_next_turn : List Str := ["rule", "state", "score", "winner", "hands", "word", "marks"]
abbrev P_next_turn : List Str := ["rule", "state", "score", "winner", "hands"]
def m_next_turn : MS := (sSeq (sAsg (mP2 pIx (mVal (mP2 pIx (mSlot 0) (mVal (mC (.int 4))))) (mVal (mC (.int 0)))) (gN 5)) (sSeq (mIf (asB (mP2 pEq (mSlot 5) (mVal (mC (.str "on"))))) (sRet (mVar 4)) (M.pure .nx)) (sSeq (mIf (asB (mP2 pEq (mSlot 5) (mVal (mC (.str "turns"))))) (sRet (mP2 pSub (mVal (mC (.int 1))) (mVal (mP2 pIx (mSlot 1) (mVal (mC (.int 3))))))) (M.pure .nx)) (sSeq (mIf (asB (mP2 pEq (mSlot 5) (mVal (mC (.str "winner"))))) (sRet (mVar 3)) (M.pure .nx)) (sSeq (mIf (asB (mP2 pEq (mSlot 5) (mVal (mC (.str "loser"))))) (sRet (mP2 pSub (mVal (mC (.int 1))) (mSlot 3))) (M.pure .nx)) (sSeq (sAsg (mP2 pIx (mVal (mP2 pIx (mSlot 0) (mVal (mC (.int 4))))) (mVal (mC (.int 1)))) (gN 6)) (sRet (mIf (asB (mP2 pEq (mVal (mP2 pIx (mSlot 6) (mVal (mP2 pMod (mVal (mPN pSumT (A1 (mSlot 2)))) (mVal (mPN pLen (A1 (mSlot 6)))))))) (mVal (mC (.int 0))))) (mP2 pIx (mSlot 1) (mVal (mC (.int 2)))) (mP2 pSub (mVal (mC (.int 1))) (mVal (mP2 pIx (mSlot 1) (mVal (mC (.int 2))))))))))))))
def F_next_turn : List PyData → Option (Except Xn PyData) := runP 5 7 m_next_turn
theorem len_next_turn : ∀ ds r, F_next_turn ds = some r → ds.length = 5 := fun _ _ h => runP_len h
/-! ### led_race -/
abbrev N_led_race : List Str := ["rule", "state", "side", "score", "inner", "winner", "hands", "turn"]
abbrev P_led_race : List Str := ["rule", "state", "side"]
def m_led_race (F_led : List PyData → Option (Except Xn PyData)) : MS := (sSeq (sAsg (mSl (mSlot 1) (M.pure none) (mPart (mC (.int 2)))) (gN 3)) (sSeq (sAsg (mCall F_led (mCons (mVal (mCall F_unit_of (mCons (mVal (mVar 0)) (mCons (mVal (mVar 3)) mNil)))) (mCons (mVal (mP2 pIx (mSlot 1) (mVal (mC (.int 4))))) (mCons (mVal (mVar 2)) mNil)))) (gT 3 (gsCons (gN 4) (gsCons (gN 5) (gsCons (gN 6) gsNil))))) (sSeq (mIf (asB (mP2 pNotN (mSlot 4) (mVal (mC .none)))) (sRet (mTup (mCons (mVal (mP2 pAdd (mVal (mSl (mSlot 1) (M.pure none) (mPart (mC (.int 4))))) (mVal (mTup (mCons (mVal (mVar 4)) mNil))))) (mCons (mVal (mC .none)) (mCons (mVal (mC .none)) mNil))))) (M.pure .nx)) (sSeq (sAsg (mTup (mCons (mVal (mP2 pSub (mVal (mP2 pAdd (mVal (mP2 pIx (mSlot 3) (mVal (mC (.int 0))))) (mVal (mC (.int 1))))) (mSlot 5))) (mCons (mVal (mP2 pAdd (mVal (mP2 pIx (mSlot 3) (mVal (mC (.int 1))))) (mSlot 5))) mNil))) (gN 3)) (sSeq (sAsg (mCall F_next_turn (mCons (mVal (mVar 0)) (mCons (mVal (mVar 1)) (mCons (mVal (mVar 3)) (mCons (mVal (mVar 5)) (mCons (mVal (mVar 6)) mNil)))))) (gN 7)) (sSeq (mIf (asB (mCall F_is_won (mCons (mVal (mVar 0)) (mCons (mVal (mVar 3)) mNil)))) (sRet (mTup (mCons (mVal (mC .none)) (mCons (mVal (mIf (asB (mP2 pGt (mVal (mP2 pIx (mSlot 3) (mVal (mC (.int 0))))) (mVal (mP2 pIx (mSlot 3) (mVal (mC (.int 1))))))) (mC (.int 0)) (mC (.int 1)))) (mCons (mVal (mVar 7)) mNil))))) (M.pure .nx)) (sRet (mTup (mCons (mVal (mP2 pAdd (mSlot 3) (mVal (mTup (mCons (mVal (mP2 pIx (mSlot 1) (mVal (mC (.int 2))))) (mCons (mVal (mVar 7)) (mCons (mVal (mCall (F_begun 5) (mCons (mVal (mCall F_unit_of (mCons (mVal (mVar 0)) (mCons (mVal (mVar 3)) mNil)))) (mCons (mVal (mVar 7)) mNil)))) mNil))))))) (mCons (mVal (mC .none)) (mCons (mVal (mC .none)) mNil)))))))))))
/-! ### led -/
abbrev N_led : List Str := ["rule", "state", "side"]
abbrev P_led : List Str := ["rule", "state", "side"]
def m_led (F_led_race : List PyData → Option (Except Xn PyData)) : MS := (sSeq (mIf (asB (mP2 pEq (mVal (mP2 pIx (mSlot 0) (mVal (mC (.int 0))))) (mVal (mC (.str "race"))))) (sRet (mCall F_led_race (mCons (mVal (mVar 0)) (mCons (mVal (mVar 1)) (mCons (mVal (mVar 2)) mNil))))) (M.pure .nx)) (sSeq (mIf (nAnd (asB (mP2 pEq (mVal (mP2 pIx (mSlot 0) (mVal (mC (.int 0))))) (mVal (mC (.str "hand"))))) (asB (mP2 pNe (mSlot 2) (mVal (mP2 pIx (mSlot 1) (mVal (mC (.int 0)))))))) (sRet (mTup (mCons (mVal (mTup (mCons (mVal (mVar 2)) mNil))) (mCons (mVal (mC .none)) (mCons (mVal (mC .none)) mNil))))) (M.pure .nx)) (sRet (mTup (mCons (mVal (mC .none)) (mCons (mVal (mVar 2)) (mCons (mVal (mP2 pIx (mSlot 1) (mVal (mC (.int 0))))) mNil)))))))
def F_led : Nat → List PyData → Option (Except Xn PyData)
  | 0 => fun _ => none
  | n + 1 => runP 3 3 (m_led (runP 3 8 (m_led_race (F_led n))))
def F_led_race (n : Nat) : List PyData → Option (Except Xn PyData) := runP 3 8 (m_led_race (F_led n))
theorem len_led : ∀ (n : Nat) ds r, F_led n ds = some r → ds.length = 3
  | 0, _, _, h => by cases h
  | n + 1, _, _, h => runP_len h
theorem len_led_race : ∀ (n : Nat) ds r, F_led_race n ds = some r → ds.length = 3 := fun _ _ _ h => runP_len h
/-! ### led_by -/
abbrev N_led_by : List Str := ["rule", "first", "rallies", "state", "at", "side", "winner", "hands"]
abbrev P_led_by : List Str := ["rule", "first", "rallies"]
def m_led_by : MS := (sSeq (sAsg (mCall (F_begun 5) (mCons (mVal (mVar 0)) (mCons (mVal (mVar 1)) mNil))) (gN 3)) (sSeq (sFor (mEnum (mVar 2)) (gT 2 (gsCons (gN 4) (gsCons (gN 5) gsNil))) (sSeq (sAsg (mCall (F_led 5) (mCons (mVal (mVar 0)) (mCons (mVal (mVar 3)) (mCons (mVal (mVar 5)) mNil)))) (gT 3 (gsCons (gN 3) (gsCons (gN 6) (gsCons (gN 7) gsNil))))) (mIf (asB (mP2 pIsN (mSlot 3) (mVal (mC .none)))) (sRet (mTup (mCons (mVal (mC .none)) (mCons (mVal (mVar 6)) (mCons (mVal (mP2 pAdd (mSlot 4) (mVal (mC (.int 1))))) mNil))))) (M.pure .nx)))) (sRet (mTup (mCons (mVal (mVar 3)) (mCons (mVal (mC .none)) (mCons (mVal (mPN pLen (A1 (mSlot 2)))) mNil)))))))
def F_led_by : List PyData → Option (Except Xn PyData) := runP 3 8 m_led_by
theorem len_led_by : ∀ ds r, F_led_by ds = some r → ds.length = 3 := fun _ _ h => runP_len h
/-! ### is_match -/
abbrev N_is_match : List Str := ["teams", "value"]
abbrev P_is_match : List Str := ["teams", "value"]
def m_is_match : MS := (sSeq (mIf (nOr (nNot (asB (mIsi "tuple" (mSlot 1)))) (nOr (asB (mP2 pNe (mVal (mPN pLen (A1 (mSlot 1)))) (mVal (mC (.int 4))))) (nOr (nNot (asB (mCall F_is_count (mCons (mVal (mP2 pIx (mSlot 1) (mVal (mC (.int 0))))) mNil)))) (nNot (asB (mCall F_is_count (mCons (mVal (mP2 pIx (mSlot 1) (mVal (mC (.int 1))))) mNil))))))) (sRet (mC (.bool false))) (M.pure .nx)) (sSeq (mIf (nOr (asB (mP2 pGe (mVal (mP2 pIx (mSlot 1) (mVal (mC (.int 0))))) (mSlot 0))) (nOr (asB (mP2 pGe (mVal (mP2 pIx (mSlot 1) (mVal (mC (.int 1))))) (mSlot 0))) (asB (mP2 pEq (mVal (mP2 pIx (mSlot 1) (mVal (mC (.int 0))))) (mVal (mP2 pIx (mSlot 1) (mVal (mC (.int 1))))))))) (sRet (mC (.bool false))) (M.pure .nx)) (sRet (mAnd (mCall F_is_side (mCons (mVal (mP2 pIx (mSlot 1) (mVal (mC (.int 2))))) mNil)) (mCall F_are_rallies (mCons (mVal (mP2 pIx (mSlot 1) (mVal (mC (.int 3))))) mNil))))))
def F_is_match : List PyData → Option (Except Xn PyData) := runP 2 2 m_is_match
theorem len_is_match : ∀ ds r, F_is_match ds = some r → ds.length = 2 := fun _ _ h => runP_len h
/-! ### table_of -/
abbrev N_table_of : List Str := ["rule", "number", "matches", "wins", "left", "home", "guest", "first", "rallies", "state", "winner", "played", "match"]
abbrev P_table_of : List Str := ["rule", "number", "matches"]
def m_table_of : MS := (sSeqD (sExpr (mCall F_check_rule (mCons (mVal (mVar 0)) mNil))) (sSeqD (mIf (nNot (asB (mCall F_is_between (mCons (mVal (mVar 1)) (mCons (mVal (mC (.int 1))) (mCons (mVal (mC (.int 10))) mNil)))))) (sRaise 1 (mVar 1)) (M.pure .nx)) (sSeqD (mIf (nOr (nNot (asB (mIsi "list" (mSlot 2)))) (asB (mP2 pNe (mVal (mLc [12] (asL (mVar 2)) (gN 12) (nNot (asB (mCall F_is_match (mCons (mVal (mVar 1)) (mCons (mVal (mVar 12)) mNil))))) (mVar 12))) (mVal (mLst mNil))))) (sRaise 2 (mVar 2)) (M.pure .nx)) (sSeqD (sOwn (mRep (mLst (mCons (mVal (mC (.int 0))) mNil)) (mVar 1)) 3) (sSeqD (sOwn (mLst mNil) 4) (sSeqD (sFor (asL (mVar 2)) (gT 4 (gsCons (gN 5) (gsCons (gN 6) (gsCons (gN 7) (gsCons (gN 8) gsNil))))) (sSeq (sAsg (mCall F_led_by (mCons (mVal (mVar 0)) (mCons (mVal (mVar 7)) (mCons (mVal (mVar 8)) mNil)))) (gT 3 (gsCons (gN 9) (gsCons (gN 10) (gsCons (gN 11) gsNil))))) (sSeq (mIf (asB (mP2 pLt (mSlot 11) (mVal (mPN pLen (A1 (mSlot 8)))))) (sRaise 2 (mVar 2)) (M.pure .nx)) (mIf (asB (mP2 pIsN (mSlot 10) (mVal (mC .none)))) (sAppend 4 (mTup (mCons (mVal (mPN pMin2 (A2 (mSlot 5) (mSlot 6)))) (mCons (mVal (mPN pMax2 (A2 (mSlot 5) (mSlot 6)))) mNil)))) (sStore 3 (mP2 pAdd (mVal (mP2 pIx (mSlot 3) (mVal (mIf (asB (mP2 pEq (mSlot 10) (mVal (mC (.int 1))))) (mVar 6) (mVar 5))))) (mVal (mC (.int 1)))) (mIf (asB (mP2 pEq (mSlot 10) (mVal (mC (.int 1))))) (mVar 6) (mVar 5))))))) (sRetD 3 (mPN pSortP (A1 (mSlot 4))))))))))
def F_table_of : List PyData → Option (Except Xn PyData) := runP 3 13 m_table_of
theorem len_table_of : ∀ ds r, F_table_of ds = some r → ds.length = 3 := fun _ _ h => runP_len h
/-! ### _law_hash -/
abbrev N__law_hash : List Str := ["seed", "index", "mixed"]
abbrev P__law_hash : List Str := ["seed", "index"]
def m__law_hash : MS := (sSeq (sAsg (mP2 pMod (mVal (mPN pInt (A1 (mVal (mP2 pAdd (mVal (mP2 pAdd (mVal (mP2 pAdd (mVal (mP2 pMulI (mSlot 0) (mVal (mC (.int 1140671))))) (mVal (mP2 pMulI (mVal (mP2 pMulI (mVal (mC (.int 27644437))) (mSlot 1))) (mSlot 1))))) (mVal (mP2 pMulI (mVal (mC (.int 131))) (mSlot 1))))) (mVal (mC (.int 19)))))))) (mVal (mC (.int 2147483629)))) (gN 2)) (sSeq (sAsg (mP2 pMod (mVal (mPN pInt (A1 (mVal (mP2 pAdd (mVal (mP2 pAdd (mVal (mP2 pMulI (mSlot 2) (mSlot 2))) (mVal (mP2 pMulI (mVal (mC (.int 62089))) (mSlot 1))))) (mVal (mC (.int 32416187)))))))) (mVal (mC (.int 2147483587)))) (gN 2)) (sRet (mP2 pMod (mVal (mPN pInt (A1 (mVal (mP2 pMulI (mSlot 2) (mVal (mC (.int 48271)))))))) (mVal (mC (.int 2147483647)))))))
def F__law_hash : List PyData → Option (Except Xn PyData) := runP 2 3 m__law_hash
theorem len__law_hash : ∀ ds r, F__law_hash ds = some r → ds.length = 2 := fun _ _ h => runP_len h
/-! ### _law_random -/
abbrev N__law_random : List Str := ["generator", "bound", "drawn", "turn"]
abbrev P__law_random : List Str := ["generator", "bound"]
def m__law_random : MS := (sSeq (mIf (asB (mP2 pGt (mVal (mP2 pIx (mSlot 0) (mVal (mC (.int 0))))) (mVal (mC (.int 0))))) (sSeq (sAsg (mP2 pMod (mVal (mPN pInt (A1 (mVal (mP2 pIx (mSlot 0) (mVal (mC (.int 0)))))))) (mSlot 1)) (gN 2)) (sSeq (sStore 0 (mP2 pDiv (mVal (mP2 pIx (mSlot 0) (mVal (mC (.int 0))))) (mSlot 1)) (mC (.int 0))) (sRet (mVar 2)))) (M.pure .nx)) (sSeq (sAsg (mC (.int 0)) (gN 2)) (sSeq (sFor (mRng1 (mCons (mVal (mP2 pAdd (mVal (mC (.int 1))) (mVal (mP2 pDiv (mVal (mBits (mVar 1))) (mVal (mC (.int 30))))))) mNil)) (gN 3) (sSeq (sStore 0 (mP2 pAdd (mVal (mP2 pIx (mSlot 0) (mVal (mC (.int 2))))) (mVal (mC (.int 1)))) (mC (.int 2))) (sAsg (mP2 pAdd (mVal (mP2 pMulI (mSlot 2) (mVal (mC (.int 2147483587))))) (mVal (mCall F__law_hash (mCons (mVal (mP2 pIx (mSlot 0) (mVal (mC (.int 1))))) (mCons (mVal (mP2 pIx (mSlot 0) (mVal (mC (.int 2))))) mNil))))) (gN 2)))) (sRet (mP2 pMod (mVal (mPN pInt (A1 (mSlot 2)))) (mSlot 1))))))
def F__law_random : FL := runL 1 4 m__law_random
theorem len__law_random : ∀ g ds r, F__law_random g ds = some r → ds.length = 1 := fun _ _ _ h => runL_len h
/-! ### _law_cell -/
abbrev N__law_cell : List Str := ["script", "index"]
abbrev P__law_cell : List Str := ["script", "index"]
def m__law_cell : MS := (sSeq (mIf (asB (mP2 pLt (mSlot 1) (mVal (mPN pLen (A1 (mSlot 0)))))) (sRet (mP2 pIx (mSlot 0) (mSlot 1))) (M.pure .nx)) (sRet (mP2 pMod (mVal (mPN pSum (A1 (mVal (mSl (mSlot 0) (M.pure none) (mPart (mC (.int 1)))))))) (mVal (mC (.int 1000003))))))
def F__law_cell : List PyData → Option (Except Xn PyData) := runP 2 2 m__law_cell
theorem len__law_cell : ∀ ds r, F__law_cell ds = some r → ds.length = 2 := fun _ _ h => runP_len h
/-! ### _law_generator -/
abbrev N__law_generator : List Str := ["script", "index", "seed"]
abbrev P__law_generator : List Str := ["script", "index"]
def m1__law_generator : MS := (sAsg (mCall F__law_cell (mCons (mVal (mVar 0)) (mCons (mVal (mVar 1)) mNil))) (gN 2))
def m2__law_generator : M PyData := (mLst (mCons (mVal (mP2 pMod (mVal (mPN pInt (A1 (mVal (mPN pMax2 (A2 (mVal (mP2 pSub (mSlot 2) (mVal (mP2 pPow (mVal (mC (.int 10))) (mVal (mC (.int 18))))))) (mVal (mC (.int 0))))))))) (mVal (mP2 pPow (mVal (mP2 pPow (mVal (mC (.int 10))) (mVal (mC (.int 60))))) (mVal (mC (.int 10))))))) (mCons (mVal (mP2 pMod (mVal (mPN pInt (A1 (mSlot 2)))) (mVal (mC (.int 2147483647))))) (mCons (mVal (mP2 pMulI (mVal (mC (.int 1000))) (mSlot 1))) mNil))))
def F__law_generator : List PyData → Option (List PyData) := runN 2 3 m1__law_generator m2__law_generator
theorem len__law_generator : ∀ ds r, F__law_generator ds = some r → ds.length = 2 := fun _ _ h => runN_len h
/-! ### _law_pick -/
abbrev N__law_pick : List Str := ["generator", "things"]
abbrev P__law_pick : List Str := ["generator", "things"]
def m__law_pick : MS := (sRet (mP2 pIx (mSlot 1) (mVal (mCallL F__law_random (mCons (mSlot 0) (mCons (mVal (mPN pLen (A1 (mSlot 1)))) mNil))))))
def F__law_pick : FL := runL 1 2 m__law_pick
theorem len__law_pick : ∀ g ds r, F__law_pick g ds = some r → ds.length = 1 := fun _ _ _ h => runL_len h
/-! ### _law_order -/
abbrev N__law_order : List Str := ["generator"]
abbrev P__law_order : List Str := ["generator"]
def m__law_order : MS := (sSeq (mIf (asB (mP2 pEq (mVal (mCallL F__law_random (mCons (mSlot 0) (mCons (mVal (mC (.int 3))) mNil)))) (mVal (mC (.int 0))))) (sRet (mTup (mCons (mVal (mC (.str "row"))) (mCons (mVal (mCallL F__law_pick (mCons (mSlot 0) (mCons (mVal (mLst (mCons (mVal (mLst (mCons (mVal (mC (.int 0))) (mCons (mVal (mC (.int 1))) mNil)))) (mCons (mVal (mLst (mCons (mVal (mC (.int 0))) (mCons (mVal (mC (.int 1))) (mCons (mVal (mC (.int 1))) (mCons (mVal (mC (.int 0))) mNil)))))) (mCons (mVal (mLst (mCons (mVal (mC (.int 1))) (mCons (mVal (mC (.int 0))) mNil)))) (mCons (mVal (mLst (mCons (mVal (mC (.int 0))) (mCons (mVal (mC (.int 0))) (mCons (mVal (mC (.int 1))) (mCons (mVal (mC (.int 1))) mNil)))))) (mCons (mVal (mLst (mCons (mVal (mC (.int 1))) mNil))) (mCons (mVal (mLst (mCons (mVal (mC (.int 0))) mNil))) (mCons (mVal (mLst (mCons (mVal (mC (.int 0))) (mCons (mVal (mC (.int 1))) (mCons (mVal (mC (.int 1))) mNil))))) (mCons (mVal (mLst (mCons (mVal (mC (.int 1))) (mCons (mVal (mC (.int 1))) (mCons (mVal (mC (.int 0))) mNil))))) mNil)))))))))) mNil)))) mNil)))) (M.pure .nx)) (sRet (mTup (mCons (mVal (mCallL F__law_pick (mCons (mSlot 0) (mCons (mVal (mLst (mCons (mVal (mC (.str "on"))) (mCons (mVal (mC (.str "turns"))) (mCons (mVal (mC (.str "winner"))) (mCons (mVal (mC (.str "loser"))) mNil)))))) mNil)))) mNil))))
def F__law_order : FL := runL 0 1 m__law_order
theorem len__law_order : ∀ g ds r, F__law_order g ds = some r → ds.length = 0 := fun _ _ _ h => runL_len h
/-! ### _law_unit -/
abbrev N__law_unit : List Str := ["rule", "score", "told", "place", "special"]
abbrev P__law_unit : List Str := ["rule", "score"]
def m__law_unit : MS := (sSeq (sOwn (mLc [3, 4] (asL (mP2 pIx (mSlot 0) (mVal (mC (.int 6))))) (gT 2 (gsCons (gN 3) (gsCons (gN 4) gsNil))) (asB (mP2 pEq (mSlot 3) (mSlot 1))) (mVar 4)) 2) (sRet (mIf (asB (mP2 pNe (mSlot 2) (mVal (mLst mNil)))) (mP2 pIx (mSlot 2) (mVal (mC (.int 0)))) (mP2 pIx (mSlot 0) (mVal (mC (.int 5)))))))
def F__law_unit : List PyData → Option (Except Xn PyData) := runP 2 5 m__law_unit
theorem len__law_unit : ∀ ds r, F__law_unit ds = some r → ds.length = 2 := fun _ _ h => runP_len h
/-! ### _law_over -/
abbrev N__law_over : List Str := ["rule", "score"]
abbrev P__law_over : List Str := ["rule", "score"]
def m__law_over : MS := (sSeq (mIf (nAnd (asB (mP2 pNotN (mVal (mP2 pIx (mSlot 0) (mVal (mC (.int 3))))) (mVal (mC .none)))) (asB (mP2 pGe (mVal (mPN pMaxT (A1 (mSlot 1)))) (mVal (mP2 pIx (mSlot 0) (mVal (mC (.int 3)))))))) (sRet (mC (.bool true))) (M.pure .nx)) (sRet (mAnd (mP2 pGe (mVal (mPN pMaxT (A1 (mSlot 1)))) (mVal (mP2 pIx (mSlot 0) (mVal (mC (.int 1)))))) (mP2 pGe (mVal (mP2 pSub (mVal (mPN pMaxT (A1 (mSlot 1)))) (mVal (mPN pMinT (A1 (mSlot 1)))))) (mVal (mP2 pIx (mSlot 0) (mVal (mC (.int 2)))))))))
def F__law_over : List PyData → Option (Except Xn PyData) := runP 2 2 m__law_over
theorem len__law_over : ∀ ds r, F__law_over ds = some r → ds.length = 2 := fun _ _ h => runP_len h
/-! ### _law_first_turn -/
abbrev N__law_first_turn : List Str := ["rule", "side"]
abbrev P__law_first_turn : List Str := ["rule", "side"]
def m__law_first_turn : MS := (sRet (mIf (nAnd (asB (mP2 pEq (mVal (mP2 pIx (mSlot 0) (mVal (mC (.int 0))))) (mVal (mC (.str "race"))))) (nAnd (asB (mP2 pEq (mVal (mP2 pIx (mVal (mP2 pIx (mSlot 0) (mVal (mC (.int 4))))) (mVal (mC (.int 0))))) (mVal (mC (.str "row"))))) (asB (mP2 pEq (mVal (mP2 pIx (mVal (mP2 pIx (mVal (mP2 pIx (mSlot 0) (mVal (mC (.int 4))))) (mVal (mC (.int 1))))) (mVal (mC (.int 0))))) (mVal (mC (.int 1))))))) (mP2 pSub (mVal (mC (.int 1))) (mSlot 1)) (mVar 1)))
def F__law_first_turn : List PyData → Option (Except Xn PyData) := runP 2 2 m__law_first_turn
theorem len__law_first_turn : ∀ ds r, F__law_first_turn ds = some r → ds.length = 2 := fun _ _ h => runP_len h
/-! ### _law_start -/
abbrev N__law_start : List Str := ["rule", "side", "turn"]
abbrev P__law_start : List Str := ["rule", "side"]
def m__law_start (F__law_start : List PyData → Option (Except Xn PyData)) : MS := (sSeq (mIf (asB (mP2 pNe (mVal (mP2 pIx (mSlot 0) (mVal (mC (.int 0))))) (mVal (mC (.str "race"))))) (sRet (mLst (mCons (mVal (mVar 1)) mNil))) (M.pure .nx)) (sSeq (sAsg (mCall F__law_first_turn (mCons (mVal (mVar 0)) (mCons (mVal (mVar 1)) mNil))) (gN 2)) (sRet (mLst (mCons (mVal (mC (.int 0))) (mCons (mVal (mC (.int 0))) (mCons (mVal (mVar 1)) (mCons (mVal (mVar 2)) (mCons (mVal (mCall F__law_start (mCons (mVal (mCall F__law_unit (mCons (mVal (mVar 0)) (mCons (mVal (mTup (mCons (mVal (mC (.int 0))) (mCons (mVal (mC (.int 0))) mNil)))) mNil)))) (mCons (mVal (mVar 2)) mNil)))) mNil)))))))))
def F__law_start : Nat → List PyData → Option (Except Xn PyData)
  | 0 => fun _ => none
  | n + 1 => runP 2 3 (m__law_start (F__law_start n))
theorem len__law_start : ∀ (n : Nat) ds r, F__law_start n ds = some r → ds.length = 2
  | 0, _, _, h => by cases h
  | n + 1, _, _, h => runP_len h
/-! ### _law_step -/
abbrev N__law_step : List Str := ["rule", "state", "side", "inner", "score", "word", "turn"]
abbrev P__law_step : List Str := ["rule", "state", "side"]
def m__law_step (F__law_step : List PyData → Option (Except Xn PyData)) : MS := (sSeq (mIf (nOr (asB (mP2 pEq (mVal (mP2 pIx (mSlot 0) (mVal (mC (.int 0))))) (mVal (mC (.str "rally"))))) (nAnd (asB (mP2 pEq (mVal (mP2 pIx (mSlot 0) (mVal (mC (.int 0))))) (mVal (mC (.str "hand"))))) (asB (mP2 pEq (mSlot 2) (mVal (mP2 pIx (mSlot 1) (mVal (mC (.int 0))))))))) (sRet (mTup (mCons (mVal (mC (.str "over"))) (mCons (mVal (mVar 2)) (mCons (mVal (mP2 pIx (mSlot 1) (mVal (mC (.int 0))))) mNil))))) (M.pure .nx)) (sSeq (mIf (asB (mP2 pEq (mVal (mP2 pIx (mSlot 0) (mVal (mC (.int 0))))) (mVal (mC (.str "hand"))))) (sRet (mTup (mCons (mVal (mC (.str "on"))) (mCons (mVal (mLst (mCons (mVal (mVar 2)) mNil))) (mCons (mVal (mC .none)) mNil))))) (M.pure .nx)) (sSeq (sAsg (mCall F__law_step (mCons (mVal (mCall F__law_unit (mCons (mVal (mVar 0)) (mCons (mVal (mTup (mCons (mVal (mP2 pIx (mSlot 1) (mVal (mC (.int 0))))) (mCons (mVal (mP2 pIx (mSlot 1) (mVal (mC (.int 1))))) mNil)))) mNil)))) (mCons (mVal (mP2 pIx (mSlot 1) (mVal (mC (.int 4))))) (mCons (mVal (mVar 2)) mNil)))) (gN 3)) (sSeq (mIf (asB (mP2 pEq (mVal (mP2 pIx (mSlot 3) (mVal (mC (.int 0))))) (mVal (mC (.str "on"))))) (sRet (mTup (mCons (mVal (mC (.str "on"))) (mCons (mVal (mP2 pAdd (mVal (mSl (mSlot 1) (M.pure none) (mPart (mC (.int 4))))) (mVal (mLst (mCons (mVal (mP2 pIx (mSlot 3) (mVal (mC (.int 1))))) mNil))))) (mCons (mVal (mC .none)) mNil))))) (M.pure .nx)) (sSeq (sAsg (mTup (mCons (mVal (mP2 pAdd (mVal (mP2 pIx (mSlot 1) (mVal (mC (.int 0))))) (mVal (mIf (asB (mP2 pEq (mVal (mP2 pIx (mSlot 3) (mVal (mC (.int 1))))) (mVal (mC (.int 0))))) (mC (.int 1)) (mC (.int 0)))))) (mCons (mVal (mP2 pAdd (mVal (mP2 pIx (mSlot 1) (mVal (mC (.int 1))))) (mVal (mIf (asB (mP2 pEq (mVal (mP2 pIx (mSlot 3) (mVal (mC (.int 1))))) (mVal (mC (.int 1))))) (mC (.int 1)) (mC (.int 0)))))) mNil))) (gN 4)) (sSeq (sAsg (mP2 pIx (mVal (mP2 pIx (mSlot 0) (mVal (mC (.int 4))))) (mVal (mC (.int 0)))) (gN 5)) (sSeq (sAsg (mIxS (mDispK ["on", "turns", "winner", "loser", "row"] [(mP2 pIx (mSlot 3) (mVal (mC (.int 2)))), (mP2 pSub (mVal (mC (.int 1))) (mVal (mP2 pIx (mSlot 1) (mVal (mC (.int 3)))))), (mP2 pIx (mSlot 3) (mVal (mC (.int 1)))), (mP2 pSub (mVal (mC (.int 1))) (mVal (mP2 pIx (mSlot 3) (mVal (mC (.int 1)))))), (mC (.int 0))]) (mSlot 5)) (gN 6)) (sSeq (mIf (asB (mP2 pEq (mSlot 5) (mVal (mC (.str "row"))))) (sAsg (mIf (asB (mP2 pEq (mVal (mP2 pIx (mVal (mP2 pIx (mVal (mP2 pIx (mSlot 0) (mVal (mC (.int 4))))) (mVal (mC (.int 1))))) (mVal (mP2 pMod (mVal (mPN pSumT (A1 (mSlot 4)))) (mVal (mPN pLen (A1 (mVal (mP2 pIx (mVal (mP2 pIx (mSlot 0) (mVal (mC (.int 4))))) (mVal (mC (.int 1)))))))))))) (mVal (mC (.int 0))))) (mP2 pIx (mSlot 1) (mVal (mC (.int 2)))) (mP2 pSub (mVal (mC (.int 1))) (mVal (mP2 pIx (mSlot 1) (mVal (mC (.int 2))))))) (gN 6)) (M.pure .nx)) (sSeq (mIf (asB (mCall F__law_over (mCons (mVal (mVar 0)) (mCons (mVal (mVar 4)) mNil)))) (sRet (mTup (mCons (mVal (mC (.str "over"))) (mCons (mVal (mIf (asB (mP2 pGt (mVal (mP2 pIx (mSlot 4) (mVal (mC (.int 0))))) (mVal (mP2 pIx (mSlot 4) (mVal (mC (.int 1))))))) (mC (.int 0)) (mC (.int 1)))) (mCons (mVal (mVar 6)) mNil))))) (M.pure .nx)) (sRet (mTup (mCons (mVal (mC (.str "on"))) (mCons (mVal (mLst (mCons (mVal (mP2 pIx (mSlot 4) (mVal (mC (.int 0))))) (mCons (mVal (mP2 pIx (mSlot 4) (mVal (mC (.int 1))))) (mCons (mVal (mP2 pIx (mSlot 1) (mVal (mC (.int 2))))) (mCons (mVal (mVar 6)) (mCons (mVal (mCall (F__law_start 5) (mCons (mVal (mCall F__law_unit (mCons (mVal (mVar 0)) (mCons (mVal (mVar 4)) mNil)))) (mCons (mVal (mVar 6)) mNil)))) mNil))))))) (mCons (mVal (mC .none)) mNil))))))))))))))
def F__law_step : Nat → List PyData → Option (Except Xn PyData)
  | 0 => fun _ => none
  | n + 1 => runP 3 7 (m__law_step (F__law_step n))
theorem len__law_step : ∀ (n : Nat) ds r, F__law_step n ds = some r → ds.length = 3
  | 0, _, _, h => by cases h
  | n + 1, _, _, h => runP_len h
/-! ### _law_played -/
abbrev N__law_played : List Str := ["rule", "first", "rallies", "state", "at", "side", "told"]
abbrev P__law_played : List Str := ["rule", "first", "rallies"]
def m__law_played : MS := (sSeq (sAsg (mCall (F__law_start 5) (mCons (mVal (mVar 0)) (mCons (mVal (mVar 1)) mNil))) (gN 3)) (sSeq (sFor (mEnum (mVar 2)) (gT 2 (gsCons (gN 4) (gsCons (gN 5) gsNil))) (sSeq (sAsg (mCall (F__law_step 5) (mCons (mVal (mVar 0)) (mCons (mVal (mVar 3)) (mCons (mVal (mVar 5)) mNil)))) (gN 6)) (sSeq (mIf (asB (mP2 pEq (mVal (mP2 pIx (mSlot 6) (mVal (mC (.int 0))))) (mVal (mC (.str "over"))))) (sRet (mTup (mCons (mVal (mC (.str "over"))) (mCons (mVal (mP2 pIx (mSlot 6) (mVal (mC (.int 1))))) (mCons (mVal (mP2 pAdd (mSlot 4) (mVal (mC (.int 1))))) mNil))))) (M.pure .nx)) (sAsg (mP2 pIx (mSlot 6) (mVal (mC (.int 1)))) (gN 3))))) (sRet (mTup (mCons (mVal (mC (.str "on"))) (mCons (mVal (mVar 3)) (mCons (mVal (mPN pLen (A1 (mSlot 2)))) mNil)))))))
def F__law_played : List PyData → Option (Except Xn PyData) := runP 3 7 m__law_played
theorem len__law_played : ∀ ds r, F__law_played ds = some r → ds.length = 3 := fun _ _ h => runP_len h
/-! ### _law_match -/
abbrev N__law_match : List Str := ["generator", "rule", "first", "most", "state", "rallies", "lean", "side", "told"]
abbrev P__law_match : List Str := ["generator", "rule", "first", "most"]
def m__law_match : MS := (sSeq (sParEN 4 5 (mCall (F__law_start 5) (mCons (mVal (mVar 1)) (mCons (mVal (mVar 2)) mNil))) (mLst mNil)) (sSeq (sAsg (mCallL F__law_random (mCons (mSlot 0) (mCons (mVal (mC (.int 4))) mNil))) (gN 6)) (sSeq (whileL (asB (mP2 pLt (mVal (mPN pLen (A1 (mSlot 5)))) (mSlot 3))) (sSeq (sAsg (mIf (asB (mP2 pLt (mSlot 6) (mVal (mC (.int 2))))) (mCallL F__law_random (mCons (mSlot 0) (mCons (mVal (mC (.int 2))) mNil))) (mCallL F__law_pick (mCons (mSlot 0) (mCons (mVal (mLst (mCons (mVal (mP2 pSub (mSlot 6) (mVal (mC (.int 2))))) (mCons (mVal (mP2 pSub (mSlot 6) (mVal (mC (.int 2))))) (mCons (mVal (mP2 pSub (mSlot 6) (mVal (mC (.int 2))))) (mCons (mVal (mP2 pSub (mVal (mC (.int 3))) (mSlot 6))) mNil)))))) mNil)))) (gN 7)) (sSeq (sAppend 5 (mVar 7)) (sSeq (sAsg (mCall (F__law_step 5) (mCons (mVal (mVar 1)) (mCons (mVal (mVar 4)) (mCons (mVal (mVar 7)) mNil)))) (gN 8)) (sSeq (mIf (asB (mP2 pEq (mVal (mP2 pIx (mSlot 8) (mVal (mC (.int 0))))) (mVal (mC (.str "over"))))) (sRet (mTup (mCons (mVal (mVar 5)) (mCons (mVal (mP2 pIx (mSlot 8) (mVal (mC (.int 1))))) mNil)))) (M.pure .nx)) (sAsg (mP2 pIx (mSlot 8) (mVal (mC (.int 1)))) (gN 4)))))) 30) (sRet (mTup (mCons (mVal (mVar 5)) (mCons (mVal (mC .none)) mNil)))))))
def F__law_match : FL := runL 3 9 m__law_match
theorem len__law_match : ∀ g ds r, F__law_match g ds = some r → ds.length = 3 := fun _ _ _ h => runL_len h
/-! ### _law_wrong_rules -/
abbrev N__law_wrong_rules : List Str := ["generator", "rule", "told", "odd", "turn", "at", "wrong", "deep"]
abbrev P__law_wrong_rules : List Str := ["generator", "rule"]
def m__law_wrong_rules : MS := (sSeq (sOwn (mLst (mCons (mVal (mC .none)) (mCons (mVal (mC (.int 7))) (mCons (mVal (mC (.str "rally"))) (mCons (mVal (mTup mNil)) (mCons (mVal (mLst mNil)) (mCons (mVal (mTup (mCons (mVal (mC (.str "rally"))) (mCons (mVal (mC (.int 1))) mNil)))) (mCons (mVal (mLst (mCons (mVal (mC (.str "rally"))) mNil))) (mCons (mVal (mTup (mCons (mVal (mC (.str "rallies"))) mNil))) (mCons (mVal (mTup (mCons (mVal (mC (.str "race"))) mNil))) (mCons (mVal (mTup (mCons (mVal (mC (.bool true))) mNil))) (mCons (mVal (mPN pList (A1 (mSlot 1)))) (mCons (mVal (mP2 pAdd (mSlot 1) (mVal (mTup (mCons (mVal (mC (.int 0))) mNil))))) mNil))))))))))))) 2) (sSeq (mIf (asB (mP2 pNe (mVal (mP2 pIx (mSlot 1) (mVal (mC (.int 0))))) (mVal (mC (.str "race"))))) (sRet (mVar 2)) (M.pure .nx)) (sSeq (sAsg (mLst (mCons (mVal (mTup (mCons (mVal (mC (.int 1))) (mCons (mVal (mC (.int 0))) mNil)))) (mCons (mVal (mTup (mCons (mVal (mC (.int 1))) (mCons (mVal (mC (.int 31))) mNil)))) (mCons (mVal (mTup (mCons (mVal (mC (.int 1))) (mCons (mVal (mC (.bool true))) mNil)))) (mCons (mVal (mTup (mCons (mVal (mC (.int 1))) (mCons (mVal (mC .none)) mNil)))) (mCons (mVal (mTup (mCons (mVal (mC (.int 2))) (mCons (mVal (mC (.int 0))) mNil)))) (mCons (mVal (mTup (mCons (mVal (mC (.int 2))) (mCons (mVal (mC (.int 4))) mNil)))) (mCons (mVal (mTup (mCons (mVal (mC (.int 2))) (mCons (mVal (mC (.str "1"))) mNil)))) (mCons (mVal (mTup (mCons (mVal (mC (.int 3))) (mCons (mVal (mP2 pSub (mVal (mP2 pIx (mSlot 1) (mVal (mC (.int 1))))) (mVal (mC (.int 1))))) mNil)))) (mCons (mVal (mTup (mCons (mVal (mC (.int 3))) (mCons (mVal (mC (.int 41))) mNil)))) (mCons (mVal (mTup (mCons (mVal (mC (.int 3))) (mCons (mVal (mC (.bool false))) mNil)))) (mCons (mVal (mTup (mCons (mVal (mC (.int 4))) (mCons (mVal (mC (.str "on"))) mNil)))) (mCons (mVal (mTup (mCons (mVal (mC (.int 4))) (mCons (mVal (mTup (mCons (mVal (mC (.str "off"))) mNil))) mNil)))) (mCons (mVal (mTup (mCons (mVal (mC (.int 4))) (mCons (mVal (mTup (mCons (mVal (mC (.str "row"))) mNil))) mNil)))) (mCons (mVal (mTup (mCons (mVal (mC (.int 4))) (mCons (mVal (mTup (mCons (mVal (mC (.str "row"))) (mCons (mVal (mLst mNil)) mNil)))) mNil)))) (mCons (mVal (mTup (mCons (mVal (mC (.int 4))) (mCons (mVal (mTup (mCons (mVal (mC (.str "row"))) (mCons (mVal (mRep (mLst (mCons (mVal (mC (.int 0))) mNil)) (mC (.int 9)))) mNil)))) mNil)))) (mCons (mVal (mTup (mCons (mVal (mC (.int 4))) (mCons (mVal (mTup (mCons (mVal (mC (.str "row"))) (mCons (mVal (mLst (mCons (mVal (mC (.int 2))) mNil))) mNil)))) mNil)))) mNil))))))))))))))))) (gN 3)) (sSeq (sAsg (mP2 pAdd (mSlot 3) (mVal (mLst (mCons (mVal (mTup (mCons (mVal (mC (.int 4))) (mCons (mVal (mTup (mCons (mVal (mC (.str "row"))) (mCons (mVal (mTup (mCons (mVal (mC (.int 0))) (mCons (mVal (mC (.int 1))) mNil)))) mNil)))) mNil)))) (mCons (mVal (mTup (mCons (mVal (mC (.int 4))) (mCons (mVal (mTup (mCons (mVal (mC (.str "on"))) (mCons (mVal (mLst mNil)) mNil)))) mNil)))) (mCons (mVal (mTup (mCons (mVal (mC (.int 5))) (mCons (mVal (mC .none)) mNil)))) (mCons (mVal (mTup (mCons (mVal (mC (.int 5))) (mCons (mVal (mC (.str "rally"))) mNil)))) (mCons (mVal (mTup (mCons (mVal (mC (.int 5))) (mCons (mVal (mLst (mCons (mVal (mTup (mCons (mVal (mC (.str "rally"))) mNil))) mNil))) mNil)))) (mCons (mVal (mTup (mCons (mVal (mC (.int 6))) (mCons (mVal (mC .none)) mNil)))) (mCons (mVal (mTup (mCons (mVal (mC (.int 6))) (mCons (mVal (mTup mNil)) mNil)))) (mCons (mVal (mTup (mCons (mVal (mC (.int 6))) (mCons (mVal (mLst (mCons (mVal (mTup (mCons (mVal (mTup (mCons (mVal (mC (.int 0))) (mCons (mVal (mC (.int 0))) mNil)))) (mCons (mVal (mC .none)) mNil)))) mNil))) mNil)))) (mCons (mVal (mTup (mCons (mVal (mC (.int 6))) (mCons (mVal (mLst (mCons (mVal (mTup (mCons (mVal (mTup (mCons (mVal (mC (.int 0))) (mCons (mVal (mC (.int 41))) mNil)))) (mCons (mVal (mTup (mCons (mVal (mC (.str "rally"))) mNil))) mNil)))) mNil))) mNil)))) (mCons (mVal (mTup (mCons (mVal (mC (.int 6))) (mCons (mVal (mLst (mCons (mVal (mTup (mCons (mVal (mTup (mCons (mVal (mC (.int 0))) (mCons (mVal (mNeg (mC (.int 1)))) mNil)))) (mCons (mVal (mTup (mCons (mVal (mC (.str "rally"))) mNil))) mNil)))) mNil))) mNil)))) mNil))))))))))))) (gN 3)) (sSeq (sAsg (mP2 pAdd (mSlot 3) (mVal (mLst (mCons (mVal (mTup (mCons (mVal (mC (.int 6))) (mCons (mVal (mLst (mCons (mVal (mTup (mCons (mVal (mTup (mCons (mVal (mC (.int 1))) (mCons (mVal (mC (.int 0))) mNil)))) (mCons (mVal (mTup (mCons (mVal (mC (.str "rally"))) mNil))) mNil)))) (mCons (mVal (mTup (mCons (mVal (mTup (mCons (mVal (mC (.int 0))) (mCons (mVal (mC (.int 0))) mNil)))) (mCons (mVal (mTup (mCons (mVal (mC (.str "rally"))) mNil))) mNil)))) mNil)))) mNil)))) (mCons (mVal (mTup (mCons (mVal (mC (.int 6))) (mCons (mVal (mLst (mCons (mVal (mTup (mCons (mVal (mTup (mCons (mVal (mC (.int 0))) (mCons (mVal (mC (.int 0))) mNil)))) (mCons (mVal (mTup (mCons (mVal (mC (.str "rally"))) mNil))) mNil)))) (mCons (mVal (mTup (mCons (mVal (mTup (mCons (mVal (mC (.int 0))) (mCons (mVal (mC (.int 0))) mNil)))) (mCons (mVal (mTup (mCons (mVal (mC (.str "hand"))) mNil))) mNil)))) mNil)))) mNil)))) (mCons (mVal (mTup (mCons (mVal (mC (.int 6))) (mCons (mVal (mLst (mCons (mVal (mTup (mCons (mVal (mLst (mCons (mVal (mC (.int 0))) (mCons (mVal (mC (.int 0))) mNil)))) (mCons (mVal (mTup (mCons (mVal (mC (.str "rally"))) mNil))) mNil)))) mNil))) mNil)))) (mCons (mVal (mTup (mCons (mVal (mC (.int 6))) (mCons (mVal (mLst (mCons (mVal (mTup (mCons (mVal (mTup (mCons (mVal (mC (.int 0))) mNil))) (mCons (mVal (mTup (mCons (mVal (mC (.str "rally"))) mNil))) mNil)))) mNil))) mNil)))) (mCons (mVal (mTup (mCons (mVal (mC (.int 6))) (mCons (mVal (mLc [5] (mRng1 (mCons (mVal (mC (.int 9))) mNil)) (gN 5) (M.pure true) (mTup (mCons (mVal (mTup (mCons (mVal (mC (.int 0))) (mCons (mVal (mVar 5)) mNil)))) (mCons (mVal (mTup (mCons (mVal (mC (.str "hand"))) mNil))) mNil))))) mNil)))) mNil)))))))) (gN 3)) (sSeq (sFor (mRng1 (mCons (mVal (mC (.int 7))) mNil)) (gN 4) (sSeq (sAsg (mCallL F__law_pick (mCons (mSlot 0) (mCons (mVal (mVar 3)) mNil))) (gT 2 (gsCons (gN 5) (gsCons (gN 6) gsNil)))) (sAppend 2 (mP2 pAdd (mVal (mP2 pAdd (mVal (mSl (mSlot 1) (M.pure none) (mPart (mVar 5)))) (mVal (mTup (mCons (mVal (mVar 6)) mNil))))) (mVal (mSl (mSlot 1) (mPart (mP2 pAdd (mSlot 5) (mVal (mC (.int 1))))) (M.pure none))))))) (sSeq (sAsg (mTup (mCons (mVal (mC (.str "rally"))) mNil)) (gN 7)) (sSeq (sFor (mRng1 (mCons (mVal (mC (.int 5))) mNil)) (gN 4) (sAsg (mTup (mCons (mVal (mC (.str "race"))) (mCons (mVal (mC (.int 1))) (mCons (mVal (mC (.int 1))) (mCons (mVal (mC .none)) (mCons (mVal (mTup (mCons (mVal (mC (.str "on"))) mNil))) (mCons (mVal (mVar 7)) (mCons (mVal (mLst mNil)) mNil)))))))) (gN 7))) (sRet (mP2 pAdd (mSlot 2) (mVal (mLst (mCons (mVal (mVar 7)) (mCons (mVal (mP2 pAdd (mVal (mSl (mSlot 1) (M.pure none) (mPart (mC (.int 6))))) (mVal (mTup (mCons (mVal (mLst (mCons (mVal (mTup (mCons (mVal (mTup (mCons (mVal (mC (.int 0))) (mCons (mVal (mC (.int 0))) mNil)))) (mCons (mVal (mP2 pIx (mSlot 7) (mVal (mC (.int 5))))) mNil)))) mNil))) mNil))))) mNil))))))))))))))
def F__law_wrong_rules : FL := runL 1 8 m__law_wrong_rules
theorem len__law_wrong_rules : ∀ g ds r, F__law_wrong_rules g ds = some r → ds.length = 1 := fun _ _ _ h => runL_len h
/-! ### _law_small_rule -/
abbrev N__law_small_rule : List Str := ["generator", "need", "lead", "cap", "unit", "inner", "special"]
abbrev P__law_small_rule : List Str := ["generator"]
def m__law_small_rule : MS := (sSeq (sPar 1 2 (mP2 pAdd (mVal (mC (.int 1))) (mVal (mCallL F__law_random (mCons (mSlot 0) (mCons (mVal (mC (.int 3))) mNil))))) (mP2 pAdd (mVal (mC (.int 1))) (mVal (mCallL F__law_pick (mCons (mSlot 0) (mCons (mVal (mLst (mCons (mVal (mC (.int 0))) (mCons (mVal (mC (.int 0))) (mCons (mVal (mC (.int 1))) mNil))))) mNil)))))) (sSeq (sAsg (mIf (asB (mP2 pGt (mSlot 2) (mVal (mC (.int 1))))) (mP2 pAdd (mSlot 1) (mVal (mCallL F__law_random (mCons (mSlot 0) (mCons (mVal (mC (.int 2))) mNil))))) (mC .none)) (gN 3)) (sSeq (sAsg (mIf (asB (mP2 pGt (mVal (mCallL F__law_random (mCons (mSlot 0) (mCons (mVal (mC (.int 3))) mNil)))) (mVal (mC (.int 0))))) (mTup (mCons (mVal (mC (.str "rally"))) mNil)) (mTup (mCons (mVal (mC (.str "hand"))) mNil))) (gN 4)) (sSeq (sAsg (mTup (mCons (mVal (mC (.str "race"))) (mCons (mVal (mVar 1)) (mCons (mVal (mVar 2)) (mCons (mVal (mVar 3)) (mCons (mVal (mCallL F__law_order (mCons (mSlot 0) mNil))) (mCons (mVal (mVar 4)) (mCons (mVal (mIf (asB (mP2 pEq (mVal (mCallL F__law_random (mCons (mSlot 0) (mCons (mVal (mC (.int 4))) mNil)))) (mVal (mC (.int 0))))) (mLst (mCons (mVal (mTup (mCons (mVal (mTup (mCons (mVal (mC (.int 1))) (mCons (mVal (mC (.int 1))) mNil)))) (mCons (mVal (mTup (mCons (mVal (mC (.str "hand"))) mNil))) mNil)))) mNil)) (mLst mNil))) mNil)))))))) (gN 5)) (sSeq (mIf (asB (mP2 pEq (mVal (mCallL F__law_random (mCons (mSlot 0) (mCons (mVal (mC (.int 3))) mNil)))) (mVal (mC (.int 0))))) (sRet (mVar 5)) (M.pure .nx)) (sSeq (sAsg (mIf (asB (mP2 pEq (mVal (mCallL F__law_random (mCons (mSlot 0) (mCons (mVal (mC (.int 3))) mNil)))) (mVal (mC (.int 0))))) (mLst (mCons (mVal (mTup (mCons (mVal (mTup (mCons (mVal (mC (.int 1))) (mCons (mVal (mC (.int 1))) mNil)))) (mCons (mVal (mTup (mCons (mVal (mC (.str "race"))) (mCons (mVal (mP2 pAdd (mVal (mC (.int 1))) (mVal (mCallL F__law_random (mCons (mSlot 0) (mCons (mVal (mC (.int 2))) mNil)))))) (mCons (mVal (mC (.int 1))) (mCons (mVal (mC .none)) (mCons (mVal (mCallL F__law_order (mCons (mSlot 0) mNil))) (mCons (mVal (mTup (mCons (mVal (mC (.str "rally"))) mNil))) (mCons (mVal (mLst mNil)) mNil))))))))) mNil)))) mNil)) (mLst mNil)) (gN 6)) (sRet (mTup (mCons (mVal (mC (.str "race"))) (mCons (mVal (mP2 pAdd (mVal (mC (.int 1))) (mVal (mCallL F__law_random (mCons (mSlot 0) (mCons (mVal (mC (.int 2))) mNil)))))) (mCons (mVal (mC (.int 1))) (mCons (mVal (mC .none)) (mCons (mVal (mCallL F__law_order (mCons (mSlot 0) mNil))) (mCons (mVal (mVar 5)) (mCons (mVal (mVar 6)) mNil)))))))))))))))
def F__law_small_rule : FL := runL 0 7 m__law_small_rule
theorem len__law_small_rule : ∀ g ds r, F__law_small_rule g ds = some r → ds.length = 0 := fun _ _ _ h => runL_len h
/-! ### _law_day -/
abbrev N__law_day : List Str := ["generator", "rule", "teams", "told", "turn", "home", "guest", "first"]
abbrev P__law_day : List Str := ["generator", "rule", "teams"]
def m__law_day : MS := (sSeq (sOwn (mLst mNil) 3) (sSeq (sFor (mRng1 (mCons (mVal (mCallL F__law_random (mCons (mSlot 0) (mCons (mVal (mC (.int 7))) mNil)))) mNil)) (gN 4) (sSeq (sAsg (mCallL F__law_random (mCons (mSlot 0) (mCons (mVal (mVar 2)) mNil))) (gN 5)) (sSeq (sAsg (mP2 pMod (mVal (mP2 pAdd (mVal (mP2 pAdd (mSlot 5) (mVal (mC (.int 1))))) (mVal (mCallL F__law_random (mCons (mSlot 0) (mCons (mVal (mP2 pSub (mSlot 2) (mVal (mC (.int 1))))) mNil)))))) (mSlot 2)) (gN 6)) (sSeq (sAsg (mCallL F__law_random (mCons (mSlot 0) (mCons (mVal (mC (.int 2))) mNil))) (gN 7)) (sAppend 3 (mTup (mCons (mVal (mVar 5)) (mCons (mVal (mVar 6)) (mCons (mVal (mVar 7)) (mCons (mVal (mP2 pIx (mVal (mCallL F__law_match (mCons (mSlot 0) (mCons (mVal (mVar 1)) (mCons (mVal (mVar 7)) (mCons (mVal (mCallL F__law_pick (mCons (mSlot 0) (mCons (mVal (mLst (mCons (mVal (mC (.int 3))) (mCons (mVal (mC (.int 9))) (mCons (mVal (mC (.int 25))) mNil))))) mNil)))) mNil)))))) (mVal (mC (.int 0))))) mNil)))))))))) (sRet (mVar 3))))
def F__law_day : FL := runL 2 8 m__law_day
theorem len__law_day : ∀ g ds r, F__law_day g ds = some r → ds.length = 2 := fun _ _ _ h => runL_len h
/-! ### _law_due_table -/
abbrev N__law_due_table : List Str := ["rule", "teams", "matches", "wins", "left", "home", "guest", "first", "rallies", "kind", "winner", "played", "place"]
abbrev P__law_due_table : List Str := ["rule", "teams", "matches"]
def m__law_due_table : MS := (sSeq (sParNN 3 4 (mRep (mLst (mCons (mVal (mC (.int 0))) mNil)) (mVar 1)) (mLst mNil)) (sSeq (sFor (asL (mVar 2)) (gT 4 (gsCons (gN 5) (gsCons (gN 6) (gsCons (gN 7) (gsCons (gN 8) gsNil))))) (sSeq (sAsg (mCall F__law_played (mCons (mVal (mVar 0)) (mCons (mVal (mVar 7)) (mCons (mVal (mVar 8)) mNil)))) (gT 3 (gsCons (gN 9) (gsCons (gN 10) (gsCons (gN 11) gsNil))))) (mIf (asB (mP2 pEq (mSlot 9) (mVal (mC (.str "over"))))) (sSeq (sAsg (mP2 pIx (mVal (mLst (mCons (mVal (mVar 5)) (mCons (mVal (mVar 6)) mNil)))) (mSlot 10)) (gN 12)) (sStore 3 (mP2 pAdd (mVal (mP2 pIx (mSlot 3) (mSlot 12))) (mVal (mC (.int 1)))) (mVar 12))) (sAppend 4 (mTup (mCons (mVal (mPN pMin2 (A2 (mSlot 5) (mSlot 6)))) (mCons (mVal (mPN pMax2 (A2 (mSlot 5) (mSlot 6)))) mNil))))))) (sRet (mTup (mCons (mVal (mVar 3)) (mCons (mVal (mPN pSortP (A1 (mSlot 4)))) mNil))))))
def F__law_due_table : List PyData → Option (Except Xn PyData) := runP 3 13 m__law_due_table
theorem len__law_due_table : ∀ ds r, F__law_due_table ds = some r → ds.length = 3 := fun _ _ h => runP_len h
/-! ### _law_refused_right -/
abbrev N__law_refused_right : List Str := ["generator", "rule", "wrong", "one", "good", "odd", "one_odd"]
abbrev P__law_refused_right : List Str := ["generator", "rule"]
def m__law_refused_right : MS := (sSeq (sFor (asL (mCallL F__law_wrong_rules (mCons (mSlot 0) (mCons (mVal (mVar 1)) mNil)))) (gN 2) (mIf (nNot (asB (mRef (mCall F_table_of (mCons (mVal (mVar 2)) (mCons (mVal (mC .none)) (mCons (mVal (mC .none)) mNil)))) W_told M_ref (mCons (mVal (mC (.str "rule"))) (mCons (mVal (mVar 2)) mNil))))) (sRet (mC (.bool false))) (M.pure .nx))) (sSeq (sFor (asL (mLst (mCons (mVal (mC (.int 0))) (mCons (mVal (mC (.int 11))) (mCons (mVal (mNeg (mC (.int 1)))) (mCons (mVal (mC (.bool true))) (mCons (mVal (mC .none)) (mCons (mVal (mC (.str "2"))) (mCons (mVal (mLst (mCons (mVal (mC (.int 2))) mNil))) (mCons (mVal (mP2 pPow (mVal (mC (.int 10))) (mVal (mC (.int 20))))) mNil)))))))))) (gN 2) (mIf (nNot (asB (mRef (mCall F_table_of (mCons (mVal (mVar 1)) (mCons (mVal (mVar 2)) (mCons (mVal (mC .none)) mNil)))) W_told M_ref (mCons (mVal (mC (.str "number"))) (mCons (mVal (mVar 2)) mNil))))) (sRet (mC (.bool false))) (M.pure .nx))) (sSeq (sAsg (mTup (mCons (mVal (mTup (mCons (mVal (mC (.str "race"))) (mCons (mVal (mC (.int 2))) (mCons (mVal (mC (.int 1))) (mCons (mVal (mC .none)) (mCons (mVal (mTup (mCons (mVal (mC (.str "on"))) mNil))) (mCons (mVal (mTup (mCons (mVal (mC (.str "rally"))) mNil))) (mCons (mVal (mLst mNil)) mNil))))))))) (mCons (mVal (mTup (mCons (mVal (mC (.int 0))) (mCons (mVal (mC (.int 1))) (mCons (mVal (mC (.int 1))) (mCons (mVal (mLst (mCons (mVal (mC (.int 0))) (mCons (mVal (mC (.int 1))) mNil)))) mNil)))))) mNil))) (gT 2 (gsCons (gN 3) (gsCons (gN 4) gsNil)))) (sSeq (sAsg (mLst (mCons (mVal (mC .none)) (mCons (mVal (mC (.int 7))) (mCons (mVal (mTup mNil)) (mCons (mVal (mLst (mCons (mVal (mC (.int 0))) (mCons (mVal (mC (.int 1))) (mCons (mVal (mC (.int 1))) (mCons (mVal (mLst mNil)) mNil)))))) (mCons (mVal (mTup (mCons (mVal (mC (.int 0))) (mCons (mVal (mC (.int 1))) (mCons (mVal (mC (.int 1))) mNil))))) (mCons (mVal (mTup (mCons (mVal (mC (.int 0))) (mCons (mVal (mC (.int 1))) (mCons (mVal (mC (.int 1))) (mCons (mVal (mLst mNil)) (mCons (mVal (mC (.int 0))) mNil))))))) (mCons (mVal (mTup (mCons (mVal (mC (.int 0))) (mCons (mVal (mC (.int 0))) (mCons (mVal (mC (.int 1))) (mCons (mVal (mLst mNil)) mNil)))))) (mCons (mVal (mTup (mCons (mVal (mC (.int 0))) (mCons (mVal (mC (.int 3))) (mCons (mVal (mC (.int 1))) (mCons (mVal (mLst mNil)) mNil)))))) (mCons (mVal (mTup (mCons (mVal (mNeg (mC (.int 1)))) (mCons (mVal (mC (.int 1))) (mCons (mVal (mC (.int 1))) (mCons (mVal (mLst mNil)) mNil)))))) (mCons (mVal (mTup (mCons (mVal (mC (.bool true))) (mCons (mVal (mC (.int 0))) (mCons (mVal (mC (.int 1))) (mCons (mVal (mLst mNil)) mNil)))))) (mCons (mVal (mTup (mCons (mVal (mC (.int 0))) (mCons (mVal (mC .none)) (mCons (mVal (mC (.int 1))) (mCons (mVal (mLst mNil)) mNil)))))) (mCons (mVal (mTup (mCons (mVal (mC (.int 0))) (mCons (mVal (mC (.int 1))) (mCons (mVal (mC (.int 2))) (mCons (mVal (mLst mNil)) mNil)))))) (mCons (mVal (mTup (mCons (mVal (mC (.int 0))) (mCons (mVal (mC (.int 1))) (mCons (mVal (mC .none)) (mCons (mVal (mLst mNil)) mNil)))))) (mCons (mVal (mTup (mCons (mVal (mC (.int 0))) (mCons (mVal (mC (.int 1))) (mCons (mVal (mC (.bool true))) (mCons (mVal (mLst mNil)) mNil)))))) (mCons (mVal (mTup (mCons (mVal (mC (.int 0))) (mCons (mVal (mC (.int 1))) (mCons (mVal (mC (.int 1))) (mCons (mVal (mTup (mCons (mVal (mC (.int 0))) (mCons (mVal (mC (.int 1))) mNil)))) mNil)))))) (mCons (mVal (mTup (mCons (mVal (mC (.int 0))) (mCons (mVal (mC (.int 1))) (mCons (mVal (mC (.int 1))) (mCons (mVal (mLst (mCons (mVal (mC (.int 2))) mNil))) mNil)))))) (mCons (mVal (mTup (mCons (mVal (mC (.int 0))) (mCons (mVal (mC (.int 1))) (mCons (mVal (mC (.int 1))) (mCons (mVal (mLst (mCons (mVal (mC (.bool true))) mNil))) mNil)))))) (mCons (mVal (mTup (mCons (mVal (mC (.int 0))) (mCons (mVal (mC (.int 1))) (mCons (mVal (mC (.int 1))) (mCons (mVal (mC .none)) mNil)))))) (mCons (mVal (mTup (mCons (mVal (mC (.int 0))) (mCons (mVal (mC (.int 1))) (mCons (mVal (mC (.int 1))) (mCons (mVal (mLst (mCons (mVal (mC (.int 0))) (mCons (mVal (mC (.int 0))) (mCons (mVal (mC (.int 1))) mNil))))) mNil)))))) mNil)))))))))))))))))))) (gN 5)) (sSeq (sFor (asL (mP2 pAdd (mVal (mP2 pAdd (mVal (mLc [6] (asL (mVar 5)) (gN 6) (M.pure true) (mLst (mCons (mVal (mVar 4)) (mCons (mVal (mVar 6)) mNil))))) (mVal (mLc [6] (asL (mVar 5)) (gN 6) (M.pure true) (mLst (mCons (mVal (mVar 6)) (mCons (mVal (mVar 4)) mNil))))))) (mVal (mLst (mCons (mVal (mC .none)) (mCons (mVal (mC (.int 0))) (mCons (mVal (mTup (mCons (mVal (mVar 4)) mNil))) (mCons (mVal (mC (.dict []))) (mCons (mVal (mC (.str "0"))) mNil))))))))) (gN 2) (mIf (nNot (asB (mRef (mCall F_table_of (mCons (mVal (mVar 3)) (mCons (mVal (mC (.int 3))) (mCons (mVal (mVar 2)) mNil)))) W_told M_ref (mCons (mVal (mC (.str "day"))) (mCons (mVal (mVar 2)) mNil))))) (sRet (mC (.bool false))) (M.pure .nx))) (sRet (mP2 pEq (mVal (mCall F_table_of (mCons (mVal (mVar 3)) (mCons (mVal (mC (.int 3))) (mCons (mVal (mLst (mCons (mVal (mVar 4)) mNil))) mNil))))) (mVal (mTup (mCons (mVal (mLst (mCons (mVal (mC (.int 0))) (mCons (mVal (mC (.int 0))) (mCons (mVal (mC (.int 0))) mNil))))) (mCons (mVal (mLst (mCons (mVal (mTup (mCons (mVal (mC (.int 0))) (mCons (mVal (mC (.int 1))) mNil)))) mNil))) mNil)))))))))))
def F__law_refused_right : FL := runL 1 7 m__law_refused_right
theorem len__law_refused_right : ∀ g ds r, F__law_refused_right g ds = some r → ds.length = 1 := fun _ _ _ h => runL_len h
/-! ### law -/
abbrev N_law : List Str := ["script", "index", "generator", "rule", "teams", "matches", "kept", "due", "told"]
abbrev P_law : List Str := ["script"]
noncomputable def m_law : MS := (sSeq (sFor (mRng1 (mCons (mVal (mC (.int 2))) mNil)) (gN 1) (sSeq (sOwn (mCallN F__law_generator (mCons (mVal (mVar 0)) (mCons (mVal (mVar 1)) mNil))) 2) (sSeq (sPar 3 4 (mCallL F__law_small_rule (mCons (mSlot 2) mNil)) (mP2 pAdd (mVal (mC (.int 2))) (mVal (mCallL F__law_random (mCons (mSlot 2) (mCons (mVal (mC (.int 4))) mNil)))))) (sSeq (sAsg (mCallL F__law_day (mCons (mSlot 2) (mCons (mVal (mVar 3)) (mCons (mVal (mVar 4)) mNil)))) (gN 5)) (sSeq (sPar 6 7 (mPN pRepr (A1 (mVal (mLst (mCons (mVal (mVar 3)) (mCons (mVal (mVar 5)) mNil)))))) (mCall F__law_due_table (mCons (mVal (mVar 3)) (mCons (mVal (mVar 4)) (mCons (mVal (mVar 5)) mNil))))) (sSeq (sMark 8 (mCall F_table_of (mCons (mVal (mVar 3)) (mCons (mVal (mVar 4)) (mCons (mVal (mVar 5)) mNil)))) (nNot (asB (mIsi "tuple" (mSlot 8)))) (asB (mP2 pNe (mVal (mPN pRepr (A1 (mSlot 8)))) (mVal (mPN pRepr (A1 (mSlot 7)))))) (nOr (asB (mP2 pNe (mVal (mPN pRepr (A1 (mVal (mCall F_table_of (mCons (mVal (mVar 3)) (mCons (mVal (mVar 4)) (mCons (mVal (mVar 5)) mNil)))))))) (mVal (mPN pRepr (A1 (mSlot 7)))))) (asB (mP2 pNe (mVal (mPN pRepr (A1 (mVal (mLst (mCons (mVal (mVar 3)) (mCons (mVal (mVar 5)) mNil))))))) (mSlot 6)))) N2_mark 4) (mIf (nAnd (asB (mP2 pEq (mSlot 1) (mVal (mC (.int 1))))) (nNot (asB (mCallL F__law_refused_right (mCons (mSlot 2) (mCons (mVal (mVar 3)) mNil)))))) (sRet (mC (.bool false))) (M.pure .nx)))))))) (sSeq (sAsg (mCall F_table_of (mCons (mVal (mTup (mCons (mVal (mC (.str "race"))) (mCons (mVal (mC (.int 1))) (mCons (mVal (mC (.int 1))) (mCons (mVal (mC .none)) (mCons (mVal (mTup (mCons (mVal (mC (.str "on"))) mNil))) (mCons (mVal (mTup (mCons (mVal (mC (.str "rally"))) mNil))) (mCons (mVal (mLst mNil)) mNil))))))))) (mCons (mVal (mC (.int 3))) (mCons (mVal (mLst (mCons (mVal (mTup (mCons (mVal (mC (.int 2))) (mCons (mVal (mC (.int 0))) (mCons (mVal (mC (.int 0))) (mCons (mVal (mLst (mCons (mVal (mC (.int 1))) mNil))) mNil)))))) (mCons (mVal (mTup (mCons (mVal (mC (.int 1))) (mCons (mVal (mC (.int 0))) (mCons (mVal (mC (.int 0))) (mCons (mVal (mLst mNil)) mNil)))))) (mCons (mVal (mTup (mCons (mVal (mC (.int 1))) (mCons (mVal (mC (.int 2))) (mCons (mVal (mC (.int 1))) (mCons (mVal (mLst (mCons (mVal (mC (.int 0))) mNil))) mNil)))))) mNil))))) mNil)))) (gN 8)) (sRet (mAnd (mP2 pEq (mSlot 8) (mVal (mTup (mCons (mVal (mLst (mCons (mVal (mC (.int 1))) (mCons (mVal (mC (.int 1))) (mCons (mVal (mC (.int 0))) mNil))))) (mCons (mVal (mLst (mCons (mVal (mTup (mCons (mVal (mC (.int 0))) (mCons (mVal (mC (.int 1))) mNil)))) mNil))) mNil))))) (mAnd (mP2 pEq (mVal (mCall F_table_of (mCons (mVal (mTup (mCons (mVal (mC (.str "rally"))) mNil))) (mCons (mVal (mC (.int 1))) (mCons (mVal (mLst mNil)) mNil))))) (mVal (mTup (mCons (mVal (mLst (mCons (mVal (mC (.int 0))) mNil))) (mCons (mVal (mLst mNil)) mNil))))) (mP2 pEq (mVal (mCall F_table_of (mCons (mVal (mTup (mCons (mVal (mC (.str "hand"))) mNil))) (mCons (mVal (mC (.int 10))) (mCons (mVal (mLst (mCons (mVal (mTup (mCons (mVal (mC (.int 9))) (mCons (mVal (mC (.int 3))) (mCons (mVal (mC (.int 0))) (mCons (mVal (mLst (mCons (mVal (mC (.int 1))) mNil))) mNil)))))) mNil))) mNil))))) (mVal (mTup (mCons (mVal (mRep (mLst (mCons (mVal (mC (.int 0))) mNil)) (mC (.int 10)))) (mCons (mVal (mLst (mCons (mVal (mTup (mCons (mVal (mC (.int 3))) (mCons (mVal (mC (.int 9))) mNil)))) mNil))) mNil))))))))))
noncomputable def F_law : List PyData → Option (Except Xn PyData) := runP 1 9 m_law
theorem len_law : ∀ ds r, F_law ds = some r → ds.length = 1 := fun _ _ h => runP_len h
end K79
end

section
set_option Elab.async false
set_option linter.all false
set_option maxRecDepth 100000
set_option maxHeartbeats 4000000
/-! O79: the defs of k79 keep their meanings (printed by wip/gen.py). -/
namespace K79
open PySem PySem.Spec PyProof.Rows L2 LamX EV
section
variable {P : Program} {w : World} {K : PySem.W.Frag} {mg : Str → Option Value} {base : Heap} {ec : EC}

theorem sc_is_whole : FnScope N_is_whole P_is_whole (defScope (top 9)) := ⟨rfl, rfl, rfl, by decide +kernel, rfl, by decide +kernel, by decide +kernel⟩
theorem ok_is_whole {f : Addr} {fd : FuncData} (Fu : Fun K "is_whole" "is_whole" (top 9) f fd) (hm : mg "is_whole" = some (.ref f)) (hbn : ∀ x ∈ bns, mg x = none)  :
    GD P w K mg base "is_whole" (0 + 1) P_is_whole (spP K ec 1 F_is_whole) := by
  have nd : (N_is_whole : List Str).Nodup := sc_is_whole.nd
  refine gd_mk Fu hm (fn_ok (N := N_is_whole) (k := 0) (m := m_is_whole) Fu sc_is_whole fun cdv A outer s H E hr hG => ?_) (fun _ _ _ _ _ _ us hl => match us, hl with | [_], _ => rfl) (fun _ _ _ _ _ _ us hl => match us, hl with | [_], _ => rfl)
  have hr0 := hr.mono (Nat.zero_le _)
  exact (evSs_one (evS_ret (ev_and (ev_isi kt_int rfl (hbn "isinstance" (by decide)) bb_isinstance rfl (hbn "int" (by decide)) bb_int (by decide) (by decide) (evO_var rfl (by first | exact .inl rfl | exact .inr (.inl rfl) | exact .inr (.inr rfl)) (by decide) (by decide)) (by rfl) (by rfl) (by rfl)) (ev_one (ev_not (ev_isi kt_bool rfl (hbn "isinstance" (by decide)) bb_isinstance rfl (hbn "bool" (by decide)) bb_bool (by decide) (by decide) (evO_var rfl (by first | exact .inl rfl | exact .inr (.inl rfl) | exact .inr (.inr rfl)) (by decide) (by decide)) (by rfl) (by rfl) (by rfl)))))))
theorem sc_is_count : FnScope N_is_count P_is_count (defScope (top 10)) := ⟨rfl, rfl, rfl, by decide +kernel, rfl, by decide +kernel, by decide +kernel⟩
theorem ok_is_count {f : Addr} {fd : FuncData} (Fu : Fun K "is_count" "is_count" (top 10) f fd) (hm : mg "is_count" = some (.ref f)) (hbn : ∀ x ∈ bns, mg x = none) (G_is_whole : GD P w K mg base "is_whole" 1 P_is_whole (spP K ec 1 F_is_whole)) :
    GD P w K mg base "is_count" (1 + 1) P_is_count (spP K ec 1 F_is_count) := by
  have nd : (N_is_count : List Str).Nodup := sc_is_count.nd
  refine gd_mk Fu hm (fn_ok (N := N_is_count) (k := 1) (m := m_is_count) Fu sc_is_count fun cdv A outer s H E hr hG => ?_) (fun _ _ _ _ _ _ us hl => match us, hl with | [_], _ => rfl) (fun _ _ _ _ _ _ us hl => match us, hl with | [_], _ => rfl)
  have hr0 := hr.mono (Nat.zero_le _)
  exact (evSs_one (evS_ret (ev_and (ev_gd G_is_whole len_is_whole (hr.mono (by omega)) hG rfl passX (evA_cons (evO_val (ev_var rfl (by first | exact .inl rfl | exact .inr (.inl rfl) | exact .inr (.inr rfl)) (by decide) (by decide))) evA_nil (by rfl)) (by decide) (by rfl) (by rfl)) (ev_one (ev_ge hr0 (evO_var rfl (by first | exact .inl rfl | exact .inr (.inl rfl) | exact .inr (.inr rfl)) (by decide) (by decide)) (evO_val ev_int) (by first | rfl | exact nobehind _ (by decide) (by decide)))))))
theorem sc_is_between : FnScope N_is_between P_is_between (defScope (top 11)) := ⟨rfl, rfl, rfl, by decide +kernel, rfl, by decide +kernel, by decide +kernel⟩
theorem ok_is_between {f : Addr} {fd : FuncData} (Fu : Fun K "is_between" "is_between" (top 11) f fd) (hm : mg "is_between" = some (.ref f)) (hbn : ∀ x ∈ bns, mg x = none) (G_is_whole : GD P w K mg base "is_whole" 1 P_is_whole (spP K ec 1 F_is_whole)) :
    GD P w K mg base "is_between" (1 + 1) P_is_between (spP K ec 3 F_is_between) := by
  have nd : (N_is_between : List Str).Nodup := sc_is_between.nd
  refine gd_mk Fu hm (fn_ok (N := N_is_between) (k := 1) (m := m_is_between) Fu sc_is_between fun cdv A outer s H E hr hG => ?_) (fun _ _ _ _ _ _ us hl => match us, hl with | [_, _, _], _ => rfl) (fun _ _ _ _ _ _ us hl => match us, hl with | [_, _, _], _ => rfl)
  have hr0 := hr.mono (Nat.zero_le _)
  exact (evSs_one (evS_ret (ev_and (ev_gd G_is_whole len_is_whole (hr.mono (by omega)) hG rfl passX (evA_cons (evO_val (ev_var rfl (by first | exact .inl rfl | exact .inr (.inl rfl) | exact .inr (.inr rfl)) (by decide) (by decide))) evA_nil (by rfl)) (by decide) (by rfl) (by rfl)) (ev_one (ev_lele (evO_var rfl (by first | exact .inl rfl | exact .inr (.inl rfl) | exact .inr (.inr rfl)) (by decide) (by decide)) (evO_var rfl (by first | exact .inl rfl | exact .inr (.inl rfl) | exact .inr (.inr rfl)) (by decide) (by decide)) (evO_var rfl (by first | exact .inl rfl | exact .inr (.inl rfl) | exact .inr (.inr rfl)) (by decide) (by decide)) (by rfl))))))
theorem sc_is_side : FnScope N_is_side P_is_side (defScope (top 12)) := ⟨rfl, rfl, rfl, by decide +kernel, rfl, by decide +kernel, by decide +kernel⟩
theorem ok_is_side {f : Addr} {fd : FuncData} (Fu : Fun K "is_side" "is_side" (top 12) f fd) (hm : mg "is_side" = some (.ref f)) (hbn : ∀ x ∈ bns, mg x = none) (G_is_between : GD P w K mg base "is_between" 2 P_is_between (spP K ec 3 F_is_between)) :
    GD P w K mg base "is_side" (2 + 1) P_is_side (spP K ec 1 F_is_side) := by
  have nd : (N_is_side : List Str).Nodup := sc_is_side.nd
  refine gd_mk Fu hm (fn_ok (N := N_is_side) (k := 2) (m := m_is_side) Fu sc_is_side fun cdv A outer s H E hr hG => ?_) (fun _ _ _ _ _ _ us hl => match us, hl with | [_], _ => rfl) (fun _ _ _ _ _ _ us hl => match us, hl with | [_], _ => rfl)
  have hr0 := hr.mono (Nat.zero_le _)
  exact (evSs_one (evS_ret (ev_gd G_is_between len_is_between (hr.mono (by omega)) hG rfl passX (evA_cons (evO_val (ev_var rfl (by first | exact .inl rfl | exact .inr (.inl rfl) | exact .inr (.inr rfl)) (by decide) (by decide))) (evA_cons (evO_val ev_int) (evA_cons (evO_val ev_int) evA_nil (by rfl)) (by rfl)) (by rfl)) (by decide) (by rfl) (by rfl))))
theorem sc_are_rallies : FnScope N_are_rallies P_are_rallies (defScope (top 13)) := ⟨rfl, rfl, rfl, by decide +kernel, rfl, by decide +kernel, by decide +kernel⟩
theorem ok_are_rallies {f : Addr} {fd : FuncData} (Fu : Fun K "are_rallies" "are_rallies" (top 13) f fd) (hm : mg "are_rallies" = some (.ref f)) (hbn : ∀ x ∈ bns, mg x = none) (G_is_side : GD P w K mg base "is_side" 3 P_is_side (spP K ec 1 F_is_side)) :
    GD P w K mg base "are_rallies" (3 + 1) P_are_rallies (spP K ec 1 F_are_rallies) := by
  have nd : (N_are_rallies : List Str).Nodup := sc_are_rallies.nd
  refine gd_mk Fu hm (fn_ok (N := N_are_rallies) (k := 3) (m := m_are_rallies) Fu sc_are_rallies fun cdv A outer s H E hr hG => ?_) (fun _ _ _ _ _ _ us hl => match us, hl with | [_], _ => rfl) (fun _ _ _ _ _ _ us hl => match us, hl with | [_], _ => rfl)
  have hr0 := hr.mono (Nat.zero_le _)
  exact (evSs_one (evS_ret (ev_and (ev_isi kt_list rfl (hbn "isinstance" (by decide)) bb_isinstance rfl (hbn "list" (by decide)) bb_list (by decide) (by decide) (evO_var rfl (by first | exact .inl rfl | exact .inr (.inl rfl) | exact .inr (.inr rfl)) (by decide) (by decide)) (by rfl) (by rfl) (by rfl)) (ev_one (ev_eq hr0 (evO_val (ev_fz (evN_lc (own := [("side", 1)]) rfl nd (evI_list (ev_var rfl (by first | exact .inl rfl | exact .inr (.inl rfl) | exact .inr (.inr rfl)) (by decide) (by decide))) (blkOk_by (by rfl)) (fun _ _ _ _ _ => (evG_name nd rfl (by first | exact .inl rfl | exact .inr rfl) (by first | exact .inl rfl | exact .inr rfl))) (fun _ _ _ _ _ => (evTs_one (evT_not (evT_val (ev_gd G_is_side len_is_side (hr.mono (by omega)) hG rfl (passB rfl) (evA_cons (evO_val (ev_var rfl (by first | exact .inl rfl | exact .inr (.inl rfl) | exact .inr (.inr rfl)) (by decide) (by decide))) evA_nil (by rfl)) (by decide) (by rfl) (by rfl)) (fun _ => rfl))))) (fun _ _ _ _ _ => (ev_var rfl (by first | exact .inl rfl | exact .inr (.inl rfl) | exact .inr (.inr rfl)) (by decide) (by decide))) (by decide) (fun _ => rfl)))) (evO_val (ev_fz (evN_lst evA_nil))) (by first | rfl | exact nobehind _ (by decide) (by decide)))))))
theorem sc_is_word : FnScope N_is_word P_is_word (defScope (top 14)) := ⟨rfl, rfl, rfl, by decide +kernel, rfl, by decide +kernel, by decide +kernel⟩
theorem ok_is_word {f : Addr} {fd : FuncData} (Fu : Fun K "is_word" "is_word" (top 14) f fd) (hm : mg "is_word" = some (.ref f)) (hbn : ∀ x ∈ bns, mg x = none)  :
    GD P w K mg base "is_word" (0 + 1) P_is_word (spP K ec 2 F_is_word) := by
  have nd : (N_is_word : List Str).Nodup := sc_is_word.nd
  refine gd_mk Fu hm (fn_ok (N := N_is_word) (k := 0) (m := m_is_word) Fu sc_is_word fun cdv A outer s H E hr hG => ?_) (fun _ _ _ _ _ _ us hl => match us, hl with | [_, _], _ => rfl) (fun _ _ _ _ _ _ us hl => match us, hl with | [_, _], _ => rfl)
  have hr0 := hr.mono (Nat.zero_le _)
  exact (evSs_one (evS_ret (ev_and (ev_isi kt_tuple rfl (hbn "isinstance" (by decide)) bb_isinstance rfl (hbn "tuple" (by decide)) bb_tuple (by decide) (by decide) (evO_var rfl (by first | exact .inl rfl | exact .inr (.inl rfl) | exact .inr (.inr rfl)) (by decide) (by decide)) (by rfl) (by rfl) (by rfl)) (ev_and (ev_eq hr0 (evO_val (ev_len rfl (hbn "len" (by decide)) (evO_var rfl (by first | exact .inl rfl | exact .inr (.inl rfl) | exact .inr (.inr rfl)) (by decide) (by decide)) (by rfl) (by rfl))) (evO_val ev_int) (by first | rfl | exact nobehind _ (by decide) (by decide))) (ev_and (ev_isi kt_str rfl (hbn "isinstance" (by decide)) bb_isinstance rfl (hbn "str" (by decide)) bb_str (by decide) (by decide) (evO_val (ev_index (evO_var rfl (by first | exact .inl rfl | exact .inr (.inl rfl) | exact .inr (.inr rfl)) (by decide) (by decide)) (evO_val ev_int) (fun _ _ => rfl))) (by rfl) (by rfl) (by rfl)) (ev_one (ev_eq hr0 (evO_val (ev_index (evO_var rfl (by first | exact .inl rfl | exact .inr (.inl rfl) | exact .inr (.inr rfl)) (by decide) (by decide)) (evO_val ev_int) (fun _ _ => rfl))) (evO_var rfl (by first | exact .inl rfl | exact .inr (.inl rfl) | exact .inr (.inr rfl)) (by decide) (by decide)) (by first | rfl | exact nobehind _ (by decide) (by decide)))))))))
theorem sc_is_order : FnScope N_is_order P_is_order (defScope (top 15)) := ⟨rfl, rfl, rfl, by decide +kernel, rfl, by decide +kernel, by decide +kernel⟩
theorem ok_is_order {f : Addr} {fd : FuncData} (Fu : Fun K "is_order" "is_order" (top 15) f fd) (hm : mg "is_order" = some (.ref f)) (hbn : ∀ x ∈ bns, mg x = none) (G_is_word : GD P w K mg base "is_word" 1 P_is_word (spP K ec 2 F_is_word)) (G_is_side : GD P w K mg base "is_side" 3 P_is_side (spP K ec 1 F_is_side)) (C_ORDERS : GC K mg "ORDERS" D_ORDERS) :
    GD P w K mg base "is_order" (3 + 1) P_is_order (spP K ec 1 F_is_order) := by
  have nd : (N_is_order : List Str).Nodup := sc_is_order.nd
  refine gd_mk Fu hm (fn_ok (N := N_is_order) (k := 3) (m := m_is_order) Fu sc_is_order fun cdv A outer s H E hr hG => ?_) (fun _ _ _ _ _ _ us hl => match us, hl with | [_], _ => rfl) (fun _ _ _ _ _ _ us hl => match us, hl with | [_], _ => rfl)
  have hr0 := hr.mono (Nat.zero_le _)
  exact (evSs_cons (evS_if (evT_ne hr0 (evO_val (ev_fz (evN_lc (own := [("word", 1)]) rfl nd (evI_list (ev_gc C_ORDERS rfl (by decide))) (blkOk_by (by rfl)) (fun _ _ _ _ _ => (evG_name nd rfl (by first | exact .inl rfl | exact .inr rfl) (by first | exact .inl rfl | exact .inr rfl))) (fun _ _ _ _ _ => (evTs_one (evT_val (ev_gd G_is_word len_is_word (hr.mono (by omega)) hG rfl (passB rfl) (evA_cons (evO_val (ev_var rfl (by first | exact .inl rfl | exact .inr (.inl rfl) | exact .inr (.inr rfl)) (by decide) (by decide))) (evA_cons (evO_val (ev_var rfl (by first | exact .inl rfl | exact .inr (.inl rfl) | exact .inr (.inr rfl)) (by decide) (by decide))) evA_nil (by rfl)) (by rfl)) (by decide) (by rfl) (by rfl)) (fun _ => rfl)))) (fun _ _ _ _ _ => (ev_var rfl (by first | exact .inl rfl | exact .inr (.inl rfl) | exact .inr (.inr rfl)) (by decide) (by decide))) (by decide) (fun _ => rfl)))) (evO_val (ev_fz (evN_lst evA_nil))) (by first | rfl | exact nobehind _ (by decide) (by decide))) (evSs_one (evS_ret ev_bl)) evSs_nil) (evSs_cons (evS_if (evT_w (evW_or (evT_not (evT_val (ev_isi kt_tuple rfl (hbn "isinstance" (by decide)) bb_isinstance rfl (hbn "tuple" (by decide)) bb_tuple (by decide) (by decide) (evO_var rfl (by first | exact .inl rfl | exact .inr (.inl rfl) | exact .inr (.inr rfl)) (by decide) (by decide)) (by rfl) (by rfl) (by rfl)) (fun _ => rfl))) (evW_or (evT_ne hr0 (evO_val (ev_len rfl (hbn "len" (by decide)) (evO_var rfl (by first | exact .inl rfl | exact .inr (.inl rfl) | exact .inr (.inr rfl)) (by decide) (by decide)) (by rfl) (by rfl))) (evO_val ev_int) (by first | rfl | exact nobehind _ (by decide) (by decide))) (evW_or (evT_not (evT_val (ev_isi kt_str rfl (hbn "isinstance" (by decide)) bb_isinstance rfl (hbn "str" (by decide)) bb_str (by decide) (by decide) (evO_val (ev_index (evO_var rfl (by first | exact .inl rfl | exact .inr (.inl rfl) | exact .inr (.inr rfl)) (by decide) (by decide)) (evO_val ev_int) (fun _ _ => rfl))) (by rfl) (by rfl) (by rfl)) (fun _ => rfl))) (evW_or1 (evT_ne hr0 (evO_val (ev_index (evO_var rfl (by first | exact .inl rfl | exact .inr (.inl rfl) | exact .inr (.inr rfl)) (by decide) (by decide)) (evO_val ev_int) (fun _ _ => rfl))) (evO_val ev_str) (by first | rfl | exact nobehind _ (by decide) (by decide)))))))) (evSs_one (evS_ret ev_bl)) evSs_nil) (evSs_cons (evS_if (evT_w (evW_or (evT_not (evT_val (ev_isi kt_list rfl (hbn "isinstance" (by decide)) bb_isinstance rfl (hbn "list" (by decide)) bb_list (by decide) (by decide) (evO_val (ev_index (evO_var rfl (by first | exact .inl rfl | exact .inr (.inl rfl) | exact .inr (.inr rfl)) (by decide) (by decide)) (evO_val ev_int) (fun _ _ => rfl))) (by rfl) (by rfl) (by rfl)) (fun _ => rfl))) (evW_or1 (evT_not (evT_lele (evO_val ev_int) (evO_val (ev_len rfl (hbn "len" (by decide)) (evO_val (ev_index (evO_var rfl (by first | exact .inl rfl | exact .inr (.inl rfl) | exact .inr (.inr rfl)) (by decide) (by decide)) (evO_val ev_int) (fun _ _ => rfl))) (by rfl) (by rfl))) (evO_val ev_int) (by rfl)))))) (evSs_one (evS_ret ev_bl)) evSs_nil) (evSs_one (evS_ret (ev_eq hr0 (evO_val (ev_fz (evN_lc (own := [("mark", 2)]) rfl nd (evI_list (ev_index (evO_var rfl (by first | exact .inl rfl | exact .inr (.inl rfl) | exact .inr (.inr rfl)) (by decide) (by decide)) (evO_val ev_int) (fun _ _ => rfl))) (blkOk_by (by rfl)) (fun _ _ _ _ _ => (evG_name nd rfl (by first | exact .inl rfl | exact .inr rfl) (by first | exact .inl rfl | exact .inr rfl))) (fun _ _ _ _ _ => (evTs_one (evT_not (evT_val (ev_gd G_is_side len_is_side (hr.mono (by omega)) hG rfl (passB rfl) (evA_cons (evO_val (ev_var rfl (by first | exact .inl rfl | exact .inr (.inl rfl) | exact .inr (.inr rfl)) (by decide) (by decide))) evA_nil (by rfl)) (by decide) (by rfl) (by rfl)) (fun _ => rfl))))) (fun _ _ _ _ _ => (ev_var rfl (by first | exact .inl rfl | exact .inr (.inl rfl) | exact .inr (.inr rfl)) (by decide) (by decide))) (by decide) (fun _ => rfl)))) (evO_val (ev_fz (evN_lst evA_nil))) (by first | rfl | exact nobehind _ (by decide) (by decide))))))))
theorem sc_are_numbers_of_race : FnScope N_are_numbers_of_race P_are_numbers_of_race (defScope (top 16)) := ⟨rfl, rfl, rfl, by decide +kernel, rfl, by decide +kernel, by decide +kernel⟩
theorem ok_are_numbers_of_race {f : Addr} {fd : FuncData} (Fu : Fun K "are_numbers_of_race" "are_numbers_of_race" (top 16) f fd) (hm : mg "are_numbers_of_race" = some (.ref f)) (hbn : ∀ x ∈ bns, mg x = none) (G_is_between : GD P w K mg base "is_between" 2 P_is_between (spP K ec 3 F_is_between)) :
    GD P w K mg base "are_numbers_of_race" (2 + 1) P_are_numbers_of_race (spP K ec 3 F_are_numbers_of_race) := by
  have nd : (N_are_numbers_of_race : List Str).Nodup := sc_are_numbers_of_race.nd
  refine gd_mk Fu hm (fn_ok (N := N_are_numbers_of_race) (k := 2) (m := m_are_numbers_of_race) Fu sc_are_numbers_of_race fun cdv A outer s H E hr hG => ?_) (fun _ _ _ _ _ _ us hl => match us, hl with | [_, _, _], _ => rfl) (fun _ _ _ _ _ _ us hl => match us, hl with | [_, _, _], _ => rfl)
  have hr0 := hr.mono (Nat.zero_le _)
  exact (evSs_cons (evS_if (evT_w (evW_or (evT_not (evT_val (ev_gd G_is_between len_is_between (hr.mono (by omega)) hG rfl passX (evA_cons (evO_val (ev_var rfl (by first | exact .inl rfl | exact .inr (.inl rfl) | exact .inr (.inr rfl)) (by decide) (by decide))) (evA_cons (evO_val ev_int) (evA_cons (evO_val ev_int) evA_nil (by rfl)) (by rfl)) (by rfl)) (by decide) (by rfl) (by rfl)) (fun _ => rfl))) (evW_or1 (evT_not (evT_val (ev_gd G_is_between len_is_between (hr.mono (by omega)) hG rfl passX (evA_cons (evO_val (ev_var rfl (by first | exact .inl rfl | exact .inr (.inl rfl) | exact .inr (.inr rfl)) (by decide) (by decide))) (evA_cons (evO_val ev_int) (evA_cons (evO_val ev_int) evA_nil (by rfl)) (by rfl)) (by rfl)) (by decide) (by rfl) (by rfl)) (fun _ => rfl)))))) (evSs_one (evS_ret ev_bl)) evSs_nil) (evSs_one (evS_ret (ev_or (ev_isN (evO_var rfl (by first | exact .inl rfl | exact .inr (.inl rfl) | exact .inr (.inr rfl)) (by decide) (by decide)) (evO_val ev_non)) (ev_one (ev_gd G_is_between len_is_between (hr.mono (by omega)) hG rfl passX (evA_cons (evO_val (ev_var rfl (by first | exact .inl rfl | exact .inr (.inl rfl) | exact .inr (.inr rfl)) (by decide) (by decide))) (evA_cons (evO_val (ev_var rfl (by first | exact .inl rfl | exact .inr (.inl rfl) | exact .inr (.inr rfl)) (by decide) (by decide))) (evA_cons (evO_val ev_int) evA_nil (by rfl)) (by rfl)) (by rfl)) (by decide) (by rfl) (by rfl)))))))
theorem sc_is_score : FnScope N_is_score P_is_score (defScope (top 17)) := ⟨rfl, rfl, rfl, by decide +kernel, rfl, by decide +kernel, by decide +kernel⟩
theorem ok_is_score {f : Addr} {fd : FuncData} (Fu : Fun K "is_score" "is_score" (top 17) f fd) (hm : mg "is_score" = some (.ref f)) (hbn : ∀ x ∈ bns, mg x = none) (G_is_count : GD P w K mg base "is_count" 2 P_is_count (spP K ec 1 F_is_count)) :
    GD P w K mg base "is_score" (2 + 1) P_is_score (spP K ec 1 F_is_score) := by
  have nd : (N_is_score : List Str).Nodup := sc_is_score.nd
  refine gd_mk Fu hm (fn_ok (N := N_is_score) (k := 2) (m := m_is_score) Fu sc_is_score fun cdv A outer s H E hr hG => ?_) (fun _ _ _ _ _ _ us hl => match us, hl with | [_], _ => rfl) (fun _ _ _ _ _ _ us hl => match us, hl with | [_], _ => rfl)
  have hr0 := hr.mono (Nat.zero_le _)
  exact (evSs_one (evS_ret (ev_and (ev_isi kt_tuple rfl (hbn "isinstance" (by decide)) bb_isinstance rfl (hbn "tuple" (by decide)) bb_tuple (by decide) (by decide) (evO_var rfl (by first | exact .inl rfl | exact .inr (.inl rfl) | exact .inr (.inr rfl)) (by decide) (by decide)) (by rfl) (by rfl) (by rfl)) (ev_and (ev_eq hr0 (evO_val (ev_len rfl (hbn "len" (by decide)) (evO_var rfl (by first | exact .inl rfl | exact .inr (.inl rfl) | exact .inr (.inr rfl)) (by decide) (by decide)) (by rfl) (by rfl))) (evO_val ev_int) (by first | rfl | exact nobehind _ (by decide) (by decide))) (ev_and (ev_gd G_is_count len_is_count (hr.mono (by omega)) hG rfl passX (evA_cons (evO_val (ev_index (evO_var rfl (by first | exact .inl rfl | exact .inr (.inl rfl) | exact .inr (.inr rfl)) (by decide) (by decide)) (evO_val ev_int) (fun _ _ => rfl))) evA_nil (by rfl)) (by decide) (by rfl) (by rfl)) (ev_one (ev_gd G_is_count len_is_count (hr.mono (by omega)) hG rfl passX (evA_cons (evO_val (ev_index (evO_var rfl (by first | exact .inl rfl | exact .inr (.inl rfl) | exact .inr (.inr rfl)) (by decide) (by decide)) (evO_val ev_int) (fun _ _ => rfl))) evA_nil (by rfl)) (by decide) (by rfl) (by rfl))))))))
theorem sc_is_special : FnScope N_is_special P_is_special (defScope (top 18)) := ⟨rfl, rfl, rfl, by decide +kernel, rfl, by decide +kernel, by decide +kernel⟩
theorem ok_is_special {n : Nat} {k : Nat} (hk0 : 3 ≤ k) {kG_is_rule_within : Nat} (hk_is_rule_within : kG_is_rule_within ≤ k) {f : Addr} {fd : FuncData} (Fu : Fun K "is_special" "is_special" (top 18) f fd) (hm : mg "is_special" = some (.ref f)) (hbn : ∀ x ∈ bns, mg x = none) (G_is_score : GD P w K mg base "is_score" 3 P_is_score (spP K ec 1 F_is_score)) (G_is_rule_within : GD P w K mg base "is_rule_within" kG_is_rule_within P_is_rule_within (spP K ec 2 (F_is_rule_within n))) :
    GD P w K mg base "is_special" (k + 1) P_is_special (spP K ec 2 (F_is_special n)) := by
  have nd : (N_is_special : List Str).Nodup := sc_is_special.nd
  refine gd_mk Fu hm (fn_ok (N := N_is_special) (k := k) (m := (m_is_special (F_is_rule_within n))) Fu sc_is_special fun cdv A outer s H E hr hG => ?_) (fun _ _ _ _ _ _ us hl => match us, hl with | [_, _], _ => rfl) (fun _ _ _ _ _ _ us hl => match us, hl with | [_, _], _ => rfl)
  have hr0 := hr.mono (Nat.zero_le _)
  exact (evSs_cons (evS_if (evT_w (evW_or (evT_not (evT_val (ev_isi kt_tuple rfl (hbn "isinstance" (by decide)) bb_isinstance rfl (hbn "tuple" (by decide)) bb_tuple (by decide) (by decide) (evO_var rfl (by first | exact .inl rfl | exact .inr (.inl rfl) | exact .inr (.inr rfl)) (by decide) (by decide)) (by rfl) (by rfl) (by rfl)) (fun _ => rfl))) (evW_or (evT_ne hr0 (evO_val (ev_len rfl (hbn "len" (by decide)) (evO_var rfl (by first | exact .inl rfl | exact .inr (.inl rfl) | exact .inr (.inr rfl)) (by decide) (by decide)) (by rfl) (by rfl))) (evO_val ev_int) (by first | rfl | exact nobehind _ (by decide) (by decide))) (evW_or (evT_not (evT_val (ev_gd G_is_score len_is_score (hr.mono (by omega)) hG rfl passX (evA_cons (evO_val (ev_index (evO_var rfl (by first | exact .inl rfl | exact .inr (.inl rfl) | exact .inr (.inr rfl)) (by decide) (by decide)) (evO_val ev_int) (fun _ _ => rfl))) evA_nil (by rfl)) (by decide) (by rfl) (by rfl)) (fun _ => rfl))) (evW_or1 (evT_gt (evO_val (ev_max1 hr0 rfl rfl (hbn "max" (by decide)) (evO_val (ev_index (evO_var rfl (by first | exact .inl rfl | exact .inr (.inl rfl) | exact .inr (.inr rfl)) (by decide) (by decide)) (evO_val ev_int) (fun _ _ => rfl))) (by rfl) (by rfl))) (evO_val ev_int))))))) (evSs_one (evS_ret ev_bl)) evSs_nil) (evSs_one (evS_ret (ev_gd G_is_rule_within (len_is_rule_within n) (hr.mono (by omega)) hG rfl passX (evA_cons (evO_val (ev_index (evO_var rfl (by first | exact .inl rfl | exact .inr (.inl rfl) | exact .inr (.inr rfl)) (by decide) (by decide)) (evO_val ev_int) (fun _ _ => rfl))) (evA_cons (evO_val (ev_var rfl (by first | exact .inl rfl | exact .inr (.inl rfl) | exact .inr (.inr rfl)) (by decide) (by decide))) evA_nil (by rfl)) (by rfl)) (by decide) (by rfl) (by rfl)))))
theorem sc_are_specials : FnScope N_are_specials P_are_specials (defScope (top 19)) := ⟨rfl, rfl, rfl, by decide +kernel, rfl, by decide +kernel, by decide +kernel⟩
theorem ok_are_specials {n : Nat} {k : Nat} (hk0 : 0 ≤ k) {kG_is_special : Nat} (hk_is_special : kG_is_special ≤ k) {f : Addr} {fd : FuncData} (Fu : Fun K "are_specials" "are_specials" (top 19) f fd) (hm : mg "are_specials" = some (.ref f)) (hbn : ∀ x ∈ bns, mg x = none) (G_is_special : GD P w K mg base "is_special" kG_is_special P_is_special (spP K ec 2 (F_is_special n))) :
    GD P w K mg base "are_specials" (k + 1) P_are_specials (spP K ec 2 (F_are_specials n)) := by
  have nd : (N_are_specials : List Str).Nodup := sc_are_specials.nd
  refine gd_mk Fu hm (fn_ok (N := N_are_specials) (k := k) (m := (m_are_specials (F_is_special n))) Fu sc_are_specials fun cdv A outer s H E hr hG => ?_) (fun _ _ _ _ _ _ us hl => match us, hl with | [_, _], _ => rfl) (fun _ _ _ _ _ _ us hl => match us, hl with | [_, _], _ => rfl)
  have hr0 := hr.mono (Nat.zero_le _)
  exact (evSs_cons (evS_if (evT_w (evW_or (evT_not (evT_val (ev_isi kt_list rfl (hbn "isinstance" (by decide)) bb_isinstance rfl (hbn "list" (by decide)) bb_list (by decide) (by decide) (evO_var rfl (by first | exact .inl rfl | exact .inr (.inl rfl) | exact .inr (.inr rfl)) (by decide) (by decide)) (by rfl) (by rfl) (by rfl)) (fun _ => rfl))) (evW_or (evT_gt (evO_val (ev_len rfl (hbn "len" (by decide)) (evO_var rfl (by first | exact .inl rfl | exact .inr (.inl rfl) | exact .inr (.inr rfl)) (by decide) (by decide)) (by rfl) (by rfl))) (evO_val ev_int)) (evW_or1 (evT_ne hr0 (evO_val (ev_fz (evN_lc (own := [("one", 2)]) rfl nd (evI_list (ev_var rfl (by first | exact .inl rfl | exact .inr (.inl rfl) | exact .inr (.inr rfl)) (by decide) (by decide))) (blkOk_by (by rfl)) (fun _ _ _ _ _ => (evG_name nd rfl (by first | exact .inl rfl | exact .inr rfl) (by first | exact .inl rfl | exact .inr rfl))) (fun _ _ _ _ _ => (evTs_one (evT_not (evT_val (ev_gd G_is_special (len_is_special n) (hr.mono (by omega)) hG rfl (passB rfl) (evA_cons (evO_val (ev_var rfl (by first | exact .inl rfl | exact .inr (.inl rfl) | exact .inr (.inr rfl)) (by decide) (by decide))) (evA_cons (evO_val (ev_var rfl (by first | exact .inl rfl | exact .inr (.inl rfl) | exact .inr (.inr rfl)) (by decide) (by decide))) evA_nil (by rfl)) (by rfl)) (by decide) (by rfl) (by rfl)) (fun _ => rfl))))) (fun _ _ _ _ _ => (ev_var rfl (by first | exact .inl rfl | exact .inr (.inl rfl) | exact .inr (.inr rfl)) (by decide) (by decide))) (by decide) (fun _ => rfl)))) (evO_val (ev_fz (evN_lst evA_nil))) (by first | rfl | exact nobehind _ (by decide) (by decide))))))) (evSs_one (evS_ret ev_bl)) evSs_nil) (evSs_one (evS_ret (ev_eq hr0 (evO_val (ev_fz (evN_lc (own := [("at", 3)]) rfl nd (evI_rng2 rfl (hbn "range" (by decide)) (evA_cons (evO_val ev_int) (evA_cons (evO_val (ev_len rfl (hbn "len" (by decide)) (evO_var rfl (by first | exact .inl rfl | exact .inr (.inl rfl) | exact .inr (.inr rfl)) (by decide) (by decide)) (by rfl) (by rfl))) evA_nil (by rfl)) (by rfl)) (by rfl) (by rfl)) (blkOk_by (by rfl)) (fun _ _ _ _ _ => (evG_name nd rfl (by first | exact .inl rfl | exact .inr rfl) (by first | exact .inl rfl | exact .inr rfl))) (fun _ _ _ _ _ => (evTs_one (evT_ge hr0 (evO_val (ev_index (evO_val (ev_index (evO_var rfl (by first | exact .inl rfl | exact .inr (.inl rfl) | exact .inr (.inr rfl)) (by decide) (by decide)) (evO_val (ev_sub (evO_var rfl (by first | exact .inl rfl | exact .inr (.inl rfl) | exact .inr (.inr rfl)) (by decide) (by decide)) (evO_val ev_int))) (fun _ _ => rfl))) (evO_val ev_int) (fun _ _ => rfl))) (evO_val (ev_index (evO_val (ev_index (evO_var rfl (by first | exact .inl rfl | exact .inr (.inl rfl) | exact .inr (.inr rfl)) (by decide) (by decide)) (evO_var rfl (by first | exact .inl rfl | exact .inr (.inl rfl) | exact .inr (.inr rfl)) (by decide) (by decide)) (fun _ _ => rfl))) (evO_val ev_int) (fun _ _ => rfl))) (by first | rfl | exact nobehind _ (by decide) (by decide))))) (fun _ _ _ _ _ => (ev_var rfl (by first | exact .inl rfl | exact .inr (.inl rfl) | exact .inr (.inr rfl)) (by decide) (by decide))) (by decide) (fun _ => rfl)))) (evO_val (ev_fz (evN_lst evA_nil))) (by first | rfl | exact nobehind _ (by decide) (by decide))))))
theorem sc_is_rule_within : FnScope N_is_rule_within P_is_rule_within (defScope (top 20)) := ⟨rfl, rfl, rfl, by decide +kernel, rfl, by decide +kernel, by decide +kernel⟩
theorem ok_is_rule_within {n : Nat} {k : Nat} (hk0 : 4 ≤ k) {kG_is_rule_within : Nat} (hk_is_rule_within : kG_is_rule_within ≤ k) {kG_are_specials : Nat} (hk_are_specials : kG_are_specials ≤ k) {f : Addr} {fd : FuncData} (Fu : Fun K "is_rule_within" "is_rule_within" (top 20) f fd) (hm : mg "is_rule_within" = some (.ref f)) (hbn : ∀ x ∈ bns, mg x = none) (G_is_word : GD P w K mg base "is_word" 1 P_is_word (spP K ec 2 F_is_word)) (G_are_numbers_of_race : GD P w K mg base "are_numbers_of_race" 3 P_are_numbers_of_race (spP K ec 3 F_are_numbers_of_race)) (G_is_order : GD P w K mg base "is_order" 4 P_is_order (spP K ec 1 F_is_order)) (G_is_rule_within : GD P w K mg base "is_rule_within" kG_is_rule_within P_is_rule_within (spP K ec 2 (F_is_rule_within n))) (G_are_specials : GD P w K mg base "are_specials" kG_are_specials P_are_specials (spP K ec 2 (F_are_specials n))) :
    GD P w K mg base "is_rule_within" (k + 1) P_is_rule_within (spP K ec 2 (F_is_rule_within (n + 1))) := by
  have nd : (N_is_rule_within : List Str).Nodup := sc_is_rule_within.nd
  refine gd_mk Fu hm (fn_ok (N := N_is_rule_within) (k := k) (m := (m_is_rule_within (F_is_rule_within n) (F_are_specials n))) Fu sc_is_rule_within fun cdv A outer s H E hr hG => ?_) (fun _ _ _ _ _ _ us hl => match us, hl with | [_, _], _ => rfl) (fun _ _ _ _ _ _ us hl => match us, hl with | [_, _], _ => rfl)
  have hr0 := hr.mono (Nat.zero_le _)
  exact (evSs_cons (evS_if (evT_w (evW_or (evT_val (ev_gd G_is_word len_is_word (hr.mono (by omega)) hG rfl passX (evA_cons (evO_val (ev_var rfl (by first | exact .inl rfl | exact .inr (.inl rfl) | exact .inr (.inr rfl)) (by decide) (by decide))) (evA_cons (evO_val ev_str) evA_nil (by rfl)) (by rfl)) (by decide) (by rfl) (by rfl)) (fun _ => rfl)) (evW_or1 (evT_val (ev_gd G_is_word len_is_word (hr.mono (by omega)) hG rfl passX (evA_cons (evO_val (ev_var rfl (by first | exact .inl rfl | exact .inr (.inl rfl) | exact .inr (.inr rfl)) (by decide) (by decide))) (evA_cons (evO_val ev_str) evA_nil (by rfl)) (by rfl)) (by decide) (by rfl) (by rfl)) (fun _ => rfl))))) (evSs_one (evS_ret ev_bl)) evSs_nil) (evSs_cons (evS_if (evT_w (evW_or (evT_eq hr0 (evO_var rfl (by first | exact .inl rfl | exact .inr (.inl rfl) | exact .inr (.inr rfl)) (by decide) (by decide)) (evO_val ev_int) (by first | rfl | exact nobehind _ (by decide) (by decide))) (evW_or (evT_not (evT_val (ev_isi kt_tuple rfl (hbn "isinstance" (by decide)) bb_isinstance rfl (hbn "tuple" (by decide)) bb_tuple (by decide) (by decide) (evO_var rfl (by first | exact .inl rfl | exact .inr (.inl rfl) | exact .inr (.inr rfl)) (by decide) (by decide)) (by rfl) (by rfl) (by rfl)) (fun _ => rfl))) (evW_or (evT_ne hr0 (evO_val (ev_len rfl (hbn "len" (by decide)) (evO_var rfl (by first | exact .inl rfl | exact .inr (.inl rfl) | exact .inr (.inr rfl)) (by decide) (by decide)) (by rfl) (by rfl))) (evO_val ev_int) (by first | rfl | exact nobehind _ (by decide) (by decide))) (evW_or1 (evT_not (evT_val (ev_isi kt_str rfl (hbn "isinstance" (by decide)) bb_isinstance rfl (hbn "str" (by decide)) bb_str (by decide) (by decide) (evO_val (ev_index (evO_var rfl (by first | exact .inl rfl | exact .inr (.inl rfl) | exact .inr (.inr rfl)) (by decide) (by decide)) (evO_val ev_int) (fun _ _ => rfl))) (by rfl) (by rfl) (by rfl)) (fun _ => rfl)))))))) (evSs_one (evS_ret ev_bl)) evSs_nil) (evSs_cons (evS_asg (ev_var rfl (by first | exact .inl rfl | exact .inr (.inl rfl) | exact .inr (.inr rfl)) (by decide) (by decide)) (evG_tup' rfl (evGs_cons (evG_name nd rfl (by first | exact .inl rfl | exact .inr rfl) (by first | exact .inl rfl | exact .inr rfl)) (evGs_cons (evG_name nd rfl (by first | exact .inl rfl | exact .inr rfl) (by first | exact .inl rfl | exact .inr rfl)) (evGs_cons (evG_name nd rfl (by first | exact .inl rfl | exact .inr rfl) (by first | exact .inl rfl | exact .inr rfl)) (evGs_cons (evG_name nd rfl (by first | exact .inl rfl | exact .inr rfl) (by first | exact .inl rfl | exact .inr rfl)) (evGs_cons (evG_name nd rfl (by first | exact .inl rfl | exact .inr rfl) (by first | exact .inl rfl | exact .inr rfl)) (evGs_cons (evG_name nd rfl (by first | exact .inl rfl | exact .inr rfl) (by first | exact .inl rfl | exact .inr rfl)) (evGs_cons (evG_name nd rfl (by first | exact .inl rfl | exact .inr rfl) (by first | exact .inl rfl | exact .inr rfl)) evGs_nil (by rfl)) (by rfl)) (by rfl)) (by rfl)) (by rfl)) (by rfl)) (by rfl)) rfl rfl) (by rfl) (by rfl) (by rfl)) (evSs_cons (evS_if (evT_w (evW_or (evT_ne hr0 (evO_var rfl (by first | exact .inl rfl | exact .inr (.inl rfl) | exact .inr (.inr rfl)) (by decide) (by decide)) (evO_val ev_str) (by first | rfl | exact nobehind _ (by decide) (by decide))) (evW_or (evT_not (evT_val (ev_gd G_are_numbers_of_race len_are_numbers_of_race (hr.mono (by omega)) hG rfl passX (evA_cons (evO_val (ev_var rfl (by first | exact .inl rfl | exact .inr (.inl rfl) | exact .inr (.inr rfl)) (by decide) (by decide))) (evA_cons (evO_val (ev_var rfl (by first | exact .inl rfl | exact .inr (.inl rfl) | exact .inr (.inr rfl)) (by decide) (by decide))) (evA_cons (evO_val (ev_var rfl (by first | exact .inl rfl | exact .inr (.inl rfl) | exact .inr (.inr rfl)) (by decide) (by decide))) evA_nil (by rfl)) (by rfl)) (by rfl)) (by decide) (by rfl) (by rfl)) (fun _ => rfl))) (evW_or1 (evT_not (evT_val (ev_gd G_is_order len_is_order (hr.mono (by omega)) hG rfl passX (evA_cons (evO_val (ev_var rfl (by first | exact .inl rfl | exact .inr (.inl rfl) | exact .inr (.inr rfl)) (by decide) (by decide))) evA_nil (by rfl)) (by decide) (by rfl) (by rfl)) (fun _ => rfl))))))) (evSs_one (evS_ret ev_bl)) evSs_nil) (evSs_one (evS_ret (ev_and (ev_gd G_is_rule_within (len_is_rule_within n) (hr.mono (by omega)) hG rfl passX (evA_cons (evO_val (ev_var rfl (by first | exact .inl rfl | exact .inr (.inl rfl) | exact .inr (.inr rfl)) (by decide) (by decide))) (evA_cons (evO_val (ev_sub (evO_var rfl (by first | exact .inl rfl | exact .inr (.inl rfl) | exact .inr (.inr rfl)) (by decide) (by decide)) (evO_val ev_int))) evA_nil (by rfl)) (by rfl)) (by decide) (by rfl) (by rfl)) (ev_one (ev_gd G_are_specials (len_are_specials n) (hr.mono (by omega)) hG rfl passX (evA_cons (evO_val (ev_var rfl (by first | exact .inl rfl | exact .inr (.inl rfl) | exact .inr (.inr rfl)) (by decide) (by decide))) (evA_cons (evO_val (ev_sub (evO_var rfl (by first | exact .inl rfl | exact .inr (.inl rfl) | exact .inr (.inr rfl)) (by decide) (by decide)) (evO_val ev_int))) evA_nil (by rfl)) (by rfl)) (by decide) (by rfl) (by rfl))))))))))
theorem sc_is_rule : FnScope N_is_rule P_is_rule (defScope (top 21)) := ⟨rfl, rfl, rfl, by decide +kernel, rfl, by decide +kernel, by decide +kernel⟩
theorem ok_is_rule {f : Addr} {fd : FuncData} (Fu : Fun K "is_rule" "is_rule" (top 21) f fd) (hm : mg "is_rule" = some (.ref f)) (hbn : ∀ x ∈ bns, mg x = none) (G_is_rule_within : GD P w K mg base "is_rule_within" 24 P_is_rule_within (spP K ec 2 (F_is_rule_within 5))) (C_DEEPEST : GC K mg "DEEPEST" D_DEEPEST) :
    GD P w K mg base "is_rule" (24 + 1) P_is_rule (spP K ec 1 F_is_rule) := by
  have nd : (N_is_rule : List Str).Nodup := sc_is_rule.nd
  refine gd_mk Fu hm (fn_ok (N := N_is_rule) (k := 24) (m := m_is_rule) Fu sc_is_rule fun cdv A outer s H E hr hG => ?_) (fun _ _ _ _ _ _ us hl => match us, hl with | [_], _ => rfl) (fun _ _ _ _ _ _ us hl => match us, hl with | [_], _ => rfl)
  have hr0 := hr.mono (Nat.zero_le _)
  exact (evSs_one (evS_ret (ev_gd G_is_rule_within (len_is_rule_within 5) (hr.mono (by omega)) hG rfl passX (evA_cons (evO_val (ev_var rfl (by first | exact .inl rfl | exact .inr (.inl rfl) | exact .inr (.inr rfl)) (by decide) (by decide))) (evA_cons (evO_val (ev_gc C_DEEPEST rfl (by decide))) evA_nil (by rfl)) (by rfl)) (by decide) (by rfl) (by rfl))))
theorem sc_check_rule : FnScope N_check_rule P_check_rule (defScope (top 22)) := ⟨rfl, rfl, rfl, by decide +kernel, rfl, by decide +kernel, by decide +kernel⟩
theorem ok_check_rule {f : Addr} {fd : FuncData} (Fu : Fun K "check_rule" "check_rule" (top 22) f fd) (hm : mg "check_rule" = some (.ref f)) (hbn : ∀ x ∈ bns, mg x = none) (G_is_rule : GD P w K mg base "is_rule" 25 P_is_rule (spP K ec 1 F_is_rule)) (E_InvalidRule : GE P w K mg base ec "InvalidRule" 3 1) :
    GD P w K mg base "check_rule" (25 + 1) P_check_rule (spP K ec 1 F_check_rule) := by
  have nd : (N_check_rule : List Str).Nodup := sc_check_rule.nd
  refine gd_mk Fu hm (fn_ok (N := N_check_rule) (k := 25) (m := m_check_rule) Fu sc_check_rule fun cdv A outer s H E hr hG => ?_) (fun _ _ _ _ _ _ us hl => match us, hl with | [_], _ => rfl) (fun _ _ _ _ _ _ us hl => match us, hl with | [_], _ => rfl)
  have hr0 := hr.mono (Nat.zero_le _)
  exact (evSs_one (evS_if (evT_not (evT_val (ev_gd G_is_rule len_is_rule (hr.mono (by omega)) hG rfl passX (evA_cons (evO_val (ev_var rfl (by first | exact .inl rfl | exact .inr (.inl rfl) | exact .inr (.inr rfl)) (by decide) (by decide))) evA_nil (by rfl)) (by decide) (by rfl) (by rfl)) (fun _ => rfl))) (evSs_one (evS_raiseC E_InvalidRule rfl (hr.mono (by omega)) takesX rfl (ev_var rfl (by first | exact .inl rfl | exact .inr (.inl rfl) | exact .inr (.inr rfl)) (by decide) (by decide)) (by decide) (by rfl) (by rfl))) evSs_nil))
theorem sc_unit_of : FnScope N_unit_of P_unit_of (defScope (top 24)) := ⟨rfl, rfl, rfl, by decide +kernel, rfl, by decide +kernel, by decide +kernel⟩
theorem ok_unit_of {f : Addr} {fd : FuncData} (Fu : Fun K "unit_of" "unit_of" (top 24) f fd) (hm : mg "unit_of" = some (.ref f)) (hbn : ∀ x ∈ bns, mg x = none)  :
    GD P w K mg base "unit_of" (0 + 1) P_unit_of (spP K ec 2 F_unit_of) := by
  have nd : (N_unit_of : List Str).Nodup := sc_unit_of.nd
  refine gd_mk Fu hm (fn_ok (N := N_unit_of) (k := 0) (m := m_unit_of) Fu sc_unit_of fun cdv A outer s H E hr hG => ?_) (fun _ _ _ _ _ _ us hl => match us, hl with | [_, _], _ => rfl) (fun _ _ _ _ _ _ us hl => match us, hl with | [_, _], _ => rfl)
  have hr0 := hr.mono (Nat.zero_le _)
  exact (evSs_cons (evS_for ownX rfl (evI_list (ev_index (evO_var rfl (by first | exact .inl rfl | exact .inr (.inl rfl) | exact .inr (.inr rfl)) (by decide) (by decide)) (evO_val ev_int) (fun _ _ => rfl))) (evG_tup' rfl (evGs_cons (evG_name nd rfl (by first | exact .inl rfl | exact .inr rfl) (by first | exact .inl rfl | exact .inr rfl)) (evGs_cons (evG_name nd rfl (by first | exact .inl rfl | exact .inr rfl) (by first | exact .inl rfl | exact .inr rfl)) evGs_nil (by rfl)) (by rfl)) rfl rfl) (evSs_one (evS_if (evT_eq hr0 (evO_var rfl (by first | exact .inl rfl | exact .inr (.inl rfl) | exact .inr (.inr rfl)) (by decide) (by decide)) (evO_var rfl (by first | exact .inl rfl | exact .inr (.inl rfl) | exact .inr (.inr rfl)) (by decide) (by decide)) (by first | rfl | exact nobehind _ (by decide) (by decide))) (evSs_one (evS_ret (ev_var rfl (by first | exact .inl rfl | exact .inr (.inl rfl) | exact .inr (.inr rfl)) (by decide) (by decide)))) evSs_nil)) (fun _ => rfl)) (evSs_one (evS_ret (ev_index (evO_var rfl (by first | exact .inl rfl | exact .inr (.inl rfl) | exact .inr (.inr rfl)) (by decide) (by decide)) (evO_val ev_int) (fun _ _ => rfl)))))
theorem sc_begun : FnScope N_begun P_begun (defScope (top 25)) := ⟨rfl, rfl, rfl, by decide +kernel, rfl, by decide +kernel, by decide +kernel⟩
theorem ok_begun {n : Nat} {k : Nat} (hk0 : 1 ≤ k) {kG_begun : Nat} (hk_begun : kG_begun ≤ k) {f : Addr} {fd : FuncData} (Fu : Fun K "begun" "begun" (top 25) f fd) (hm : mg "begun" = some (.ref f)) (hbn : ∀ x ∈ bns, mg x = none) (G_begun : GD P w K mg base "begun" kG_begun P_begun (spP K ec 2 (F_begun n))) (G_unit_of : GD P w K mg base "unit_of" 1 P_unit_of (spP K ec 2 F_unit_of)) :
    GD P w K mg base "begun" (k + 1) P_begun (spP K ec 2 (F_begun (n + 1))) := by
  have nd : (N_begun : List Str).Nodup := sc_begun.nd
  refine gd_mk Fu hm (fn_ok (N := N_begun) (k := k) (m := (m_begun (F_begun n))) Fu sc_begun fun cdv A outer s H E hr hG => ?_) (fun _ _ _ _ _ _ us hl => match us, hl with | [_, _], _ => rfl) (fun _ _ _ _ _ _ us hl => match us, hl with | [_, _], _ => rfl)
  have hr0 := hr.mono (Nat.zero_le _)
  exact (evSs_cons (evS_if (evT_ne hr0 (evO_val (ev_index (evO_var rfl (by first | exact .inl rfl | exact .inr (.inl rfl) | exact .inr (.inr rfl)) (by decide) (by decide)) (evO_val ev_int) (fun _ _ => rfl))) (evO_val ev_str) (by first | rfl | exact nobehind _ (by decide) (by decide))) (evSs_one (evS_ret (ev_tup (evA_cons (evO_val (ev_var rfl (by first | exact .inl rfl | exact .inr (.inl rfl) | exact .inr (.inr rfl)) (by decide) (by decide))) evA_nil (by rfl))))) evSs_nil) (evSs_cons (evS_set nd rfl (by first | exact .inl rfl | exact .inr rfl) (ev_var rfl (by first | exact .inl rfl | exact .inr (.inl rfl) | exact .inr (.inr rfl)) (by decide) (by decide)) (by rfl) (by first | exact .inl rfl | exact .inr rfl)) (evSs_cons (evS_if (evT_w (evW_and (evT_eq hr0 (evO_val (ev_index (evO_val (ev_index (evO_var rfl (by first | exact .inl rfl | exact .inr (.inl rfl) | exact .inr (.inr rfl)) (by decide) (by decide)) (evO_val ev_int) (fun _ _ => rfl))) (evO_val ev_int) (fun _ _ => rfl))) (evO_val ev_str) (by first | rfl | exact nobehind _ (by decide) (by decide))) (evW_and1 (evT_eq hr0 (evO_val (ev_index (evO_val (ev_index (evO_val (ev_index (evO_var rfl (by first | exact .inl rfl | exact .inr (.inl rfl) | exact .inr (.inr rfl)) (by decide) (by decide)) (evO_val ev_int) (fun _ _ => rfl))) (evO_val ev_int) (fun _ _ => rfl))) (evO_val ev_int) (fun _ _ => rfl))) (evO_val ev_int) (by first | rfl | exact nobehind _ (by decide) (by decide)))))) (evSs_one (evS_set nd rfl (by first | exact .inl rfl | exact .inr rfl) (ev_sub (evO_val ev_int) (evO_var rfl (by first | exact .inl rfl | exact .inr (.inl rfl) | exact .inr (.inr rfl)) (by decide) (by decide))) (by rfl) (by first | exact .inl rfl | exact .inr rfl))) evSs_nil) (evSs_one (evS_ret (ev_tup (evA_cons (evO_val ev_int) (evA_cons (evO_val ev_int) (evA_cons (evO_val (ev_var rfl (by first | exact .inl rfl | exact .inr (.inl rfl) | exact .inr (.inr rfl)) (by decide) (by decide))) (evA_cons (evO_val (ev_var rfl (by first | exact .inl rfl | exact .inr (.inl rfl) | exact .inr (.inr rfl)) (by decide) (by decide))) (evA_cons (evO_val (ev_gd G_begun (len_begun n) (hr.mono (by omega)) hG rfl passX (evA_cons (evO_val (ev_gd G_unit_of len_unit_of (hr.mono (by omega)) hG rfl passX (evA_cons (evO_val (ev_var rfl (by first | exact .inl rfl | exact .inr (.inl rfl) | exact .inr (.inr rfl)) (by decide) (by decide))) (evA_cons (evO_val (ev_tup (evA_cons (evO_val ev_int) (evA_cons (evO_val ev_int) evA_nil (by rfl)) (by rfl)))) evA_nil (by rfl)) (by rfl)) (by decide) (by rfl) (by rfl))) (evA_cons (evO_val (ev_var rfl (by first | exact .inl rfl | exact .inr (.inl rfl) | exact .inr (.inr rfl)) (by decide) (by decide))) evA_nil (by rfl)) (by rfl)) (by decide) (by rfl) (by rfl))) evA_nil (by rfl)) (by rfl)) (by rfl)) (by rfl)) (by rfl))))))))
theorem sc_is_won : FnScope N_is_won P_is_won (defScope (top 26)) := ⟨rfl, rfl, rfl, by decide +kernel, rfl, by decide +kernel, by decide +kernel⟩
theorem ok_is_won {f : Addr} {fd : FuncData} (Fu : Fun K "is_won" "is_won" (top 26) f fd) (hm : mg "is_won" = some (.ref f)) (hbn : ∀ x ∈ bns, mg x = none)  :
    GD P w K mg base "is_won" (0 + 1) P_is_won (spP K ec 2 F_is_won) := by
  have nd : (N_is_won : List Str).Nodup := sc_is_won.nd
  refine gd_mk Fu hm (fn_ok (N := N_is_won) (k := 0) (m := m_is_won) Fu sc_is_won fun cdv A outer s H E hr hG => ?_) (fun _ _ _ _ _ _ us hl => match us, hl with | [_, _], _ => rfl) (fun _ _ _ _ _ _ us hl => match us, hl with | [_, _], _ => rfl)
  have hr0 := hr.mono (Nat.zero_le _)
  exact (evSs_cons (evS_asg (ev_sl (evO_var rfl (by first | exact .inl rfl | exact .inr (.inl rfl) | exact .inr (.inr rfl)) (by decide) (by decide)) (evP_some ev_int) (evP_some ev_int)) (evG_tup' rfl (evGs_cons (evG_name nd rfl (by first | exact .inl rfl | exact .inr rfl) (by first | exact .inl rfl | exact .inr rfl)) (evGs_cons (evG_name nd rfl (by first | exact .inl rfl | exact .inr rfl) (by first | exact .inl rfl | exact .inr rfl)) (evGs_cons (evG_name nd rfl (by first | exact .inl rfl | exact .inr rfl) (by first | exact .inl rfl | exact .inr rfl)) evGs_nil (by rfl)) (by rfl)) (by rfl)) rfl rfl) (by rfl) (by rfl) (by rfl)) (evSs_cons (evS_if (evT_w (evW_and (evT_notN (evO_var rfl (by first | exact .inl rfl | exact .inr (.inl rfl) | exact .inr (.inr rfl)) (by decide) (by decide)) (evO_val ev_non)) (evW_and1 (evT_ge hr0 (evO_val (ev_max1 hr0 rfl rfl (hbn "max" (by decide)) (evO_var rfl (by first | exact .inl rfl | exact .inr (.inl rfl) | exact .inr (.inr rfl)) (by decide) (by decide)) (by rfl) (by rfl))) (evO_var rfl (by first | exact .inl rfl | exact .inr (.inl rfl) | exact .inr (.inr rfl)) (by decide) (by decide)) (by first | rfl | exact nobehind _ (by decide) (by decide)))))) (evSs_one (evS_ret ev_bl)) evSs_nil) (evSs_one (evS_ret (ev_and (ev_ge hr0 (evO_val (ev_max1 hr0 rfl rfl (hbn "max" (by decide)) (evO_var rfl (by first | exact .inl rfl | exact .inr (.inl rfl) | exact .inr (.inr rfl)) (by decide) (by decide)) (by rfl) (by rfl))) (evO_var rfl (by first | exact .inl rfl | exact .inr (.inl rfl) | exact .inr (.inr rfl)) (by decide) (by decide)) (by first | rfl | exact nobehind _ (by decide) (by decide))) (ev_one (ev_ge hr0 (evO_val (ev_abs rfl (hbn "abs" (by decide)) (evO_val (ev_sub (evO_val (ev_index (evO_var rfl (by first | exact .inl rfl | exact .inr (.inl rfl) | exact .inr (.inr rfl)) (by decide) (by decide)) (evO_val ev_int) (fun _ _ => rfl))) (evO_val (ev_index (evO_var rfl (by first | exact .inl rfl | exact .inr (.inl rfl) | exact .inr (.inr rfl)) (by decide) (by decide)) (evO_val ev_int) (fun _ _ => rfl))))) (by rfl) (by rfl))) (evO_var rfl (by first | exact .inl rfl | exact .inr (.inl rfl) | exact .inr (.inr rfl)) (by decide) (by decide)) (by first | rfl | exact nobehind _ (by decide) (by decide)))))))))
theorem sc_next_turn : FnScope N_next_turn P_next_turn (defScope (top 27)) := ⟨rfl, rfl, rfl, by decide +kernel, rfl, by decide +kernel, by decide +kernel⟩
theorem ok_next_turn {f : Addr} {fd : FuncData} (Fu : Fun K "next_turn" "next_turn" (top 27) f fd) (hm : mg "next_turn" = some (.ref f)) (hbn : ∀ x ∈ bns, mg x = none)  :
    GD P w K mg base "next_turn" (0 + 1) P_next_turn (spP K ec 5 F_next_turn) := by
  have nd : (N_next_turn : List Str).Nodup := sc_next_turn.nd
  refine gd_mk Fu hm (fn_ok (N := N_next_turn) (k := 0) (m := m_next_turn) Fu sc_next_turn fun cdv A outer s H E hr hG => ?_) (fun _ _ _ _ _ _ us hl => match us, hl with | [_, _, _, _, _], _ => rfl) (fun _ _ _ _ _ _ us hl => match us, hl with | [_, _, _, _, _], _ => rfl)
  have hr0 := hr.mono (Nat.zero_le _)
  exact (evSs_cons (evS_set nd rfl (by first | exact .inl rfl | exact .inr rfl) (ev_index (evO_val (ev_index (evO_var rfl (by first | exact .inl rfl | exact .inr (.inl rfl) | exact .inr (.inr rfl)) (by decide) (by decide)) (evO_val ev_int) (fun _ _ => rfl))) (evO_val ev_int) (fun _ _ => rfl)) (by rfl) (by first | exact .inl rfl | exact .inr rfl)) (evSs_cons (evS_if (evT_eq hr0 (evO_var rfl (by first | exact .inl rfl | exact .inr (.inl rfl) | exact .inr (.inr rfl)) (by decide) (by decide)) (evO_val ev_str) (by first | rfl | exact nobehind _ (by decide) (by decide))) (evSs_one (evS_ret (ev_var rfl (by first | exact .inl rfl | exact .inr (.inl rfl) | exact .inr (.inr rfl)) (by decide) (by decide)))) evSs_nil) (evSs_cons (evS_if (evT_eq hr0 (evO_var rfl (by first | exact .inl rfl | exact .inr (.inl rfl) | exact .inr (.inr rfl)) (by decide) (by decide)) (evO_val ev_str) (by first | rfl | exact nobehind _ (by decide) (by decide))) (evSs_one (evS_ret (ev_sub (evO_val ev_int) (evO_val (ev_index (evO_var rfl (by first | exact .inl rfl | exact .inr (.inl rfl) | exact .inr (.inr rfl)) (by decide) (by decide)) (evO_val ev_int) (fun _ _ => rfl)))))) evSs_nil) (evSs_cons (evS_if (evT_eq hr0 (evO_var rfl (by first | exact .inl rfl | exact .inr (.inl rfl) | exact .inr (.inr rfl)) (by decide) (by decide)) (evO_val ev_str) (by first | rfl | exact nobehind _ (by decide) (by decide))) (evSs_one (evS_ret (ev_var rfl (by first | exact .inl rfl | exact .inr (.inl rfl) | exact .inr (.inr rfl)) (by decide) (by decide)))) evSs_nil) (evSs_cons (evS_if (evT_eq hr0 (evO_var rfl (by first | exact .inl rfl | exact .inr (.inl rfl) | exact .inr (.inr rfl)) (by decide) (by decide)) (evO_val ev_str) (by first | rfl | exact nobehind _ (by decide) (by decide))) (evSs_one (evS_ret (ev_sub (evO_val ev_int) (evO_var rfl (by first | exact .inl rfl | exact .inr (.inl rfl) | exact .inr (.inr rfl)) (by decide) (by decide))))) evSs_nil) (evSs_cons (evS_set nd rfl (by first | exact .inl rfl | exact .inr rfl) (ev_index (evO_val (ev_index (evO_var rfl (by first | exact .inl rfl | exact .inr (.inl rfl) | exact .inr (.inr rfl)) (by decide) (by decide)) (evO_val ev_int) (fun _ _ => rfl))) (evO_val ev_int) (fun _ _ => rfl)) (by rfl) (by first | exact .inl rfl | exact .inr rfl)) (evSs_one (evS_ret (ev_if (evT_eq hr0 (evO_val (ev_index (evO_var rfl (by first | exact .inl rfl | exact .inr (.inl rfl) | exact .inr (.inr rfl)) (by decide) (by decide)) (evO_val (ev_mod (evO_val (ev_sumT rfl rfl (hbn "sum" (by decide)) (evO_var rfl (by first | exact .inl rfl | exact .inr (.inl rfl) | exact .inr (.inr rfl)) (by decide) (by decide)) (by rfl) (by rfl))) (evO_val (ev_len rfl (hbn "len" (by decide)) (evO_var rfl (by first | exact .inl rfl | exact .inr (.inl rfl) | exact .inr (.inr rfl)) (by decide) (by decide)) (by rfl) (by rfl))))) (fun _ _ => rfl))) (evO_val ev_int) (by first | rfl | exact nobehind _ (by decide) (by decide))) (ev_index (evO_var rfl (by first | exact .inl rfl | exact .inr (.inl rfl) | exact .inr (.inr rfl)) (by decide) (by decide)) (evO_val ev_int) (fun _ _ => rfl)) (ev_sub (evO_val ev_int) (evO_val (ev_index (evO_var rfl (by first | exact .inl rfl | exact .inr (.inl rfl) | exact .inr (.inr rfl)) (by decide) (by decide)) (evO_val ev_int) (fun _ _ => rfl)))))))))))))
theorem sc_led_race : FnScope N_led_race P_led_race (defScope (top 28)) := ⟨rfl, rfl, rfl, by decide +kernel, rfl, by decide +kernel, by decide +kernel⟩
theorem ok_led_race {n : Nat} {k : Nat} (hk0 : 1 ≤ k) {kG_led : Nat} (hk_led : kG_led ≤ k) {kG_begun : Nat} (hk_begun : kG_begun ≤ k) {f : Addr} {fd : FuncData} (Fu : Fun K "led_race" "led_race" (top 28) f fd) (hm : mg "led_race" = some (.ref f)) (hbn : ∀ x ∈ bns, mg x = none) (G_led : GD P w K mg base "led" kG_led P_led (spP K ec 3 (F_led n))) (G_unit_of : GD P w K mg base "unit_of" 1 P_unit_of (spP K ec 2 F_unit_of)) (G_next_turn : GD P w K mg base "next_turn" 1 P_next_turn (spP K ec 5 F_next_turn)) (G_is_won : GD P w K mg base "is_won" 1 P_is_won (spP K ec 2 F_is_won)) (G_begun : GD P w K mg base "begun" kG_begun P_begun (spP K ec 2 (F_begun 5))) :
    GD P w K mg base "led_race" (k + 1) P_led_race (spP K ec 3 (F_led_race n)) := by
  have nd : (N_led_race : List Str).Nodup := sc_led_race.nd
  refine gd_mk Fu hm (fn_ok (N := N_led_race) (k := k) (m := (m_led_race (F_led n))) Fu sc_led_race fun cdv A outer s H E hr hG => ?_) (fun _ _ _ _ _ _ us hl => match us, hl with | [_, _, _], _ => rfl) (fun _ _ _ _ _ _ us hl => match us, hl with | [_, _, _], _ => rfl)
  have hr0 := hr.mono (Nat.zero_le _)
  exact (evSs_cons (evS_set nd rfl (by first | exact .inl rfl | exact .inr rfl) (ev_sl (evO_var rfl (by first | exact .inl rfl | exact .inr (.inl rfl) | exact .inr (.inr rfl)) (by decide) (by decide)) evP_none (evP_some ev_int)) (by rfl) (by first | exact .inl rfl | exact .inr rfl)) (evSs_cons (evS_asg (ev_gd G_led (len_led n) (hr.mono (by omega)) hG rfl passX (evA_cons (evO_val (ev_gd G_unit_of len_unit_of (hr.mono (by omega)) hG rfl passX (evA_cons (evO_val (ev_var rfl (by first | exact .inl rfl | exact .inr (.inl rfl) | exact .inr (.inr rfl)) (by decide) (by decide))) (evA_cons (evO_val (ev_var rfl (by first | exact .inl rfl | exact .inr (.inl rfl) | exact .inr (.inr rfl)) (by decide) (by decide))) evA_nil (by rfl)) (by rfl)) (by decide) (by rfl) (by rfl))) (evA_cons (evO_val (ev_index (evO_var rfl (by first | exact .inl rfl | exact .inr (.inl rfl) | exact .inr (.inr rfl)) (by decide) (by decide)) (evO_val ev_int) (fun _ _ => rfl))) (evA_cons (evO_val (ev_var rfl (by first | exact .inl rfl | exact .inr (.inl rfl) | exact .inr (.inr rfl)) (by decide) (by decide))) evA_nil (by rfl)) (by rfl)) (by rfl)) (by decide) (by rfl) (by rfl)) (evG_tup' rfl (evGs_cons (evG_name nd rfl (by first | exact .inl rfl | exact .inr rfl) (by first | exact .inl rfl | exact .inr rfl)) (evGs_cons (evG_name nd rfl (by first | exact .inl rfl | exact .inr rfl) (by first | exact .inl rfl | exact .inr rfl)) (evGs_cons (evG_name nd rfl (by first | exact .inl rfl | exact .inr rfl) (by first | exact .inl rfl | exact .inr rfl)) evGs_nil (by rfl)) (by rfl)) (by rfl)) rfl rfl) (by rfl) (by rfl) (by rfl)) (evSs_cons (evS_if (evT_notN (evO_var rfl (by first | exact .inl rfl | exact .inr (.inl rfl) | exact .inr (.inr rfl)) (by decide) (by decide)) (evO_val ev_non)) (evSs_one (evS_ret (ev_tup (evA_cons (evO_val (ev_add (evO_val (ev_sl (evO_var rfl (by first | exact .inl rfl | exact .inr (.inl rfl) | exact .inr (.inr rfl)) (by decide) (by decide)) evP_none (evP_some ev_int))) (evO_val (ev_tup (evA_cons (evO_val (ev_var rfl (by first | exact .inl rfl | exact .inr (.inl rfl) | exact .inr (.inr rfl)) (by decide) (by decide))) evA_nil (by rfl)))))) (evA_cons (evO_val ev_non) (evA_cons (evO_val ev_non) evA_nil (by rfl)) (by rfl)) (by rfl))))) evSs_nil) (evSs_cons (evS_set nd rfl (by first | exact .inl rfl | exact .inr rfl) (ev_tup (evA_cons (evO_val (ev_sub (evO_val (ev_add (evO_val (ev_index (evO_var rfl (by first | exact .inl rfl | exact .inr (.inl rfl) | exact .inr (.inr rfl)) (by decide) (by decide)) (evO_val ev_int) (fun _ _ => rfl))) (evO_val ev_int))) (evO_var rfl (by first | exact .inl rfl | exact .inr (.inl rfl) | exact .inr (.inr rfl)) (by decide) (by decide)))) (evA_cons (evO_val (ev_add (evO_val (ev_index (evO_var rfl (by first | exact .inl rfl | exact .inr (.inl rfl) | exact .inr (.inr rfl)) (by decide) (by decide)) (evO_val ev_int) (fun _ _ => rfl))) (evO_var rfl (by first | exact .inl rfl | exact .inr (.inl rfl) | exact .inr (.inr rfl)) (by decide) (by decide)))) evA_nil (by rfl)) (by rfl))) (by rfl) (by first | exact .inl rfl | exact .inr rfl)) (evSs_cons (evS_set nd rfl (by first | exact .inl rfl | exact .inr rfl) (ev_gd G_next_turn len_next_turn (hr.mono (by omega)) hG rfl passX (evA_cons (evO_val (ev_var rfl (by first | exact .inl rfl | exact .inr (.inl rfl) | exact .inr (.inr rfl)) (by decide) (by decide))) (evA_cons (evO_val (ev_var rfl (by first | exact .inl rfl | exact .inr (.inl rfl) | exact .inr (.inr rfl)) (by decide) (by decide))) (evA_cons (evO_val (ev_var rfl (by first | exact .inl rfl | exact .inr (.inl rfl) | exact .inr (.inr rfl)) (by decide) (by decide))) (evA_cons (evO_val (ev_var rfl (by first | exact .inl rfl | exact .inr (.inl rfl) | exact .inr (.inr rfl)) (by decide) (by decide))) (evA_cons (evO_val (ev_var rfl (by first | exact .inl rfl | exact .inr (.inl rfl) | exact .inr (.inr rfl)) (by decide) (by decide))) evA_nil (by rfl)) (by rfl)) (by rfl)) (by rfl)) (by rfl)) (by decide) (by rfl) (by rfl)) (by rfl) (by first | exact .inl rfl | exact .inr rfl)) (evSs_cons (evS_if (evT_val (ev_gd G_is_won len_is_won (hr.mono (by omega)) hG rfl passX (evA_cons (evO_val (ev_var rfl (by first | exact .inl rfl | exact .inr (.inl rfl) | exact .inr (.inr rfl)) (by decide) (by decide))) (evA_cons (evO_val (ev_var rfl (by first | exact .inl rfl | exact .inr (.inl rfl) | exact .inr (.inr rfl)) (by decide) (by decide))) evA_nil (by rfl)) (by rfl)) (by decide) (by rfl) (by rfl)) (fun _ => rfl)) (evSs_one (evS_ret (ev_tup (evA_cons (evO_val ev_non) (evA_cons (evO_val (ev_if (evT_gt (evO_val (ev_index (evO_var rfl (by first | exact .inl rfl | exact .inr (.inl rfl) | exact .inr (.inr rfl)) (by decide) (by decide)) (evO_val ev_int) (fun _ _ => rfl))) (evO_val (ev_index (evO_var rfl (by first | exact .inl rfl | exact .inr (.inl rfl) | exact .inr (.inr rfl)) (by decide) (by decide)) (evO_val ev_int) (fun _ _ => rfl)))) ev_int ev_int)) (evA_cons (evO_val (ev_var rfl (by first | exact .inl rfl | exact .inr (.inl rfl) | exact .inr (.inr rfl)) (by decide) (by decide))) evA_nil (by rfl)) (by rfl)) (by rfl))))) evSs_nil) (evSs_one (evS_ret (ev_tup (evA_cons (evO_val (ev_add (evO_var rfl (by first | exact .inl rfl | exact .inr (.inl rfl) | exact .inr (.inr rfl)) (by decide) (by decide)) (evO_val (ev_tup (evA_cons (evO_val (ev_index (evO_var rfl (by first | exact .inl rfl | exact .inr (.inl rfl) | exact .inr (.inr rfl)) (by decide) (by decide)) (evO_val ev_int) (fun _ _ => rfl))) (evA_cons (evO_val (ev_var rfl (by first | exact .inl rfl | exact .inr (.inl rfl) | exact .inr (.inr rfl)) (by decide) (by decide))) (evA_cons (evO_val (ev_gd G_begun (len_begun 5) (hr.mono (by omega)) hG rfl passX (evA_cons (evO_val (ev_gd G_unit_of len_unit_of (hr.mono (by omega)) hG rfl passX (evA_cons (evO_val (ev_var rfl (by first | exact .inl rfl | exact .inr (.inl rfl) | exact .inr (.inr rfl)) (by decide) (by decide))) (evA_cons (evO_val (ev_var rfl (by first | exact .inl rfl | exact .inr (.inl rfl) | exact .inr (.inr rfl)) (by decide) (by decide))) evA_nil (by rfl)) (by rfl)) (by decide) (by rfl) (by rfl))) (evA_cons (evO_val (ev_var rfl (by first | exact .inl rfl | exact .inr (.inl rfl) | exact .inr (.inr rfl)) (by decide) (by decide))) evA_nil (by rfl)) (by rfl)) (by decide) (by rfl) (by rfl))) evA_nil (by rfl)) (by rfl)) (by rfl)))))) (evA_cons (evO_val ev_non) (evA_cons (evO_val ev_non) evA_nil (by rfl)) (by rfl)) (by rfl)))))))))))
theorem sc_led : FnScope N_led P_led (defScope (top 29)) := ⟨rfl, rfl, rfl, by decide +kernel, rfl, by decide +kernel, by decide +kernel⟩
theorem ok_led {n : Nat} {k : Nat} (hk0 : 0 ≤ k) {kG_led_race : Nat} (hk_led_race : kG_led_race ≤ k) {f : Addr} {fd : FuncData} (Fu : Fun K "led" "led" (top 29) f fd) (hm : mg "led" = some (.ref f)) (hbn : ∀ x ∈ bns, mg x = none) (G_led_race : GD P w K mg base "led_race" kG_led_race P_led_race (spP K ec 3 (F_led_race n))) :
    GD P w K mg base "led" (k + 1) P_led (spP K ec 3 (F_led (n + 1))) := by
  have nd : (N_led : List Str).Nodup := sc_led.nd
  refine gd_mk Fu hm (fn_ok (N := N_led) (k := k) (m := (m_led (F_led_race n))) Fu sc_led fun cdv A outer s H E hr hG => ?_) (fun _ _ _ _ _ _ us hl => match us, hl with | [_, _, _], _ => rfl) (fun _ _ _ _ _ _ us hl => match us, hl with | [_, _, _], _ => rfl)
  have hr0 := hr.mono (Nat.zero_le _)
  exact (evSs_cons (evS_if (evT_eq hr0 (evO_val (ev_index (evO_var rfl (by first | exact .inl rfl | exact .inr (.inl rfl) | exact .inr (.inr rfl)) (by decide) (by decide)) (evO_val ev_int) (fun _ _ => rfl))) (evO_val ev_str) (by first | rfl | exact nobehind _ (by decide) (by decide))) (evSs_one (evS_ret (ev_gd G_led_race (len_led_race n) (hr.mono (by omega)) hG rfl passX (evA_cons (evO_val (ev_var rfl (by first | exact .inl rfl | exact .inr (.inl rfl) | exact .inr (.inr rfl)) (by decide) (by decide))) (evA_cons (evO_val (ev_var rfl (by first | exact .inl rfl | exact .inr (.inl rfl) | exact .inr (.inr rfl)) (by decide) (by decide))) (evA_cons (evO_val (ev_var rfl (by first | exact .inl rfl | exact .inr (.inl rfl) | exact .inr (.inr rfl)) (by decide) (by decide))) evA_nil (by rfl)) (by rfl)) (by rfl)) (by decide) (by rfl) (by rfl)))) evSs_nil) (evSs_cons (evS_if (evT_w (evW_and (evT_eq hr0 (evO_val (ev_index (evO_var rfl (by first | exact .inl rfl | exact .inr (.inl rfl) | exact .inr (.inr rfl)) (by decide) (by decide)) (evO_val ev_int) (fun _ _ => rfl))) (evO_val ev_str) (by first | rfl | exact nobehind _ (by decide) (by decide))) (evW_and1 (evT_ne hr0 (evO_var rfl (by first | exact .inl rfl | exact .inr (.inl rfl) | exact .inr (.inr rfl)) (by decide) (by decide)) (evO_val (ev_index (evO_var rfl (by first | exact .inl rfl | exact .inr (.inl rfl) | exact .inr (.inr rfl)) (by decide) (by decide)) (evO_val ev_int) (fun _ _ => rfl))) (by first | rfl | exact nobehind _ (by decide) (by decide)))))) (evSs_one (evS_ret (ev_tup (evA_cons (evO_val (ev_tup (evA_cons (evO_val (ev_var rfl (by first | exact .inl rfl | exact .inr (.inl rfl) | exact .inr (.inr rfl)) (by decide) (by decide))) evA_nil (by rfl)))) (evA_cons (evO_val ev_non) (evA_cons (evO_val ev_non) evA_nil (by rfl)) (by rfl)) (by rfl))))) evSs_nil) (evSs_one (evS_ret (ev_tup (evA_cons (evO_val ev_non) (evA_cons (evO_val (ev_var rfl (by first | exact .inl rfl | exact .inr (.inl rfl) | exact .inr (.inr rfl)) (by decide) (by decide))) (evA_cons (evO_val (ev_index (evO_var rfl (by first | exact .inl rfl | exact .inr (.inl rfl) | exact .inr (.inr rfl)) (by decide) (by decide)) (evO_val ev_int) (fun _ _ => rfl))) evA_nil (by rfl)) (by rfl)) (by rfl)))))))
theorem sc_led_by : FnScope N_led_by P_led_by (defScope (top 30)) := ⟨rfl, rfl, rfl, by decide +kernel, rfl, by decide +kernel, by decide +kernel⟩
theorem ok_led_by {f : Addr} {fd : FuncData} (Fu : Fun K "led_by" "led_by" (top 30) f fd) (hm : mg "led_by" = some (.ref f)) (hbn : ∀ x ∈ bns, mg x = none) (G_begun : GD P w K mg base "begun" 8 P_begun (spP K ec 2 (F_begun 5))) (G_led : GD P w K mg base "led" 20 P_led (spP K ec 3 (F_led 5))) :
    GD P w K mg base "led_by" (20 + 1) P_led_by (spP K ec 3 F_led_by) := by
  have nd : (N_led_by : List Str).Nodup := sc_led_by.nd
  refine gd_mk Fu hm (fn_ok (N := N_led_by) (k := 20) (m := m_led_by) Fu sc_led_by fun cdv A outer s H E hr hG => ?_) (fun _ _ _ _ _ _ us hl => match us, hl with | [_, _, _], _ => rfl) (fun _ _ _ _ _ _ us hl => match us, hl with | [_, _, _], _ => rfl)
  have hr0 := hr.mono (Nat.zero_le _)
  exact (evSs_cons (evS_set nd rfl (by first | exact .inl rfl | exact .inr rfl) (ev_gd G_begun (len_begun 5) (hr.mono (by omega)) hG rfl passX (evA_cons (evO_val (ev_var rfl (by first | exact .inl rfl | exact .inr (.inl rfl) | exact .inr (.inr rfl)) (by decide) (by decide))) (evA_cons (evO_val (ev_var rfl (by first | exact .inl rfl | exact .inr (.inl rfl) | exact .inr (.inr rfl)) (by decide) (by decide))) evA_nil (by rfl)) (by rfl)) (by decide) (by rfl) (by rfl)) (by rfl) (by first | exact .inl rfl | exact .inr rfl)) (evSs_cons (evS_for ownX rfl (evI_enum rfl (hbn "enumerate" (by decide)) (ev_var rfl (by first | exact .inl rfl | exact .inr (.inl rfl) | exact .inr (.inr rfl)) (by decide) (by decide)) (by rfl)) (evG_tup' rfl (evGs_cons (evG_name nd rfl (by first | exact .inl rfl | exact .inr rfl) (by first | exact .inl rfl | exact .inr rfl)) (evGs_cons (evG_name nd rfl (by first | exact .inl rfl | exact .inr rfl) (by first | exact .inl rfl | exact .inr rfl)) evGs_nil (by rfl)) (by rfl)) rfl rfl) (evSs_cons (evS_asg (ev_gd G_led (len_led 5) (hr.mono (by omega)) hG rfl passX (evA_cons (evO_val (ev_var rfl (by first | exact .inl rfl | exact .inr (.inl rfl) | exact .inr (.inr rfl)) (by decide) (by decide))) (evA_cons (evO_val (ev_var rfl (by first | exact .inl rfl | exact .inr (.inl rfl) | exact .inr (.inr rfl)) (by decide) (by decide))) (evA_cons (evO_val (ev_var rfl (by first | exact .inl rfl | exact .inr (.inl rfl) | exact .inr (.inr rfl)) (by decide) (by decide))) evA_nil (by rfl)) (by rfl)) (by rfl)) (by decide) (by rfl) (by rfl)) (evG_tup' rfl (evGs_cons (evG_name nd rfl (by first | exact .inl rfl | exact .inr rfl) (by first | exact .inl rfl | exact .inr rfl)) (evGs_cons (evG_name nd rfl (by first | exact .inl rfl | exact .inr rfl) (by first | exact .inl rfl | exact .inr rfl)) (evGs_cons (evG_name nd rfl (by first | exact .inl rfl | exact .inr rfl) (by first | exact .inl rfl | exact .inr rfl)) evGs_nil (by rfl)) (by rfl)) (by rfl)) rfl rfl) (by rfl) (by rfl) (by rfl)) (evSs_one (evS_if (evT_isN (evO_var rfl (by first | exact .inl rfl | exact .inr (.inl rfl) | exact .inr (.inr rfl)) (by decide) (by decide)) (evO_val ev_non)) (evSs_one (evS_ret (ev_tup (evA_cons (evO_val ev_non) (evA_cons (evO_val (ev_var rfl (by first | exact .inl rfl | exact .inr (.inl rfl) | exact .inr (.inr rfl)) (by decide) (by decide))) (evA_cons (evO_val (ev_add (evO_var rfl (by first | exact .inl rfl | exact .inr (.inl rfl) | exact .inr (.inr rfl)) (by decide) (by decide)) (evO_val ev_int))) evA_nil (by rfl)) (by rfl)) (by rfl))))) evSs_nil))) (fun _ => rfl)) (evSs_one (evS_ret (ev_tup (evA_cons (evO_val (ev_var rfl (by first | exact .inl rfl | exact .inr (.inl rfl) | exact .inr (.inr rfl)) (by decide) (by decide))) (evA_cons (evO_val ev_non) (evA_cons (evO_val (ev_len rfl (hbn "len" (by decide)) (evO_var rfl (by first | exact .inl rfl | exact .inr (.inl rfl) | exact .inr (.inr rfl)) (by decide) (by decide)) (by rfl) (by rfl))) evA_nil (by rfl)) (by rfl)) (by rfl)))))))
theorem sc_is_match : FnScope N_is_match P_is_match (defScope (top 32)) := ⟨rfl, rfl, rfl, by decide +kernel, rfl, by decide +kernel, by decide +kernel⟩
theorem ok_is_match {f : Addr} {fd : FuncData} (Fu : Fun K "is_match" "is_match" (top 32) f fd) (hm : mg "is_match" = some (.ref f)) (hbn : ∀ x ∈ bns, mg x = none) (G_is_count : GD P w K mg base "is_count" 2 P_is_count (spP K ec 1 F_is_count)) (G_is_side : GD P w K mg base "is_side" 3 P_is_side (spP K ec 1 F_is_side)) (G_are_rallies : GD P w K mg base "are_rallies" 4 P_are_rallies (spP K ec 1 F_are_rallies)) :
    GD P w K mg base "is_match" (4 + 1) P_is_match (spP K ec 2 F_is_match) := by
  have nd : (N_is_match : List Str).Nodup := sc_is_match.nd
  refine gd_mk Fu hm (fn_ok (N := N_is_match) (k := 4) (m := m_is_match) Fu sc_is_match fun cdv A outer s H E hr hG => ?_) (fun _ _ _ _ _ _ us hl => match us, hl with | [_, _], _ => rfl) (fun _ _ _ _ _ _ us hl => match us, hl with | [_, _], _ => rfl)
  have hr0 := hr.mono (Nat.zero_le _)
  exact (evSs_cons (evS_if (evT_w (evW_or (evT_not (evT_val (ev_isi kt_tuple rfl (hbn "isinstance" (by decide)) bb_isinstance rfl (hbn "tuple" (by decide)) bb_tuple (by decide) (by decide) (evO_var rfl (by first | exact .inl rfl | exact .inr (.inl rfl) | exact .inr (.inr rfl)) (by decide) (by decide)) (by rfl) (by rfl) (by rfl)) (fun _ => rfl))) (evW_or (evT_ne hr0 (evO_val (ev_len rfl (hbn "len" (by decide)) (evO_var rfl (by first | exact .inl rfl | exact .inr (.inl rfl) | exact .inr (.inr rfl)) (by decide) (by decide)) (by rfl) (by rfl))) (evO_val ev_int) (by first | rfl | exact nobehind _ (by decide) (by decide))) (evW_or (evT_not (evT_val (ev_gd G_is_count len_is_count (hr.mono (by omega)) hG rfl passX (evA_cons (evO_val (ev_index (evO_var rfl (by first | exact .inl rfl | exact .inr (.inl rfl) | exact .inr (.inr rfl)) (by decide) (by decide)) (evO_val ev_int) (fun _ _ => rfl))) evA_nil (by rfl)) (by decide) (by rfl) (by rfl)) (fun _ => rfl))) (evW_or1 (evT_not (evT_val (ev_gd G_is_count len_is_count (hr.mono (by omega)) hG rfl passX (evA_cons (evO_val (ev_index (evO_var rfl (by first | exact .inl rfl | exact .inr (.inl rfl) | exact .inr (.inr rfl)) (by decide) (by decide)) (evO_val ev_int) (fun _ _ => rfl))) evA_nil (by rfl)) (by decide) (by rfl) (by rfl)) (fun _ => rfl)))))))) (evSs_one (evS_ret ev_bl)) evSs_nil) (evSs_cons (evS_if (evT_w (evW_or (evT_ge hr0 (evO_val (ev_index (evO_var rfl (by first | exact .inl rfl | exact .inr (.inl rfl) | exact .inr (.inr rfl)) (by decide) (by decide)) (evO_val ev_int) (fun _ _ => rfl))) (evO_var rfl (by first | exact .inl rfl | exact .inr (.inl rfl) | exact .inr (.inr rfl)) (by decide) (by decide)) (by first | rfl | exact nobehind _ (by decide) (by decide))) (evW_or (evT_ge hr0 (evO_val (ev_index (evO_var rfl (by first | exact .inl rfl | exact .inr (.inl rfl) | exact .inr (.inr rfl)) (by decide) (by decide)) (evO_val ev_int) (fun _ _ => rfl))) (evO_var rfl (by first | exact .inl rfl | exact .inr (.inl rfl) | exact .inr (.inr rfl)) (by decide) (by decide)) (by first | rfl | exact nobehind _ (by decide) (by decide))) (evW_or1 (evT_eq hr0 (evO_val (ev_index (evO_var rfl (by first | exact .inl rfl | exact .inr (.inl rfl) | exact .inr (.inr rfl)) (by decide) (by decide)) (evO_val ev_int) (fun _ _ => rfl))) (evO_val (ev_index (evO_var rfl (by first | exact .inl rfl | exact .inr (.inl rfl) | exact .inr (.inr rfl)) (by decide) (by decide)) (evO_val ev_int) (fun _ _ => rfl))) (by first | rfl | exact nobehind _ (by decide) (by decide))))))) (evSs_one (evS_ret ev_bl)) evSs_nil) (evSs_one (evS_ret (ev_and (ev_gd G_is_side len_is_side (hr.mono (by omega)) hG rfl passX (evA_cons (evO_val (ev_index (evO_var rfl (by first | exact .inl rfl | exact .inr (.inl rfl) | exact .inr (.inr rfl)) (by decide) (by decide)) (evO_val ev_int) (fun _ _ => rfl))) evA_nil (by rfl)) (by decide) (by rfl) (by rfl)) (ev_one (ev_gd G_are_rallies len_are_rallies (hr.mono (by omega)) hG rfl passX (evA_cons (evO_val (ev_index (evO_var rfl (by first | exact .inl rfl | exact .inr (.inl rfl) | exact .inr (.inr rfl)) (by decide) (by decide)) (evO_val ev_int) (fun _ _ => rfl))) evA_nil (by rfl)) (by decide) (by rfl) (by rfl))))))))
theorem sc_table_of : FnScope N_table_of P_table_of (defScope (top 33)) := ⟨rfl, rfl, rfl, by decide +kernel, rfl, by decide +kernel, by decide +kernel⟩
theorem ok_table_of {f : Addr} {fd : FuncData} (Fu : Fun K "table_of" "table_of" (top 33) f fd) (hm : mg "table_of" = some (.ref f)) (hbn : ∀ x ∈ bns, mg x = none) (G_check_rule : GD P w K mg base "check_rule" 26 P_check_rule (spP K ec 1 F_check_rule)) (G_is_between : GD P w K mg base "is_between" 2 P_is_between (spP K ec 3 F_is_between)) (G_is_match : GD P w K mg base "is_match" 5 P_is_match (spP K ec 2 F_is_match)) (G_led_by : GD P w K mg base "led_by" 21 P_led_by (spP K ec 3 F_led_by)) (E_InvalidNumber : GE P w K mg base ec "InvalidNumber" 1 1) (E_InvalidDay : GE P w K mg base ec "InvalidDay" 2 1) :
    GD P w K mg base "table_of" (26 + 1) P_table_of (spD K ec 3 F_table_of) := by
  have nd : (N_table_of : List Str).Nodup := sc_table_of.nd
  refine gd_mk Fu hm (fn_okD (N := N_table_of) (k := 26) (m := m_table_of) Fu sc_table_of fun cdv A outer s H E hr hG => ?_) (fun _ _ _ _ _ _ us hl => match us, hl with | [_, _, _], _ => rfl) (fun _ _ _ _ _ _ us hl => match us, hl with | [_, _, _], _ => rfl)
  have hr0 := hr.mono (Nat.zero_le _)
  exact (evSsD_cons (evS_expr (ev_gd G_check_rule len_check_rule (hr.mono (by omega)) hG rfl passX (evA_cons (evO_val (ev_var rfl (by first | exact .inl rfl | exact .inr (.inl rfl) | exact .inr (.inr rfl)) (by decide) (by decide))) evA_nil (by rfl)) (by decide) (by rfl) (by rfl)) (by rfl)) (evSsD_cons (evS_if (evT_not (evT_val (ev_gd G_is_between len_is_between (hr.mono (by omega)) hG rfl passX (evA_cons (evO_val (ev_var rfl (by first | exact .inl rfl | exact .inr (.inl rfl) | exact .inr (.inr rfl)) (by decide) (by decide))) (evA_cons (evO_val ev_int) (evA_cons (evO_val ev_int) evA_nil (by rfl)) (by rfl)) (by rfl)) (by decide) (by rfl) (by rfl)) (fun _ => rfl))) (evSs_one (evS_raiseC E_InvalidNumber rfl (hr.mono (by omega)) takesX rfl (ev_var rfl (by first | exact .inl rfl | exact .inr (.inl rfl) | exact .inr (.inr rfl)) (by decide) (by decide)) (by decide) (by rfl) (by rfl))) evSs_nil) (evSsD_cons (evS_if (evT_w (evW_or (evT_not (evT_val (ev_isi kt_list rfl (hbn "isinstance" (by decide)) bb_isinstance rfl (hbn "list" (by decide)) bb_list (by decide) (by decide) (evO_var rfl (by first | exact .inl rfl | exact .inr (.inl rfl) | exact .inr (.inr rfl)) (by decide) (by decide)) (by rfl) (by rfl) (by rfl)) (fun _ => rfl))) (evW_or1 (evT_ne hr0 (evO_val (ev_fz (evN_lc (own := [("match", 12)]) rfl nd (evI_list (ev_var rfl (by first | exact .inl rfl | exact .inr (.inl rfl) | exact .inr (.inr rfl)) (by decide) (by decide))) (blkOk_by (by rfl)) (fun _ _ _ _ _ => (evG_name nd rfl (by first | exact .inl rfl | exact .inr rfl) (by first | exact .inl rfl | exact .inr rfl))) (fun _ _ _ _ _ => (evTs_one (evT_not (evT_val (ev_gd G_is_match len_is_match (hr.mono (by omega)) hG rfl (passB rfl) (evA_cons (evO_val (ev_var rfl (by first | exact .inl rfl | exact .inr (.inl rfl) | exact .inr (.inr rfl)) (by decide) (by decide))) (evA_cons (evO_val (ev_var rfl (by first | exact .inl rfl | exact .inr (.inl rfl) | exact .inr (.inr rfl)) (by decide) (by decide))) evA_nil (by rfl)) (by rfl)) (by decide) (by rfl) (by rfl)) (fun _ => rfl))))) (fun _ _ _ _ _ => (ev_var rfl (by first | exact .inl rfl | exact .inr (.inl rfl) | exact .inr (.inr rfl)) (by decide) (by decide))) (by decide) (fun _ => rfl)))) (evO_val (ev_fz (evN_lst evA_nil))) (by first | rfl | exact nobehind _ (by decide) (by decide)))))) (evSs_one (evS_raiseC E_InvalidDay rfl (hr.mono (by omega)) takesX rfl (ev_var rfl (by first | exact .inl rfl | exact .inr (.inl rfl) | exact .inr (.inr rfl)) (by decide) (by decide)) (by decide) (by rfl) (by rfl))) evSs_nil) (evSsD_cons (evS_own nd rfl (by first | exact .inl rfl | exact .inr rfl) (evN_rep (evN_lst (evA_cons (evO_val ev_int) evA_nil (by rfl))) (ev_var rfl (by first | exact .inl rfl | exact .inr (.inl rfl) | exact .inr (.inr rfl)) (by decide) (by decide))) (by rfl) (by first | exact .inl rfl | exact .inr rfl)) (evSsD_cons (evS_own nd rfl (by first | exact .inl rfl | exact .inr rfl) (evN_lst evA_nil) (by rfl) (by first | exact .inl rfl | exact .inr rfl)) (evSsD_cons (evS_for ownX rfl (evI_list (ev_var rfl (by first | exact .inl rfl | exact .inr (.inl rfl) | exact .inr (.inr rfl)) (by decide) (by decide))) (evG_tup' rfl (evGs_cons (evG_name nd rfl (by first | exact .inl rfl | exact .inr rfl) (by first | exact .inl rfl | exact .inr rfl)) (evGs_cons (evG_name nd rfl (by first | exact .inl rfl | exact .inr rfl) (by first | exact .inl rfl | exact .inr rfl)) (evGs_cons (evG_name nd rfl (by first | exact .inl rfl | exact .inr rfl) (by first | exact .inl rfl | exact .inr rfl)) (evGs_cons (evG_name nd rfl (by first | exact .inl rfl | exact .inr rfl) (by first | exact .inl rfl | exact .inr rfl)) evGs_nil (by rfl)) (by rfl)) (by rfl)) (by rfl)) rfl rfl) (evSs_cons (evS_asg (ev_gd G_led_by len_led_by (hr.mono (by omega)) hG rfl passX (evA_cons (evO_val (ev_var rfl (by first | exact .inl rfl | exact .inr (.inl rfl) | exact .inr (.inr rfl)) (by decide) (by decide))) (evA_cons (evO_val (ev_var rfl (by first | exact .inl rfl | exact .inr (.inl rfl) | exact .inr (.inr rfl)) (by decide) (by decide))) (evA_cons (evO_val (ev_var rfl (by first | exact .inl rfl | exact .inr (.inl rfl) | exact .inr (.inr rfl)) (by decide) (by decide))) evA_nil (by rfl)) (by rfl)) (by rfl)) (by decide) (by rfl) (by rfl)) (evG_tup' rfl (evGs_cons (evG_name nd rfl (by first | exact .inl rfl | exact .inr rfl) (by first | exact .inl rfl | exact .inr rfl)) (evGs_cons (evG_name nd rfl (by first | exact .inl rfl | exact .inr rfl) (by first | exact .inl rfl | exact .inr rfl)) (evGs_cons (evG_name nd rfl (by first | exact .inl rfl | exact .inr rfl) (by first | exact .inl rfl | exact .inr rfl)) evGs_nil (by rfl)) (by rfl)) (by rfl)) rfl rfl) (by rfl) (by rfl) (by rfl)) (evSs_cons (evS_if (evT_lt (evO_var rfl (by first | exact .inl rfl | exact .inr (.inl rfl) | exact .inr (.inr rfl)) (by decide) (by decide)) (evO_val (ev_len rfl (hbn "len" (by decide)) (evO_var rfl (by first | exact .inl rfl | exact .inr (.inl rfl) | exact .inr (.inr rfl)) (by decide) (by decide)) (by rfl) (by rfl)))) (evSs_one (evS_raiseC E_InvalidDay rfl (hr.mono (by omega)) takesX rfl (ev_var rfl (by first | exact .inl rfl | exact .inr (.inl rfl) | exact .inr (.inr rfl)) (by decide) (by decide)) (by decide) (by rfl) (by rfl))) evSs_nil) (evSs_one (evS_if (evT_isN (evO_var rfl (by first | exact .inl rfl | exact .inr (.inl rfl) | exact .inr (.inr rfl)) (by decide) (by decide)) (evO_val ev_non)) (evSs_one (evS_app rfl (by first | exact .inl rfl | exact .inr (.inl rfl) | exact .inr (.inr rfl)) (by decide) (by decide) (ev_tup (evA_cons (evO_val (ev_min2 rfl rfl (hbn "min" (by decide)) (evO_var rfl (by first | exact .inl rfl | exact .inr (.inl rfl) | exact .inr (.inr rfl)) (by decide) (by decide)) (evO_var rfl (by first | exact .inl rfl | exact .inr (.inl rfl) | exact .inr (.inr rfl)) (by decide) (by decide)) (by rfl) (by rfl) (by rfl))) (evA_cons (evO_val (ev_max2 rfl rfl (hbn "max" (by decide)) (evO_var rfl (by first | exact .inl rfl | exact .inr (.inl rfl) | exact .inr (.inr rfl)) (by decide) (by decide)) (evO_var rfl (by first | exact .inl rfl | exact .inr (.inl rfl) | exact .inr (.inr rfl)) (by decide) (by decide)) (by rfl) (by rfl) (by rfl))) evA_nil (by rfl)) (by rfl))) (by rfl) (by rfl) (by rfl) (by rfl) (by rfl) (by rfl))) (evSs_one (evS_put rfl (by first | exact .inl rfl | exact .inr (.inl rfl) | exact .inr (.inr rfl)) (by decide) (by decide) (ev_if (evT_eq hr0 (evO_var rfl (by first | exact .inl rfl | exact .inr (.inl rfl) | exact .inr (.inr rfl)) (by decide) (by decide)) (evO_val ev_int) (by first | rfl | exact nobehind _ (by decide) (by decide))) (ev_var rfl (by first | exact .inl rfl | exact .inr (.inl rfl) | exact .inr (.inr rfl)) (by decide) (by decide)) (ev_var rfl (by first | exact .inl rfl | exact .inr (.inl rfl) | exact .inr (.inr rfl)) (by decide) (by decide))) (ev_add (evO_val (ev_index (evO_var rfl (by first | exact .inl rfl | exact .inr (.inl rfl) | exact .inr (.inr rfl)) (by decide) (by decide)) (evO_val (ev_if (evT_eq hr0 (evO_var rfl (by first | exact .inl rfl | exact .inr (.inl rfl) | exact .inr (.inr rfl)) (by decide) (by decide)) (evO_val ev_int) (by first | rfl | exact nobehind _ (by decide) (by decide))) (ev_var rfl (by first | exact .inl rfl | exact .inr (.inl rfl) | exact .inr (.inr rfl)) (by decide) (by decide)) (ev_var rfl (by first | exact .inl rfl | exact .inr (.inl rfl) | exact .inr (.inr rfl)) (by decide) (by decide)))) (fun _ _ => rfl))) (evO_val ev_int)) (fun _ _ => rfl) (by rfl) (by rfl) (by rfl) (fun _ => rfl))))))) (fun _ => rfl)) (evSsD_ret2 rfl (by first | exact .inl rfl | exact .inr (.inl rfl) | exact .inr (.inr rfl)) (by decide) (by decide) (evN_sortP rfl (hbn "sorted" (by decide)) (evO_var rfl (by first | exact .inl rfl | exact .inr (.inl rfl) | exact .inr (.inr rfl)) (by decide) (by decide)) (by rfl) (by rfl)) (by rfl) (by rfl))))))))
theorem sc__law_hash : FnScope N__law_hash P__law_hash (defScope (top 35)) := ⟨rfl, rfl, rfl, by decide +kernel, rfl, by decide +kernel, by decide +kernel⟩
theorem ok__law_hash {f : Addr} {fd : FuncData} (Fu : Fun K "_law_hash" "_law_hash" (top 35) f fd) (hm : mg "_law_hash" = some (.ref f)) (hbn : ∀ x ∈ bns, mg x = none)  :
    GD P w K mg base "_law_hash" (0 + 1) P__law_hash (spP K ec 2 F__law_hash) := by
  have nd : (N__law_hash : List Str).Nodup := sc__law_hash.nd
  refine gd_mk Fu hm (fn_ok (N := N__law_hash) (k := 0) (m := m__law_hash) Fu sc__law_hash fun cdv A outer s H E hr hG => ?_) (fun _ _ _ _ _ _ us hl => match us, hl with | [_, _], _ => rfl) (fun _ _ _ _ _ _ us hl => match us, hl with | [_, _], _ => rfl)
  have hr0 := hr.mono (Nat.zero_le _)
  exact (evSs_cons (evS_set nd rfl (by first | exact .inl rfl | exact .inr rfl) (ev_mod (evO_val (ev_int1 rfl (hbn "int" (by decide)) (evO_val (ev_add (evO_val (ev_add (evO_val (ev_add (evO_val (ev_mul (evO_var rfl (by first | exact .inl rfl | exact .inr (.inl rfl) | exact .inr (.inr rfl)) (by decide) (by decide)) (evO_val ev_int))) (evO_val (ev_mul (evO_val (ev_mul (evO_val ev_int) (evO_var rfl (by first | exact .inl rfl | exact .inr (.inl rfl) | exact .inr (.inr rfl)) (by decide) (by decide)))) (evO_var rfl (by first | exact .inl rfl | exact .inr (.inl rfl) | exact .inr (.inr rfl)) (by decide) (by decide)))))) (evO_val (ev_mul (evO_val ev_int) (evO_var rfl (by first | exact .inl rfl | exact .inr (.inl rfl) | exact .inr (.inr rfl)) (by decide) (by decide)))))) (evO_val ev_int))) (by rfl) (by rfl))) (evO_val ev_int)) (by rfl) (by first | exact .inl rfl | exact .inr rfl)) (evSs_cons (evS_set nd rfl (by first | exact .inl rfl | exact .inr rfl) (ev_mod (evO_val (ev_int1 rfl (hbn "int" (by decide)) (evO_val (ev_add (evO_val (ev_add (evO_val (ev_mul (evO_var rfl (by first | exact .inl rfl | exact .inr (.inl rfl) | exact .inr (.inr rfl)) (by decide) (by decide)) (evO_var rfl (by first | exact .inl rfl | exact .inr (.inl rfl) | exact .inr (.inr rfl)) (by decide) (by decide)))) (evO_val (ev_mul (evO_val ev_int) (evO_var rfl (by first | exact .inl rfl | exact .inr (.inl rfl) | exact .inr (.inr rfl)) (by decide) (by decide)))))) (evO_val ev_int))) (by rfl) (by rfl))) (evO_val ev_int)) (by rfl) (by first | exact .inl rfl | exact .inr rfl)) (evSs_one (evS_ret (ev_mod (evO_val (ev_int1 rfl (hbn "int" (by decide)) (evO_val (ev_mul (evO_var rfl (by first | exact .inl rfl | exact .inr (.inl rfl) | exact .inr (.inr rfl)) (by decide) (by decide)) (evO_val ev_int))) (by rfl) (by rfl))) (evO_val ev_int))))))
theorem sc__law_random : FnScope N__law_random P__law_random (defScope (top 36)) := ⟨rfl, rfl, rfl, by decide +kernel, rfl, by decide +kernel, by decide +kernel⟩
theorem ok__law_random {f : Addr} {fd : FuncData} (Fu : Fun K "_law_random" "_law_random" (top 36) f fd) (hm : mg "_law_random" = some (.ref f)) (hbn : ∀ x ∈ bns, mg x = none) (G__law_hash : GD P w K mg base "_law_hash" 1 P__law_hash (spP K ec 2 F__law_hash)) :
    GD P w K mg base "_law_random" (1 + 1) P__law_random (spL K ec 1 F__law_random) := by
  have nd : (N__law_random : List Str).Nodup := sc__law_random.nd
  refine gd_mk Fu hm (fn_okL (N := N__law_random) (k := 1) (m := m__law_random) Fu sc__law_random rfl fun cdv A outer s H E hr hG => ?_) (fun _ _ _ _ _ _ us hl => match us, hl with | [_, _], _ => rfl) (fun _ _ _ _ _ _ us hl => match us, hl with | [_, _], _ => rfl)
  have hr0 := hr.mono (Nat.zero_le _)
  exact (evSs_cons (evS_if (evT_gt (evO_val (ev_index (evO_var rfl (by first | exact .inl rfl | exact .inr (.inl rfl) | exact .inr (.inr rfl)) (by decide) (by decide)) (evO_val ev_int) (fun _ _ => rfl))) (evO_val ev_int)) (evSs_cons (evS_set nd rfl (by first | exact .inl rfl | exact .inr rfl) (ev_mod (evO_val (ev_int1 rfl (hbn "int" (by decide)) (evO_val (ev_index (evO_var rfl (by first | exact .inl rfl | exact .inr (.inl rfl) | exact .inr (.inr rfl)) (by decide) (by decide)) (evO_val ev_int) (fun _ _ => rfl))) (by rfl) (by rfl))) (evO_var rfl (by first | exact .inl rfl | exact .inr (.inl rfl) | exact .inr (.inr rfl)) (by decide) (by decide))) (by rfl) (by first | exact .inl rfl | exact .inr rfl)) (evSs_cons (evS_put rfl (by first | exact .inl rfl | exact .inr (.inl rfl) | exact .inr (.inr rfl)) (by decide) (by decide) ev_int (ev_div (evO_val (ev_index (evO_var rfl (by first | exact .inl rfl | exact .inr (.inl rfl) | exact .inr (.inr rfl)) (by decide) (by decide)) (evO_val ev_int) (fun _ _ => rfl))) (evO_var rfl (by first | exact .inl rfl | exact .inr (.inl rfl) | exact .inr (.inr rfl)) (by decide) (by decide))) (fun _ _ => rfl) (by rfl) (by rfl) (by rfl) (fun _ => rfl)) (evSs_one (evS_ret (ev_var rfl (by first | exact .inl rfl | exact .inr (.inl rfl) | exact .inr (.inr rfl)) (by decide) (by decide)))))) evSs_nil) (evSs_cons (evS_set nd rfl (by first | exact .inl rfl | exact .inr rfl) ev_int (by rfl) (by first | exact .inl rfl | exact .inr rfl)) (evSs_cons (evS_for ownX rfl (evI_rng1 rfl (hbn "range" (by decide)) (evA_cons (evO_val (ev_add (evO_val ev_int) (evO_val (ev_div (evO_val (ev_bits (ev_var rfl (by first | exact .inl rfl | exact .inr (.inl rfl) | exact .inr (.inr rfl)) (by decide) (by decide)) (by rfl) (by rfl))) (evO_val ev_int))))) evA_nil (by rfl)) (by rfl)) (evG_name nd rfl (by first | exact .inl rfl | exact .inr rfl) (by first | exact .inl rfl | exact .inr rfl)) (evSs_cons (evS_put rfl (by first | exact .inl rfl | exact .inr (.inl rfl) | exact .inr (.inr rfl)) (by decide) (by decide) ev_int (ev_add (evO_val (ev_index (evO_var rfl (by first | exact .inl rfl | exact .inr (.inl rfl) | exact .inr (.inr rfl)) (by decide) (by decide)) (evO_val ev_int) (fun _ _ => rfl))) (evO_val ev_int)) (fun _ _ => rfl) (by rfl) (by rfl) (by rfl) (fun _ => rfl)) (evSs_one (evS_set nd rfl (by first | exact .inl rfl | exact .inr rfl) (ev_add (evO_val (ev_mul (evO_var rfl (by first | exact .inl rfl | exact .inr (.inl rfl) | exact .inr (.inr rfl)) (by decide) (by decide)) (evO_val ev_int))) (evO_val (ev_gd G__law_hash len__law_hash (hr.mono (by omega)) hG rfl passX (evA_cons (evO_val (ev_index (evO_var rfl (by first | exact .inl rfl | exact .inr (.inl rfl) | exact .inr (.inr rfl)) (by decide) (by decide)) (evO_val ev_int) (fun _ _ => rfl))) (evA_cons (evO_val (ev_index (evO_var rfl (by first | exact .inl rfl | exact .inr (.inl rfl) | exact .inr (.inr rfl)) (by decide) (by decide)) (evO_val ev_int) (fun _ _ => rfl))) evA_nil (by rfl)) (by rfl)) (by decide) (by rfl) (by rfl)))) (by rfl) (by first | exact .inl rfl | exact .inr rfl)))) (fun _ => rfl)) (evSs_one (evS_ret (ev_mod (evO_val (ev_int1 rfl (hbn "int" (by decide)) (evO_var rfl (by first | exact .inl rfl | exact .inr (.inl rfl) | exact .inr (.inr rfl)) (by decide) (by decide)) (by rfl) (by rfl))) (evO_var rfl (by first | exact .inl rfl | exact .inr (.inl rfl) | exact .inr (.inr rfl)) (by decide) (by decide))))))))
theorem sc__law_cell : FnScope N__law_cell P__law_cell (defScope (top 37)) := ⟨rfl, rfl, rfl, by decide +kernel, rfl, by decide +kernel, by decide +kernel⟩
theorem ok__law_cell {f : Addr} {fd : FuncData} (Fu : Fun K "_law_cell" "_law_cell" (top 37) f fd) (hm : mg "_law_cell" = some (.ref f)) (hbn : ∀ x ∈ bns, mg x = none)  :
    GD P w K mg base "_law_cell" (0 + 1) P__law_cell (spP K ec 2 F__law_cell) := by
  have nd : (N__law_cell : List Str).Nodup := sc__law_cell.nd
  refine gd_mk Fu hm (fn_ok (N := N__law_cell) (k := 0) (m := m__law_cell) Fu sc__law_cell fun cdv A outer s H E hr hG => ?_) (fun _ _ _ _ _ _ us hl => match us, hl with | [_, _], _ => rfl) (fun _ _ _ _ _ _ us hl => match us, hl with | [_, _], _ => rfl)
  have hr0 := hr.mono (Nat.zero_le _)
  exact (evSs_cons (evS_if (evT_lt (evO_var rfl (by first | exact .inl rfl | exact .inr (.inl rfl) | exact .inr (.inr rfl)) (by decide) (by decide)) (evO_val (ev_len rfl (hbn "len" (by decide)) (evO_var rfl (by first | exact .inl rfl | exact .inr (.inl rfl) | exact .inr (.inr rfl)) (by decide) (by decide)) (by rfl) (by rfl)))) (evSs_one (evS_ret (ev_index (evO_var rfl (by first | exact .inl rfl | exact .inr (.inl rfl) | exact .inr (.inr rfl)) (by decide) (by decide)) (evO_var rfl (by first | exact .inl rfl | exact .inr (.inl rfl) | exact .inr (.inr rfl)) (by decide) (by decide)) (fun _ _ => rfl)))) evSs_nil) (evSs_one (evS_ret (ev_mod (evO_val (ev_sum rfl rfl (hbn "sum" (by decide)) (evO_val (ev_sl (evO_var rfl (by first | exact .inl rfl | exact .inr (.inl rfl) | exact .inr (.inr rfl)) (by decide) (by decide)) evP_none (evP_some ev_int))) (by rfl) (by rfl))) (evO_val ev_int)))))
theorem sc__law_generator : FnScope N__law_generator P__law_generator (defScope (top 38)) := ⟨rfl, rfl, rfl, by decide +kernel, rfl, by decide +kernel, by decide +kernel⟩
theorem ok__law_generator {f : Addr} {fd : FuncData} (Fu : Fun K "_law_generator" "_law_generator" (top 38) f fd) (hm : mg "_law_generator" = some (.ref f)) (hbn : ∀ x ∈ bns, mg x = none) (G__law_cell : GD P w K mg base "_law_cell" 1 P__law_cell (spP K ec 2 F__law_cell)) :
    GD P w K mg base "_law_generator" (1 + 1) P__law_generator (spN K ec 2 F__law_generator) := by
  have nd : (N__law_generator : List Str).Nodup := sc__law_generator.nd
  refine gd_mk Fu hm (fn_okN (N := N__law_generator) (k := 1) (m1 := m1__law_generator) (m2 := m2__law_generator) Fu sc__law_generator rfl fun cdv A outer s H E hr hG => ?_) (fun _ _ _ _ _ _ us hl => match us, hl with | [_, _], _ => rfl) (fun _ _ _ _ _ _ us hl => match us, hl with | [_, _], _ => rfl)
  have hr0 := hr.mono (Nat.zero_le _)
  exact ⟨(evS_set nd rfl (by first | exact .inl rfl | exact .inr rfl) (ev_gd G__law_cell len__law_cell (hr.mono (by omega)) hG rfl passX (evA_cons (evO_val (ev_var rfl (by first | exact .inl rfl | exact .inr (.inl rfl) | exact .inr (.inr rfl)) (by decide) (by decide))) (evA_cons (evO_val (ev_var rfl (by first | exact .inl rfl | exact .inr (.inl rfl) | exact .inr (.inr rfl)) (by decide) (by decide))) evA_nil (by rfl)) (by rfl)) (by decide) (by rfl) (by rfl)) (by rfl) (by first | exact .inl rfl | exact .inr rfl)), (evN_lst (evA_cons (evO_val (ev_mod (evO_val (ev_int1 rfl (hbn "int" (by decide)) (evO_val (ev_max2 rfl rfl (hbn "max" (by decide)) (evO_val (ev_sub (evO_var rfl (by first | exact .inl rfl | exact .inr (.inl rfl) | exact .inr (.inr rfl)) (by decide) (by decide)) (evO_val (ev_pow (evO_val ev_int) (evO_val ev_int))))) (evO_val ev_int) (by rfl) (by rfl) (by rfl))) (by rfl) (by rfl))) (evO_val (ev_pow (evO_val (ev_pow (evO_val ev_int) (evO_val ev_int))) (evO_val ev_int))))) (evA_cons (evO_val (ev_mod (evO_val (ev_int1 rfl (hbn "int" (by decide)) (evO_var rfl (by first | exact .inl rfl | exact .inr (.inl rfl) | exact .inr (.inr rfl)) (by decide) (by decide)) (by rfl) (by rfl))) (evO_val ev_int))) (evA_cons (evO_val (ev_mul (evO_val ev_int) (evO_var rfl (by first | exact .inl rfl | exact .inr (.inl rfl) | exact .inr (.inr rfl)) (by decide) (by decide)))) evA_nil (by rfl)) (by rfl)) (by rfl)))⟩
theorem sc__law_pick : FnScope N__law_pick P__law_pick (defScope (top 39)) := ⟨rfl, rfl, rfl, by decide +kernel, rfl, by decide +kernel, by decide +kernel⟩
theorem ok__law_pick {f : Addr} {fd : FuncData} (Fu : Fun K "_law_pick" "_law_pick" (top 39) f fd) (hm : mg "_law_pick" = some (.ref f)) (hbn : ∀ x ∈ bns, mg x = none) (G__law_random : GD P w K mg base "_law_random" 2 P__law_random (spL K ec 1 F__law_random)) :
    GD P w K mg base "_law_pick" (2 + 1) P__law_pick (spL K ec 1 F__law_pick) := by
  have nd : (N__law_pick : List Str).Nodup := sc__law_pick.nd
  refine gd_mk Fu hm (fn_okL (N := N__law_pick) (k := 2) (m := m__law_pick) Fu sc__law_pick rfl fun cdv A outer s H E hr hG => ?_) (fun _ _ _ _ _ _ us hl => match us, hl with | [_, _], _ => rfl) (fun _ _ _ _ _ _ us hl => match us, hl with | [_, _], _ => rfl)
  have hr0 := hr.mono (Nat.zero_le _)
  exact (evSs_one (evS_ret (ev_index (evO_var rfl (by first | exact .inl rfl | exact .inr (.inl rfl) | exact .inr (.inr rfl)) (by decide) (by decide)) (evO_val (ev_gdL G__law_random len__law_random (hr.mono (by omega)) hG rfl passX (evA_cons (evO_var rfl (by first | exact .inl rfl | exact .inr (.inl rfl) | exact .inr (.inr rfl)) (by decide) (by decide)) (evA_cons (evO_val (ev_len rfl (hbn "len" (by decide)) (evO_var rfl (by first | exact .inl rfl | exact .inr (.inl rfl) | exact .inr (.inr rfl)) (by decide) (by decide)) (by rfl) (by rfl))) evA_nil (by rfl)) (by rfl)) (by decide) (by rfl) (by rfl))) (fun _ _ => rfl))))
theorem sc__law_order : FnScope N__law_order P__law_order (defScope (top 41)) := ⟨rfl, rfl, rfl, by decide +kernel, rfl, by decide +kernel, by decide +kernel⟩
theorem ok__law_order {f : Addr} {fd : FuncData} (Fu : Fun K "_law_order" "_law_order" (top 41) f fd) (hm : mg "_law_order" = some (.ref f)) (hbn : ∀ x ∈ bns, mg x = none) (G__law_random : GD P w K mg base "_law_random" 2 P__law_random (spL K ec 1 F__law_random)) (G__law_pick : GD P w K mg base "_law_pick" 3 P__law_pick (spL K ec 1 F__law_pick)) :
    GD P w K mg base "_law_order" (3 + 1) P__law_order (spL K ec 0 F__law_order) := by
  have nd : (N__law_order : List Str).Nodup := sc__law_order.nd
  refine gd_mk Fu hm (fn_okL (N := N__law_order) (k := 3) (m := m__law_order) Fu sc__law_order rfl fun cdv A outer s H E hr hG => ?_) (fun _ _ _ _ _ _ us hl => match us, hl with | [_], _ => rfl) (fun _ _ _ _ _ _ us hl => match us, hl with | [_], _ => rfl)
  have hr0 := hr.mono (Nat.zero_le _)
  exact (evSs_cons (evS_if (evT_eq hr0 (evO_val (ev_gdL G__law_random len__law_random (hr.mono (by omega)) hG rfl passX (evA_cons (evO_var rfl (by first | exact .inl rfl | exact .inr (.inl rfl) | exact .inr (.inr rfl)) (by decide) (by decide)) (evA_cons (evO_val ev_int) evA_nil (by rfl)) (by rfl)) (by decide) (by rfl) (by rfl))) (evO_val ev_int) (by first | rfl | exact nobehind _ (by decide) (by decide))) (evSs_one (evS_ret (ev_tup (evA_cons (evO_val ev_str) (evA_cons (evO_val (ev_gdL G__law_pick len__law_pick (hr.mono (by omega)) hG rfl passX (evA_cons (evO_var rfl (by first | exact .inl rfl | exact .inr (.inl rfl) | exact .inr (.inr rfl)) (by decide) (by decide)) (evA_cons (evO_val (ev_fz (evN_lst (evA_cons (evO_val (ev_fz (evN_lst (evA_cons (evO_val ev_int) (evA_cons (evO_val ev_int) evA_nil (by rfl)) (by rfl))))) (evA_cons (evO_val (ev_fz (evN_lst (evA_cons (evO_val ev_int) (evA_cons (evO_val ev_int) (evA_cons (evO_val ev_int) (evA_cons (evO_val ev_int) evA_nil (by rfl)) (by rfl)) (by rfl)) (by rfl))))) (evA_cons (evO_val (ev_fz (evN_lst (evA_cons (evO_val ev_int) (evA_cons (evO_val ev_int) evA_nil (by rfl)) (by rfl))))) (evA_cons (evO_val (ev_fz (evN_lst (evA_cons (evO_val ev_int) (evA_cons (evO_val ev_int) (evA_cons (evO_val ev_int) (evA_cons (evO_val ev_int) evA_nil (by rfl)) (by rfl)) (by rfl)) (by rfl))))) (evA_cons (evO_val (ev_fz (evN_lst (evA_cons (evO_val ev_int) evA_nil (by rfl))))) (evA_cons (evO_val (ev_fz (evN_lst (evA_cons (evO_val ev_int) evA_nil (by rfl))))) (evA_cons (evO_val (ev_fz (evN_lst (evA_cons (evO_val ev_int) (evA_cons (evO_val ev_int) (evA_cons (evO_val ev_int) evA_nil (by rfl)) (by rfl)) (by rfl))))) (evA_cons (evO_val (ev_fz (evN_lst (evA_cons (evO_val ev_int) (evA_cons (evO_val ev_int) (evA_cons (evO_val ev_int) evA_nil (by rfl)) (by rfl)) (by rfl))))) evA_nil (by rfl)) (by rfl)) (by rfl)) (by rfl)) (by rfl)) (by rfl)) (by rfl)) (by rfl))))) evA_nil (by rfl)) (by rfl)) (by decide) (by rfl) (by rfl))) evA_nil (by rfl)) (by rfl))))) evSs_nil) (evSs_one (evS_ret (ev_tup (evA_cons (evO_val (ev_gdL G__law_pick len__law_pick (hr.mono (by omega)) hG rfl passX (evA_cons (evO_var rfl (by first | exact .inl rfl | exact .inr (.inl rfl) | exact .inr (.inr rfl)) (by decide) (by decide)) (evA_cons (evO_val (ev_fz (evN_lst (evA_cons (evO_val ev_str) (evA_cons (evO_val ev_str) (evA_cons (evO_val ev_str) (evA_cons (evO_val ev_str) evA_nil (by rfl)) (by rfl)) (by rfl)) (by rfl))))) evA_nil (by rfl)) (by rfl)) (by decide) (by rfl) (by rfl))) evA_nil (by rfl))))))
theorem sc__law_unit : FnScope N__law_unit P__law_unit (defScope (top 42)) := ⟨rfl, rfl, rfl, by decide +kernel, rfl, by decide +kernel, by decide +kernel⟩
theorem ok__law_unit {f : Addr} {fd : FuncData} (Fu : Fun K "_law_unit" "_law_unit" (top 42) f fd) (hm : mg "_law_unit" = some (.ref f)) (hbn : ∀ x ∈ bns, mg x = none)  :
    GD P w K mg base "_law_unit" (0 + 1) P__law_unit (spP K ec 2 F__law_unit) := by
  have nd : (N__law_unit : List Str).Nodup := sc__law_unit.nd
  refine gd_mk Fu hm (fn_ok (N := N__law_unit) (k := 0) (m := m__law_unit) Fu sc__law_unit fun cdv A outer s H E hr hG => ?_) (fun _ _ _ _ _ _ us hl => match us, hl with | [_, _], _ => rfl) (fun _ _ _ _ _ _ us hl => match us, hl with | [_, _], _ => rfl)
  have hr0 := hr.mono (Nat.zero_le _)
  exact (evSs_cons (ps_lcset rfl nd rfl rfl (by rfl) (evI_list (ev_index (evO_var rfl (by first | exact .inl rfl | exact .inr (.inl rfl) | exact .inr (.inr rfl)) (by decide) (by decide)) (evO_val ev_int) (fun _ _ => rfl))) (blkOk_by (by rfl)) (fun _ _ _ _ _ => (evG_tup' rfl (evGs_cons (evG_name nd rfl (by first | exact .inl rfl | exact .inr rfl) (by first | exact .inl rfl | exact .inr rfl)) (evGs_cons (evG_name nd rfl (by first | exact .inl rfl | exact .inr rfl) (by first | exact .inl rfl | exact .inr rfl)) evGs_nil (by rfl)) (by rfl)) rfl rfl)) (fun _ _ _ _ _ => (evTs_one (evT_eq hr0 (evO_var rfl (by first | exact .inl rfl | exact .inr (.inl rfl) | exact .inr (.inr rfl)) (by decide) (by decide)) (evO_var rfl (by first | exact .inl rfl | exact .inr (.inl rfl) | exact .inr (.inr rfl)) (by decide) (by decide)) (by first | rfl | exact nobehind _ (by decide) (by decide))))) (fun _ _ _ _ _ => (ev_var rfl (by first | exact .inl rfl | exact .inr (.inl rfl) | exact .inr (.inr rfl)) (by decide) (by decide))) (by decide) (fun _ => rfl) (own := [("place", 3), ("special", 4)])) (evSs_one (evS_ret (ev_if (evT_ne hr0 (evO_var rfl (by first | exact .inl rfl | exact .inr (.inl rfl) | exact .inr (.inr rfl)) (by decide) (by decide)) (evO_val (ev_fz (evN_lst evA_nil))) (by first | rfl | exact nobehind _ (by decide) (by decide))) (ev_index (evO_var rfl (by first | exact .inl rfl | exact .inr (.inl rfl) | exact .inr (.inr rfl)) (by decide) (by decide)) (evO_val ev_int) (fun _ _ => rfl)) (ev_index (evO_var rfl (by first | exact .inl rfl | exact .inr (.inl rfl) | exact .inr (.inr rfl)) (by decide) (by decide)) (evO_val ev_int) (fun _ _ => rfl))))))
theorem sc__law_over : FnScope N__law_over P__law_over (defScope (top 43)) := ⟨rfl, rfl, rfl, by decide +kernel, rfl, by decide +kernel, by decide +kernel⟩
theorem ok__law_over {f : Addr} {fd : FuncData} (Fu : Fun K "_law_over" "_law_over" (top 43) f fd) (hm : mg "_law_over" = some (.ref f)) (hbn : ∀ x ∈ bns, mg x = none)  :
    GD P w K mg base "_law_over" (0 + 1) P__law_over (spP K ec 2 F__law_over) := by
  have nd : (N__law_over : List Str).Nodup := sc__law_over.nd
  refine gd_mk Fu hm (fn_ok (N := N__law_over) (k := 0) (m := m__law_over) Fu sc__law_over fun cdv A outer s H E hr hG => ?_) (fun _ _ _ _ _ _ us hl => match us, hl with | [_, _], _ => rfl) (fun _ _ _ _ _ _ us hl => match us, hl with | [_, _], _ => rfl)
  have hr0 := hr.mono (Nat.zero_le _)
  exact (evSs_cons (evS_if (evT_w (evW_and (evT_notN (evO_val (ev_index (evO_var rfl (by first | exact .inl rfl | exact .inr (.inl rfl) | exact .inr (.inr rfl)) (by decide) (by decide)) (evO_val ev_int) (fun _ _ => rfl))) (evO_val ev_non)) (evW_and1 (evT_ge hr0 (evO_val (ev_max1 hr0 rfl rfl (hbn "max" (by decide)) (evO_var rfl (by first | exact .inl rfl | exact .inr (.inl rfl) | exact .inr (.inr rfl)) (by decide) (by decide)) (by rfl) (by rfl))) (evO_val (ev_index (evO_var rfl (by first | exact .inl rfl | exact .inr (.inl rfl) | exact .inr (.inr rfl)) (by decide) (by decide)) (evO_val ev_int) (fun _ _ => rfl))) (by first | rfl | exact nobehind _ (by decide) (by decide)))))) (evSs_one (evS_ret ev_bl)) evSs_nil) (evSs_one (evS_ret (ev_and (ev_ge hr0 (evO_val (ev_max1 hr0 rfl rfl (hbn "max" (by decide)) (evO_var rfl (by first | exact .inl rfl | exact .inr (.inl rfl) | exact .inr (.inr rfl)) (by decide) (by decide)) (by rfl) (by rfl))) (evO_val (ev_index (evO_var rfl (by first | exact .inl rfl | exact .inr (.inl rfl) | exact .inr (.inr rfl)) (by decide) (by decide)) (evO_val ev_int) (fun _ _ => rfl))) (by first | rfl | exact nobehind _ (by decide) (by decide))) (ev_one (ev_ge hr0 (evO_val (ev_sub (evO_val (ev_max1 hr0 rfl rfl (hbn "max" (by decide)) (evO_var rfl (by first | exact .inl rfl | exact .inr (.inl rfl) | exact .inr (.inr rfl)) (by decide) (by decide)) (by rfl) (by rfl))) (evO_val (ev_min1 hr0 rfl rfl (hbn "min" (by decide)) (evO_var rfl (by first | exact .inl rfl | exact .inr (.inl rfl) | exact .inr (.inr rfl)) (by decide) (by decide)) (by rfl) (by rfl))))) (evO_val (ev_index (evO_var rfl (by first | exact .inl rfl | exact .inr (.inl rfl) | exact .inr (.inr rfl)) (by decide) (by decide)) (evO_val ev_int) (fun _ _ => rfl))) (by first | rfl | exact nobehind _ (by decide) (by decide))))))))
theorem sc__law_first_turn : FnScope N__law_first_turn P__law_first_turn (defScope (top 44)) := ⟨rfl, rfl, rfl, by decide +kernel, rfl, by decide +kernel, by decide +kernel⟩
theorem ok__law_first_turn {f : Addr} {fd : FuncData} (Fu : Fun K "_law_first_turn" "_law_first_turn" (top 44) f fd) (hm : mg "_law_first_turn" = some (.ref f)) (hbn : ∀ x ∈ bns, mg x = none)  :
    GD P w K mg base "_law_first_turn" (0 + 1) P__law_first_turn (spP K ec 2 F__law_first_turn) := by
  have nd : (N__law_first_turn : List Str).Nodup := sc__law_first_turn.nd
  refine gd_mk Fu hm (fn_ok (N := N__law_first_turn) (k := 0) (m := m__law_first_turn) Fu sc__law_first_turn fun cdv A outer s H E hr hG => ?_) (fun _ _ _ _ _ _ us hl => match us, hl with | [_, _], _ => rfl) (fun _ _ _ _ _ _ us hl => match us, hl with | [_, _], _ => rfl)
  have hr0 := hr.mono (Nat.zero_le _)
  exact (evSs_one (evS_ret (ev_if (evT_w (evW_and (evT_eq hr0 (evO_val (ev_index (evO_var rfl (by first | exact .inl rfl | exact .inr (.inl rfl) | exact .inr (.inr rfl)) (by decide) (by decide)) (evO_val ev_int) (fun _ _ => rfl))) (evO_val ev_str) (by first | rfl | exact nobehind _ (by decide) (by decide))) (evW_and (evT_eq hr0 (evO_val (ev_index (evO_val (ev_index (evO_var rfl (by first | exact .inl rfl | exact .inr (.inl rfl) | exact .inr (.inr rfl)) (by decide) (by decide)) (evO_val ev_int) (fun _ _ => rfl))) (evO_val ev_int) (fun _ _ => rfl))) (evO_val ev_str) (by first | rfl | exact nobehind _ (by decide) (by decide))) (evW_and1 (evT_eq hr0 (evO_val (ev_index (evO_val (ev_index (evO_val (ev_index (evO_var rfl (by first | exact .inl rfl | exact .inr (.inl rfl) | exact .inr (.inr rfl)) (by decide) (by decide)) (evO_val ev_int) (fun _ _ => rfl))) (evO_val ev_int) (fun _ _ => rfl))) (evO_val ev_int) (fun _ _ => rfl))) (evO_val ev_int) (by first | rfl | exact nobehind _ (by decide) (by decide))))))) (ev_sub (evO_val ev_int) (evO_var rfl (by first | exact .inl rfl | exact .inr (.inl rfl) | exact .inr (.inr rfl)) (by decide) (by decide))) (ev_var rfl (by first | exact .inl rfl | exact .inr (.inl rfl) | exact .inr (.inr rfl)) (by decide) (by decide)))))
theorem sc__law_start : FnScope N__law_start P__law_start (defScope (top 45)) := ⟨rfl, rfl, rfl, by decide +kernel, rfl, by decide +kernel, by decide +kernel⟩
theorem ok__law_start {n : Nat} {k : Nat} (hk0 : 1 ≤ k) {kG__law_start : Nat} (hk__law_start : kG__law_start ≤ k) {f : Addr} {fd : FuncData} (Fu : Fun K "_law_start" "_law_start" (top 45) f fd) (hm : mg "_law_start" = some (.ref f)) (hbn : ∀ x ∈ bns, mg x = none) (G__law_first_turn : GD P w K mg base "_law_first_turn" 1 P__law_first_turn (spP K ec 2 F__law_first_turn)) (G__law_start : GD P w K mg base "_law_start" kG__law_start P__law_start (spP K ec 2 (F__law_start n))) (G__law_unit : GD P w K mg base "_law_unit" 1 P__law_unit (spP K ec 2 F__law_unit)) :
    GD P w K mg base "_law_start" (k + 1) P__law_start (spP K ec 2 (F__law_start (n + 1))) := by
  have nd : (N__law_start : List Str).Nodup := sc__law_start.nd
  refine gd_mk Fu hm (fn_ok (N := N__law_start) (k := k) (m := (m__law_start (F__law_start n))) Fu sc__law_start fun cdv A outer s H E hr hG => ?_) (fun _ _ _ _ _ _ us hl => match us, hl with | [_, _], _ => rfl) (fun _ _ _ _ _ _ us hl => match us, hl with | [_, _], _ => rfl)
  have hr0 := hr.mono (Nat.zero_le _)
  exact (evSs_cons (evS_if (evT_ne hr0 (evO_val (ev_index (evO_var rfl (by first | exact .inl rfl | exact .inr (.inl rfl) | exact .inr (.inr rfl)) (by decide) (by decide)) (evO_val ev_int) (fun _ _ => rfl))) (evO_val ev_str) (by first | rfl | exact nobehind _ (by decide) (by decide))) (evSs_one (evS_ret (ev_fz (evN_lst (evA_cons (evO_val (ev_var rfl (by first | exact .inl rfl | exact .inr (.inl rfl) | exact .inr (.inr rfl)) (by decide) (by decide))) evA_nil (by rfl)))))) evSs_nil) (evSs_cons (evS_set nd rfl (by first | exact .inl rfl | exact .inr rfl) (ev_gd G__law_first_turn len__law_first_turn (hr.mono (by omega)) hG rfl passX (evA_cons (evO_val (ev_var rfl (by first | exact .inl rfl | exact .inr (.inl rfl) | exact .inr (.inr rfl)) (by decide) (by decide))) (evA_cons (evO_val (ev_var rfl (by first | exact .inl rfl | exact .inr (.inl rfl) | exact .inr (.inr rfl)) (by decide) (by decide))) evA_nil (by rfl)) (by rfl)) (by decide) (by rfl) (by rfl)) (by rfl) (by first | exact .inl rfl | exact .inr rfl)) (evSs_one (evS_ret (ev_fz (evN_lst (evA_cons (evO_val ev_int) (evA_cons (evO_val ev_int) (evA_cons (evO_val (ev_var rfl (by first | exact .inl rfl | exact .inr (.inl rfl) | exact .inr (.inr rfl)) (by decide) (by decide))) (evA_cons (evO_val (ev_var rfl (by first | exact .inl rfl | exact .inr (.inl rfl) | exact .inr (.inr rfl)) (by decide) (by decide))) (evA_cons (evO_val (ev_gd G__law_start (len__law_start n) (hr.mono (by omega)) hG rfl passX (evA_cons (evO_val (ev_gd G__law_unit len__law_unit (hr.mono (by omega)) hG rfl passX (evA_cons (evO_val (ev_var rfl (by first | exact .inl rfl | exact .inr (.inl rfl) | exact .inr (.inr rfl)) (by decide) (by decide))) (evA_cons (evO_val (ev_tup (evA_cons (evO_val ev_int) (evA_cons (evO_val ev_int) evA_nil (by rfl)) (by rfl)))) evA_nil (by rfl)) (by rfl)) (by decide) (by rfl) (by rfl))) (evA_cons (evO_val (ev_var rfl (by first | exact .inl rfl | exact .inr (.inl rfl) | exact .inr (.inr rfl)) (by decide) (by decide))) evA_nil (by rfl)) (by rfl)) (by decide) (by rfl) (by rfl))) evA_nil (by rfl)) (by rfl)) (by rfl)) (by rfl)) (by rfl))))))))
theorem sc__law_step : FnScope N__law_step P__law_step (defScope (top 46)) := ⟨rfl, rfl, rfl, by decide +kernel, rfl, by decide +kernel, by decide +kernel⟩
theorem ok__law_step {n : Nat} {k : Nat} (hk0 : 1 ≤ k) {kG__law_step : Nat} (hk__law_step : kG__law_step ≤ k) {kG__law_start : Nat} (hk__law_start : kG__law_start ≤ k) {f : Addr} {fd : FuncData} (Fu : Fun K "_law_step" "_law_step" (top 46) f fd) (hm : mg "_law_step" = some (.ref f)) (hbn : ∀ x ∈ bns, mg x = none) (G__law_step : GD P w K mg base "_law_step" kG__law_step P__law_step (spP K ec 3 (F__law_step n))) (G__law_unit : GD P w K mg base "_law_unit" 1 P__law_unit (spP K ec 2 F__law_unit)) (G__law_over : GD P w K mg base "_law_over" 1 P__law_over (spP K ec 2 F__law_over)) (G__law_start : GD P w K mg base "_law_start" kG__law_start P__law_start (spP K ec 2 (F__law_start 5))) :
    GD P w K mg base "_law_step" (k + 1) P__law_step (spP K ec 3 (F__law_step (n + 1))) := by
  have nd : (N__law_step : List Str).Nodup := sc__law_step.nd
  refine gd_mk Fu hm (fn_ok (N := N__law_step) (k := k) (m := (m__law_step (F__law_step n))) Fu sc__law_step fun cdv A outer s H E hr hG => ?_) (fun _ _ _ _ _ _ us hl => match us, hl with | [_, _, _], _ => rfl) (fun _ _ _ _ _ _ us hl => match us, hl with | [_, _, _], _ => rfl)
  have hr0 := hr.mono (Nat.zero_le _)
  exact (evSs_cons (evS_if (evT_w (evW_or (evT_eq hr0 (evO_val (ev_index (evO_var rfl (by first | exact .inl rfl | exact .inr (.inl rfl) | exact .inr (.inr rfl)) (by decide) (by decide)) (evO_val ev_int) (fun _ _ => rfl))) (evO_val ev_str) (by first | rfl | exact nobehind _ (by decide) (by decide))) (evW_or1 (evT_w (evW_and (evT_eq hr0 (evO_val (ev_index (evO_var rfl (by first | exact .inl rfl | exact .inr (.inl rfl) | exact .inr (.inr rfl)) (by decide) (by decide)) (evO_val ev_int) (fun _ _ => rfl))) (evO_val ev_str) (by first | rfl | exact nobehind _ (by decide) (by decide))) (evW_and1 (evT_eq hr0 (evO_var rfl (by first | exact .inl rfl | exact .inr (.inl rfl) | exact .inr (.inr rfl)) (by decide) (by decide)) (evO_val (ev_index (evO_var rfl (by first | exact .inl rfl | exact .inr (.inl rfl) | exact .inr (.inr rfl)) (by decide) (by decide)) (evO_val ev_int) (fun _ _ => rfl))) (by first | rfl | exact nobehind _ (by decide) (by decide))))))))) (evSs_one (evS_ret (ev_tup (evA_cons (evO_val ev_str) (evA_cons (evO_val (ev_var rfl (by first | exact .inl rfl | exact .inr (.inl rfl) | exact .inr (.inr rfl)) (by decide) (by decide))) (evA_cons (evO_val (ev_index (evO_var rfl (by first | exact .inl rfl | exact .inr (.inl rfl) | exact .inr (.inr rfl)) (by decide) (by decide)) (evO_val ev_int) (fun _ _ => rfl))) evA_nil (by rfl)) (by rfl)) (by rfl))))) evSs_nil) (evSs_cons (evS_if (evT_eq hr0 (evO_val (ev_index (evO_var rfl (by first | exact .inl rfl | exact .inr (.inl rfl) | exact .inr (.inr rfl)) (by decide) (by decide)) (evO_val ev_int) (fun _ _ => rfl))) (evO_val ev_str) (by first | rfl | exact nobehind _ (by decide) (by decide))) (evSs_one (evS_ret (ev_tup (evA_cons (evO_val ev_str) (evA_cons (evO_val (ev_fz (evN_lst (evA_cons (evO_val (ev_var rfl (by first | exact .inl rfl | exact .inr (.inl rfl) | exact .inr (.inr rfl)) (by decide) (by decide))) evA_nil (by rfl))))) (evA_cons (evO_val ev_non) evA_nil (by rfl)) (by rfl)) (by rfl))))) evSs_nil) (evSs_cons (evS_set nd rfl (by first | exact .inl rfl | exact .inr rfl) (ev_gd G__law_step (len__law_step n) (hr.mono (by omega)) hG rfl passX (evA_cons (evO_val (ev_gd G__law_unit len__law_unit (hr.mono (by omega)) hG rfl passX (evA_cons (evO_val (ev_var rfl (by first | exact .inl rfl | exact .inr (.inl rfl) | exact .inr (.inr rfl)) (by decide) (by decide))) (evA_cons (evO_val (ev_tup (evA_cons (evO_val (ev_index (evO_var rfl (by first | exact .inl rfl | exact .inr (.inl rfl) | exact .inr (.inr rfl)) (by decide) (by decide)) (evO_val ev_int) (fun _ _ => rfl))) (evA_cons (evO_val (ev_index (evO_var rfl (by first | exact .inl rfl | exact .inr (.inl rfl) | exact .inr (.inr rfl)) (by decide) (by decide)) (evO_val ev_int) (fun _ _ => rfl))) evA_nil (by rfl)) (by rfl)))) evA_nil (by rfl)) (by rfl)) (by decide) (by rfl) (by rfl))) (evA_cons (evO_val (ev_index (evO_var rfl (by first | exact .inl rfl | exact .inr (.inl rfl) | exact .inr (.inr rfl)) (by decide) (by decide)) (evO_val ev_int) (fun _ _ => rfl))) (evA_cons (evO_val (ev_var rfl (by first | exact .inl rfl | exact .inr (.inl rfl) | exact .inr (.inr rfl)) (by decide) (by decide))) evA_nil (by rfl)) (by rfl)) (by rfl)) (by decide) (by rfl) (by rfl)) (by rfl) (by first | exact .inl rfl | exact .inr rfl)) (evSs_cons (evS_if (evT_eq hr0 (evO_val (ev_index (evO_var rfl (by first | exact .inl rfl | exact .inr (.inl rfl) | exact .inr (.inr rfl)) (by decide) (by decide)) (evO_val ev_int) (fun _ _ => rfl))) (evO_val ev_str) (by first | rfl | exact nobehind _ (by decide) (by decide))) (evSs_one (evS_ret (ev_tup (evA_cons (evO_val ev_str) (evA_cons (evO_val (ev_add (evO_val (ev_sl (evO_var rfl (by first | exact .inl rfl | exact .inr (.inl rfl) | exact .inr (.inr rfl)) (by decide) (by decide)) evP_none (evP_some ev_int))) (evO_val (ev_fz (evN_lst (evA_cons (evO_val (ev_index (evO_var rfl (by first | exact .inl rfl | exact .inr (.inl rfl) | exact .inr (.inr rfl)) (by decide) (by decide)) (evO_val ev_int) (fun _ _ => rfl))) evA_nil (by rfl))))))) (evA_cons (evO_val ev_non) evA_nil (by rfl)) (by rfl)) (by rfl))))) evSs_nil) (evSs_cons (evS_set nd rfl (by first | exact .inl rfl | exact .inr rfl) (ev_tup (evA_cons (evO_val (ev_add (evO_val (ev_index (evO_var rfl (by first | exact .inl rfl | exact .inr (.inl rfl) | exact .inr (.inr rfl)) (by decide) (by decide)) (evO_val ev_int) (fun _ _ => rfl))) (evO_val (ev_if (evT_eq hr0 (evO_val (ev_index (evO_var rfl (by first | exact .inl rfl | exact .inr (.inl rfl) | exact .inr (.inr rfl)) (by decide) (by decide)) (evO_val ev_int) (fun _ _ => rfl))) (evO_val ev_int) (by first | rfl | exact nobehind _ (by decide) (by decide))) ev_int ev_int)))) (evA_cons (evO_val (ev_add (evO_val (ev_index (evO_var rfl (by first | exact .inl rfl | exact .inr (.inl rfl) | exact .inr (.inr rfl)) (by decide) (by decide)) (evO_val ev_int) (fun _ _ => rfl))) (evO_val (ev_if (evT_eq hr0 (evO_val (ev_index (evO_var rfl (by first | exact .inl rfl | exact .inr (.inl rfl) | exact .inr (.inr rfl)) (by decide) (by decide)) (evO_val ev_int) (fun _ _ => rfl))) (evO_val ev_int) (by first | rfl | exact nobehind _ (by decide) (by decide))) ev_int ev_int)))) evA_nil (by rfl)) (by rfl))) (by rfl) (by first | exact .inl rfl | exact .inr rfl)) (evSs_cons (evS_set nd rfl (by first | exact .inl rfl | exact .inr rfl) (ev_index (evO_val (ev_index (evO_var rfl (by first | exact .inl rfl | exact .inr (.inl rfl) | exact .inr (.inr rfl)) (by decide) (by decide)) (evO_val ev_int) (fun _ _ => rfl))) (evO_val ev_int) (fun _ _ => rfl)) (by rfl) (by first | exact .inl rfl | exact .inr rfl)) (evSs_cons (evS_set nd rfl (by first | exact .inl rfl | exact .inr rfl) (ev_ixS hr0 (ev_fz (ev_dispK (.cons (ev_index (evO_var rfl (by first | exact .inl rfl | exact .inr (.inl rfl) | exact .inr (.inr rfl)) (by decide) (by decide)) (evO_val ev_int) (fun _ _ => rfl)) (.cons (ev_sub (evO_val ev_int) (evO_val (ev_index (evO_var rfl (by first | exact .inl rfl | exact .inr (.inl rfl) | exact .inr (.inr rfl)) (by decide) (by decide)) (evO_val ev_int) (fun _ _ => rfl)))) (.cons (ev_index (evO_var rfl (by first | exact .inl rfl | exact .inr (.inl rfl) | exact .inr (.inr rfl)) (by decide) (by decide)) (evO_val ev_int) (fun _ _ => rfl)) (.cons (ev_sub (evO_val ev_int) (evO_val (ev_index (evO_var rfl (by first | exact .inl rfl | exact .inr (.inl rfl) | exact .inr (.inr rfl)) (by decide) (by decide)) (evO_val ev_int) (fun _ _ => rfl)))) (.cons ev_int .nil))))) (by simp) (by decide))) (evO_var rfl (by first | exact .inl rfl | exact .inr (.inl rfl) | exact .inr (.inr rfl)) (by decide) (by decide)) (fun _ _ => rfl)) (by rfl) (by first | exact .inl rfl | exact .inr rfl)) (evSs_cons (evS_if (evT_eq hr0 (evO_var rfl (by first | exact .inl rfl | exact .inr (.inl rfl) | exact .inr (.inr rfl)) (by decide) (by decide)) (evO_val ev_str) (by first | rfl | exact nobehind _ (by decide) (by decide))) (evSs_one (evS_set nd rfl (by first | exact .inl rfl | exact .inr rfl) (ev_if (evT_eq hr0 (evO_val (ev_index (evO_val (ev_index (evO_val (ev_index (evO_var rfl (by first | exact .inl rfl | exact .inr (.inl rfl) | exact .inr (.inr rfl)) (by decide) (by decide)) (evO_val ev_int) (fun _ _ => rfl))) (evO_val ev_int) (fun _ _ => rfl))) (evO_val (ev_mod (evO_val (ev_sumT rfl rfl (hbn "sum" (by decide)) (evO_var rfl (by first | exact .inl rfl | exact .inr (.inl rfl) | exact .inr (.inr rfl)) (by decide) (by decide)) (by rfl) (by rfl))) (evO_val (ev_len rfl (hbn "len" (by decide)) (evO_val (ev_index (evO_val (ev_index (evO_var rfl (by first | exact .inl rfl | exact .inr (.inl rfl) | exact .inr (.inr rfl)) (by decide) (by decide)) (evO_val ev_int) (fun _ _ => rfl))) (evO_val ev_int) (fun _ _ => rfl))) (by rfl) (by rfl))))) (fun _ _ => rfl))) (evO_val ev_int) (by first | rfl | exact nobehind _ (by decide) (by decide))) (ev_index (evO_var rfl (by first | exact .inl rfl | exact .inr (.inl rfl) | exact .inr (.inr rfl)) (by decide) (by decide)) (evO_val ev_int) (fun _ _ => rfl)) (ev_sub (evO_val ev_int) (evO_val (ev_index (evO_var rfl (by first | exact .inl rfl | exact .inr (.inl rfl) | exact .inr (.inr rfl)) (by decide) (by decide)) (evO_val ev_int) (fun _ _ => rfl))))) (by rfl) (by first | exact .inl rfl | exact .inr rfl))) evSs_nil) (evSs_cons (evS_if (evT_val (ev_gd G__law_over len__law_over (hr.mono (by omega)) hG rfl passX (evA_cons (evO_val (ev_var rfl (by first | exact .inl rfl | exact .inr (.inl rfl) | exact .inr (.inr rfl)) (by decide) (by decide))) (evA_cons (evO_val (ev_var rfl (by first | exact .inl rfl | exact .inr (.inl rfl) | exact .inr (.inr rfl)) (by decide) (by decide))) evA_nil (by rfl)) (by rfl)) (by decide) (by rfl) (by rfl)) (fun _ => rfl)) (evSs_one (evS_ret (ev_tup (evA_cons (evO_val ev_str) (evA_cons (evO_val (ev_if (evT_gt (evO_val (ev_index (evO_var rfl (by first | exact .inl rfl | exact .inr (.inl rfl) | exact .inr (.inr rfl)) (by decide) (by decide)) (evO_val ev_int) (fun _ _ => rfl))) (evO_val (ev_index (evO_var rfl (by first | exact .inl rfl | exact .inr (.inl rfl) | exact .inr (.inr rfl)) (by decide) (by decide)) (evO_val ev_int) (fun _ _ => rfl)))) ev_int ev_int)) (evA_cons (evO_val (ev_var rfl (by first | exact .inl rfl | exact .inr (.inl rfl) | exact .inr (.inr rfl)) (by decide) (by decide))) evA_nil (by rfl)) (by rfl)) (by rfl))))) evSs_nil) (evSs_one (evS_ret (ev_tup (evA_cons (evO_val ev_str) (evA_cons (evO_val (ev_fz (evN_lst (evA_cons (evO_val (ev_index (evO_var rfl (by first | exact .inl rfl | exact .inr (.inl rfl) | exact .inr (.inr rfl)) (by decide) (by decide)) (evO_val ev_int) (fun _ _ => rfl))) (evA_cons (evO_val (ev_index (evO_var rfl (by first | exact .inl rfl | exact .inr (.inl rfl) | exact .inr (.inr rfl)) (by decide) (by decide)) (evO_val ev_int) (fun _ _ => rfl))) (evA_cons (evO_val (ev_index (evO_var rfl (by first | exact .inl rfl | exact .inr (.inl rfl) | exact .inr (.inr rfl)) (by decide) (by decide)) (evO_val ev_int) (fun _ _ => rfl))) (evA_cons (evO_val (ev_var rfl (by first | exact .inl rfl | exact .inr (.inl rfl) | exact .inr (.inr rfl)) (by decide) (by decide))) (evA_cons (evO_val (ev_gd G__law_start (len__law_start 5) (hr.mono (by omega)) hG rfl passX (evA_cons (evO_val (ev_gd G__law_unit len__law_unit (hr.mono (by omega)) hG rfl passX (evA_cons (evO_val (ev_var rfl (by first | exact .inl rfl | exact .inr (.inl rfl) | exact .inr (.inr rfl)) (by decide) (by decide))) (evA_cons (evO_val (ev_var rfl (by first | exact .inl rfl | exact .inr (.inl rfl) | exact .inr (.inr rfl)) (by decide) (by decide))) evA_nil (by rfl)) (by rfl)) (by decide) (by rfl) (by rfl))) (evA_cons (evO_val (ev_var rfl (by first | exact .inl rfl | exact .inr (.inl rfl) | exact .inr (.inr rfl)) (by decide) (by decide))) evA_nil (by rfl)) (by rfl)) (by decide) (by rfl) (by rfl))) evA_nil (by rfl)) (by rfl)) (by rfl)) (by rfl)) (by rfl))))) (evA_cons (evO_val ev_non) evA_nil (by rfl)) (by rfl)) (by rfl))))))))))))))
theorem sc__law_played : FnScope N__law_played P__law_played (defScope (top 47)) := ⟨rfl, rfl, rfl, by decide +kernel, rfl, by decide +kernel, by decide +kernel⟩
theorem ok__law_played {f : Addr} {fd : FuncData} (Fu : Fun K "_law_played" "_law_played" (top 47) f fd) (hm : mg "_law_played" = some (.ref f)) (hbn : ∀ x ∈ bns, mg x = none) (G__law_start : GD P w K mg base "_law_start" 8 P__law_start (spP K ec 2 (F__law_start 5))) (G__law_step : GD P w K mg base "_law_step" 14 P__law_step (spP K ec 3 (F__law_step 5))) :
    GD P w K mg base "_law_played" (14 + 1) P__law_played (spP K ec 3 F__law_played) := by
  have nd : (N__law_played : List Str).Nodup := sc__law_played.nd
  refine gd_mk Fu hm (fn_ok (N := N__law_played) (k := 14) (m := m__law_played) Fu sc__law_played fun cdv A outer s H E hr hG => ?_) (fun _ _ _ _ _ _ us hl => match us, hl with | [_, _, _], _ => rfl) (fun _ _ _ _ _ _ us hl => match us, hl with | [_, _, _], _ => rfl)
  have hr0 := hr.mono (Nat.zero_le _)
  exact (evSs_cons (evS_set nd rfl (by first | exact .inl rfl | exact .inr rfl) (ev_gd G__law_start (len__law_start 5) (hr.mono (by omega)) hG rfl passX (evA_cons (evO_val (ev_var rfl (by first | exact .inl rfl | exact .inr (.inl rfl) | exact .inr (.inr rfl)) (by decide) (by decide))) (evA_cons (evO_val (ev_var rfl (by first | exact .inl rfl | exact .inr (.inl rfl) | exact .inr (.inr rfl)) (by decide) (by decide))) evA_nil (by rfl)) (by rfl)) (by decide) (by rfl) (by rfl)) (by rfl) (by first | exact .inl rfl | exact .inr rfl)) (evSs_cons (evS_for ownX rfl (evI_enum rfl (hbn "enumerate" (by decide)) (ev_var rfl (by first | exact .inl rfl | exact .inr (.inl rfl) | exact .inr (.inr rfl)) (by decide) (by decide)) (by rfl)) (evG_tup' rfl (evGs_cons (evG_name nd rfl (by first | exact .inl rfl | exact .inr rfl) (by first | exact .inl rfl | exact .inr rfl)) (evGs_cons (evG_name nd rfl (by first | exact .inl rfl | exact .inr rfl) (by first | exact .inl rfl | exact .inr rfl)) evGs_nil (by rfl)) (by rfl)) rfl rfl) (evSs_cons (evS_set nd rfl (by first | exact .inl rfl | exact .inr rfl) (ev_gd G__law_step (len__law_step 5) (hr.mono (by omega)) hG rfl passX (evA_cons (evO_val (ev_var rfl (by first | exact .inl rfl | exact .inr (.inl rfl) | exact .inr (.inr rfl)) (by decide) (by decide))) (evA_cons (evO_val (ev_var rfl (by first | exact .inl rfl | exact .inr (.inl rfl) | exact .inr (.inr rfl)) (by decide) (by decide))) (evA_cons (evO_val (ev_var rfl (by first | exact .inl rfl | exact .inr (.inl rfl) | exact .inr (.inr rfl)) (by decide) (by decide))) evA_nil (by rfl)) (by rfl)) (by rfl)) (by decide) (by rfl) (by rfl)) (by rfl) (by first | exact .inl rfl | exact .inr rfl)) (evSs_cons (evS_if (evT_eq hr0 (evO_val (ev_index (evO_var rfl (by first | exact .inl rfl | exact .inr (.inl rfl) | exact .inr (.inr rfl)) (by decide) (by decide)) (evO_val ev_int) (fun _ _ => rfl))) (evO_val ev_str) (by first | rfl | exact nobehind _ (by decide) (by decide))) (evSs_one (evS_ret (ev_tup (evA_cons (evO_val ev_str) (evA_cons (evO_val (ev_index (evO_var rfl (by first | exact .inl rfl | exact .inr (.inl rfl) | exact .inr (.inr rfl)) (by decide) (by decide)) (evO_val ev_int) (fun _ _ => rfl))) (evA_cons (evO_val (ev_add (evO_var rfl (by first | exact .inl rfl | exact .inr (.inl rfl) | exact .inr (.inr rfl)) (by decide) (by decide)) (evO_val ev_int))) evA_nil (by rfl)) (by rfl)) (by rfl))))) evSs_nil) (evSs_one (evS_set nd rfl (by first | exact .inl rfl | exact .inr rfl) (ev_index (evO_var rfl (by first | exact .inl rfl | exact .inr (.inl rfl) | exact .inr (.inr rfl)) (by decide) (by decide)) (evO_val ev_int) (fun _ _ => rfl)) (by rfl) (by first | exact .inl rfl | exact .inr rfl))))) (fun _ => rfl)) (evSs_one (evS_ret (ev_tup (evA_cons (evO_val ev_str) (evA_cons (evO_val (ev_var rfl (by first | exact .inl rfl | exact .inr (.inl rfl) | exact .inr (.inr rfl)) (by decide) (by decide))) (evA_cons (evO_val (ev_len rfl (hbn "len" (by decide)) (evO_var rfl (by first | exact .inl rfl | exact .inr (.inl rfl) | exact .inr (.inr rfl)) (by decide) (by decide)) (by rfl) (by rfl))) evA_nil (by rfl)) (by rfl)) (by rfl)))))))
theorem sc__law_match : FnScope N__law_match P__law_match (defScope (top 48)) := ⟨rfl, rfl, rfl, by decide +kernel, rfl, by decide +kernel, by decide +kernel⟩
theorem ok__law_match {f : Addr} {fd : FuncData} (Fu : Fun K "_law_match" "_law_match" (top 48) f fd) (hm : mg "_law_match" = some (.ref f)) (hbn : ∀ x ∈ bns, mg x = none) (G__law_start : GD P w K mg base "_law_start" 8 P__law_start (spP K ec 2 (F__law_start 5))) (G__law_random : GD P w K mg base "_law_random" 2 P__law_random (spL K ec 1 F__law_random)) (G__law_pick : GD P w K mg base "_law_pick" 3 P__law_pick (spL K ec 1 F__law_pick)) (G__law_step : GD P w K mg base "_law_step" 14 P__law_step (spP K ec 3 (F__law_step 5))) :
    GD P w K mg base "_law_match" (14 + 1) P__law_match (spL K ec 3 F__law_match) := by
  have nd : (N__law_match : List Str).Nodup := sc__law_match.nd
  refine gd_mk Fu hm (fn_okL (N := N__law_match) (k := 14) (m := m__law_match) Fu sc__law_match rfl fun cdv A outer s H E hr hG => ?_) (fun _ _ _ _ _ _ us hl => match us, hl with | [_, _, _, _], _ => rfl) (fun _ _ _ _ _ _ us hl => match us, hl with | [_, _, _, _], _ => rfl)
  have hr0 := hr.mono (Nat.zero_le _)
  exact (evSs_cons (evS_parEN rfl nd rfl rfl (by decide) rfl rfl (ev_gd G__law_start (len__law_start 5) (hr.mono (by omega)) hG rfl passX (evA_cons (evO_val (ev_var rfl (by first | exact .inl rfl | exact .inr (.inl rfl) | exact .inr (.inr rfl)) (by decide) (by decide))) (evA_cons (evO_val (ev_var rfl (by first | exact .inl rfl | exact .inr (.inl rfl) | exact .inr (.inr rfl)) (by decide) (by decide))) evA_nil (by rfl)) (by rfl)) (by decide) (by rfl) (by rfl)) (evN_lst evA_nil) (by rfl) (by rfl) (by rfl) (by rfl)) (evSs_cons (evS_set nd rfl (by first | exact .inl rfl | exact .inr rfl) (ev_gdL G__law_random len__law_random (hr.mono (by omega)) hG rfl passX (evA_cons (evO_var rfl (by first | exact .inl rfl | exact .inr (.inl rfl) | exact .inr (.inr rfl)) (by decide) (by decide)) (evA_cons (evO_val ev_int) evA_nil (by rfl)) (by rfl)) (by decide) (by rfl) (by rfl)) (by rfl) (by first | exact .inl rfl | exact .inr rfl)) (evSs_cons (evS_while 30 ownX (evT_lt (evO_val (ev_len rfl (hbn "len" (by decide)) (evO_var rfl (by first | exact .inl rfl | exact .inr (.inl rfl) | exact .inr (.inr rfl)) (by decide) (by decide)) (by rfl) (by rfl))) (evO_var rfl (by first | exact .inl rfl | exact .inr (.inl rfl) | exact .inr (.inr rfl)) (by decide) (by decide))) (evSs_cons (evS_set nd rfl (by first | exact .inl rfl | exact .inr rfl) (ev_if (evT_lt (evO_var rfl (by first | exact .inl rfl | exact .inr (.inl rfl) | exact .inr (.inr rfl)) (by decide) (by decide)) (evO_val ev_int)) (ev_gdL G__law_random len__law_random (hr.mono (by omega)) hG rfl passX (evA_cons (evO_var rfl (by first | exact .inl rfl | exact .inr (.inl rfl) | exact .inr (.inr rfl)) (by decide) (by decide)) (evA_cons (evO_val ev_int) evA_nil (by rfl)) (by rfl)) (by decide) (by rfl) (by rfl)) (ev_gdL G__law_pick len__law_pick (hr.mono (by omega)) hG rfl passX (evA_cons (evO_var rfl (by first | exact .inl rfl | exact .inr (.inl rfl) | exact .inr (.inr rfl)) (by decide) (by decide)) (evA_cons (evO_val (ev_fz (evN_lst (evA_cons (evO_val (ev_sub (evO_var rfl (by first | exact .inl rfl | exact .inr (.inl rfl) | exact .inr (.inr rfl)) (by decide) (by decide)) (evO_val ev_int))) (evA_cons (evO_val (ev_sub (evO_var rfl (by first | exact .inl rfl | exact .inr (.inl rfl) | exact .inr (.inr rfl)) (by decide) (by decide)) (evO_val ev_int))) (evA_cons (evO_val (ev_sub (evO_var rfl (by first | exact .inl rfl | exact .inr (.inl rfl) | exact .inr (.inr rfl)) (by decide) (by decide)) (evO_val ev_int))) (evA_cons (evO_val (ev_sub (evO_val ev_int) (evO_var rfl (by first | exact .inl rfl | exact .inr (.inl rfl) | exact .inr (.inr rfl)) (by decide) (by decide)))) evA_nil (by rfl)) (by rfl)) (by rfl)) (by rfl))))) evA_nil (by rfl)) (by rfl)) (by decide) (by rfl) (by rfl))) (by rfl) (by first | exact .inl rfl | exact .inr rfl)) (evSs_cons (evS_app rfl (by first | exact .inl rfl | exact .inr (.inl rfl) | exact .inr (.inr rfl)) (by decide) (by decide) (ev_var rfl (by first | exact .inl rfl | exact .inr (.inl rfl) | exact .inr (.inr rfl)) (by decide) (by decide)) (by rfl) (by rfl) (by rfl) (by rfl) (by rfl) (by rfl)) (evSs_cons (evS_set nd rfl (by first | exact .inl rfl | exact .inr rfl) (ev_gd G__law_step (len__law_step 5) (hr.mono (by omega)) hG rfl passX (evA_cons (evO_val (ev_var rfl (by first | exact .inl rfl | exact .inr (.inl rfl) | exact .inr (.inr rfl)) (by decide) (by decide))) (evA_cons (evO_val (ev_var rfl (by first | exact .inl rfl | exact .inr (.inl rfl) | exact .inr (.inr rfl)) (by decide) (by decide))) (evA_cons (evO_val (ev_var rfl (by first | exact .inl rfl | exact .inr (.inl rfl) | exact .inr (.inr rfl)) (by decide) (by decide))) evA_nil (by rfl)) (by rfl)) (by rfl)) (by decide) (by rfl) (by rfl)) (by rfl) (by first | exact .inl rfl | exact .inr rfl)) (evSs_cons (evS_if (evT_eq hr0 (evO_val (ev_index (evO_var rfl (by first | exact .inl rfl | exact .inr (.inl rfl) | exact .inr (.inr rfl)) (by decide) (by decide)) (evO_val ev_int) (fun _ _ => rfl))) (evO_val ev_str) (by first | rfl | exact nobehind _ (by decide) (by decide))) (evSs_one (evS_ret (ev_tup (evA_cons (evO_val (ev_var rfl (by first | exact .inl rfl | exact .inr (.inl rfl) | exact .inr (.inr rfl)) (by decide) (by decide))) (evA_cons (evO_val (ev_index (evO_var rfl (by first | exact .inl rfl | exact .inr (.inl rfl) | exact .inr (.inr rfl)) (by decide) (by decide)) (evO_val ev_int) (fun _ _ => rfl))) evA_nil (by rfl)) (by rfl))))) evSs_nil) (evSs_one (evS_set nd rfl (by first | exact .inl rfl | exact .inr rfl) (ev_index (evO_var rfl (by first | exact .inl rfl | exact .inr (.inl rfl) | exact .inr (.inr rfl)) (by decide) (by decide)) (evO_val ev_int) (fun _ _ => rfl)) (by rfl) (by first | exact .inl rfl | exact .inr rfl)))))))) (evSs_one (evS_ret (ev_tup (evA_cons (evO_val (ev_var rfl (by first | exact .inl rfl | exact .inr (.inl rfl) | exact .inr (.inr rfl)) (by decide) (by decide))) (evA_cons (evO_val ev_non) evA_nil (by rfl)) (by rfl))))))))
theorem sc__law_wrong_rules : FnScope N__law_wrong_rules P__law_wrong_rules (defScope (top 49)) := ⟨rfl, rfl, rfl, by decide +kernel, rfl, by decide +kernel, by decide +kernel⟩
theorem ok__law_wrong_rules {f : Addr} {fd : FuncData} (Fu : Fun K "_law_wrong_rules" "_law_wrong_rules" (top 49) f fd) (hm : mg "_law_wrong_rules" = some (.ref f)) (hbn : ∀ x ∈ bns, mg x = none) (G__law_pick : GD P w K mg base "_law_pick" 3 P__law_pick (spL K ec 1 F__law_pick)) :
    GD P w K mg base "_law_wrong_rules" (3 + 1) P__law_wrong_rules (spL K ec 1 F__law_wrong_rules) := by
  have nd : (N__law_wrong_rules : List Str).Nodup := sc__law_wrong_rules.nd
  refine gd_mk Fu hm (fn_okL (N := N__law_wrong_rules) (k := 3) (m := m__law_wrong_rules) Fu sc__law_wrong_rules rfl fun cdv A outer s H E hr hG => ?_) (fun _ _ _ _ _ _ us hl => match us, hl with | [_, _], _ => rfl) (fun _ _ _ _ _ _ us hl => match us, hl with | [_, _], _ => rfl)
  have hr0 := hr.mono (Nat.zero_le _)
  exact (evSs_cons (evS_own nd rfl (by first | exact .inl rfl | exact .inr rfl) (evN_lst (evA_cons (evO_val ev_non) (evA_cons (evO_val ev_int) (evA_cons (evO_val ev_str) (evA_cons (evO_val (ev_tup evA_nil)) (evA_cons (evO_val (ev_fz (evN_lst evA_nil))) (evA_cons (evO_val (ev_tup (evA_cons (evO_val ev_str) (evA_cons (evO_val ev_int) evA_nil (by rfl)) (by rfl)))) (evA_cons (evO_val (ev_fz (evN_lst (evA_cons (evO_val ev_str) evA_nil (by rfl))))) (evA_cons (evO_val (ev_tup (evA_cons (evO_val ev_str) evA_nil (by rfl)))) (evA_cons (evO_val (ev_tup (evA_cons (evO_val ev_str) evA_nil (by rfl)))) (evA_cons (evO_val (ev_tup (evA_cons (evO_val ev_bl) evA_nil (by rfl)))) (evA_cons (evO_val (ev_fz (evN_list1 rfl (hbn "list" (by decide)) (evO_var rfl (by first | exact .inl rfl | exact .inr (.inl rfl) | exact .inr (.inr rfl)) (by decide) (by decide)) (by rfl) (by rfl)))) (evA_cons (evO_val (ev_add (evO_var rfl (by first | exact .inl rfl | exact .inr (.inl rfl) | exact .inr (.inr rfl)) (by decide) (by decide)) (evO_val (ev_tup (evA_cons (evO_val ev_int) evA_nil (by rfl)))))) evA_nil (by rfl)) (by rfl)) (by rfl)) (by rfl)) (by rfl)) (by rfl)) (by rfl)) (by rfl)) (by rfl)) (by rfl)) (by rfl)) (by rfl))) (by rfl) (by first | exact .inl rfl | exact .inr rfl)) (evSs_cons (evS_if (evT_ne hr0 (evO_val (ev_index (evO_var rfl (by first | exact .inl rfl | exact .inr (.inl rfl) | exact .inr (.inr rfl)) (by decide) (by decide)) (evO_val ev_int) (fun _ _ => rfl))) (evO_val ev_str) (by first | rfl | exact nobehind _ (by decide) (by decide))) (evSs_one (evS_ret (ev_var rfl (by first | exact .inl rfl | exact .inr (.inl rfl) | exact .inr (.inr rfl)) (by decide) (by decide)))) evSs_nil) (evSs_cons (evS_set nd rfl (by first | exact .inl rfl | exact .inr rfl) (ev_fz (evN_lst (evA_cons (evO_val (ev_tup (evA_cons (evO_val ev_int) (evA_cons (evO_val ev_int) evA_nil (by rfl)) (by rfl)))) (evA_cons (evO_val (ev_tup (evA_cons (evO_val ev_int) (evA_cons (evO_val ev_int) evA_nil (by rfl)) (by rfl)))) (evA_cons (evO_val (ev_tup (evA_cons (evO_val ev_int) (evA_cons (evO_val ev_bl) evA_nil (by rfl)) (by rfl)))) (evA_cons (evO_val (ev_tup (evA_cons (evO_val ev_int) (evA_cons (evO_val ev_non) evA_nil (by rfl)) (by rfl)))) (evA_cons (evO_val (ev_tup (evA_cons (evO_val ev_int) (evA_cons (evO_val ev_int) evA_nil (by rfl)) (by rfl)))) (evA_cons (evO_val (ev_tup (evA_cons (evO_val ev_int) (evA_cons (evO_val ev_int) evA_nil (by rfl)) (by rfl)))) (evA_cons (evO_val (ev_tup (evA_cons (evO_val ev_int) (evA_cons (evO_val ev_str) evA_nil (by rfl)) (by rfl)))) (evA_cons (evO_val (ev_tup (evA_cons (evO_val ev_int) (evA_cons (evO_val (ev_sub (evO_val (ev_index (evO_var rfl (by first | exact .inl rfl | exact .inr (.inl rfl) | exact .inr (.inr rfl)) (by decide) (by decide)) (evO_val ev_int) (fun _ _ => rfl))) (evO_val ev_int))) evA_nil (by rfl)) (by rfl)))) (evA_cons (evO_val (ev_tup (evA_cons (evO_val ev_int) (evA_cons (evO_val ev_int) evA_nil (by rfl)) (by rfl)))) (evA_cons (evO_val (ev_tup (evA_cons (evO_val ev_int) (evA_cons (evO_val ev_bl) evA_nil (by rfl)) (by rfl)))) (evA_cons (evO_val (ev_tup (evA_cons (evO_val ev_int) (evA_cons (evO_val ev_str) evA_nil (by rfl)) (by rfl)))) (evA_cons (evO_val (ev_tup (evA_cons (evO_val ev_int) (evA_cons (evO_val (ev_tup (evA_cons (evO_val ev_str) evA_nil (by rfl)))) evA_nil (by rfl)) (by rfl)))) (evA_cons (evO_val (ev_tup (evA_cons (evO_val ev_int) (evA_cons (evO_val (ev_tup (evA_cons (evO_val ev_str) evA_nil (by rfl)))) evA_nil (by rfl)) (by rfl)))) (evA_cons (evO_val (ev_tup (evA_cons (evO_val ev_int) (evA_cons (evO_val (ev_tup (evA_cons (evO_val ev_str) (evA_cons (evO_val (ev_fz (evN_lst evA_nil))) evA_nil (by rfl)) (by rfl)))) evA_nil (by rfl)) (by rfl)))) (evA_cons (evO_val (ev_tup (evA_cons (evO_val ev_int) (evA_cons (evO_val (ev_tup (evA_cons (evO_val ev_str) (evA_cons (evO_val (ev_fz (evN_rep (evN_lst (evA_cons (evO_val ev_int) evA_nil (by rfl))) ev_int))) evA_nil (by rfl)) (by rfl)))) evA_nil (by rfl)) (by rfl)))) (evA_cons (evO_val (ev_tup (evA_cons (evO_val ev_int) (evA_cons (evO_val (ev_tup (evA_cons (evO_val ev_str) (evA_cons (evO_val (ev_fz (evN_lst (evA_cons (evO_val ev_int) evA_nil (by rfl))))) evA_nil (by rfl)) (by rfl)))) evA_nil (by rfl)) (by rfl)))) evA_nil (by rfl)) (by rfl)) (by rfl)) (by rfl)) (by rfl)) (by rfl)) (by rfl)) (by rfl)) (by rfl)) (by rfl)) (by rfl)) (by rfl)) (by rfl)) (by rfl)) (by rfl)) (by rfl)))) (by rfl) (by first | exact .inl rfl | exact .inr rfl)) (evSs_cons (evS_set nd rfl (by first | exact .inl rfl | exact .inr rfl) (ev_add (evO_var rfl (by first | exact .inl rfl | exact .inr (.inl rfl) | exact .inr (.inr rfl)) (by decide) (by decide)) (evO_val (ev_fz (evN_lst (evA_cons (evO_val (ev_tup (evA_cons (evO_val ev_int) (evA_cons (evO_val (ev_tup (evA_cons (evO_val ev_str) (evA_cons (evO_val (ev_tup (evA_cons (evO_val ev_int) (evA_cons (evO_val ev_int) evA_nil (by rfl)) (by rfl)))) evA_nil (by rfl)) (by rfl)))) evA_nil (by rfl)) (by rfl)))) (evA_cons (evO_val (ev_tup (evA_cons (evO_val ev_int) (evA_cons (evO_val (ev_tup (evA_cons (evO_val ev_str) (evA_cons (evO_val (ev_fz (evN_lst evA_nil))) evA_nil (by rfl)) (by rfl)))) evA_nil (by rfl)) (by rfl)))) (evA_cons (evO_val (ev_tup (evA_cons (evO_val ev_int) (evA_cons (evO_val ev_non) evA_nil (by rfl)) (by rfl)))) (evA_cons (evO_val (ev_tup (evA_cons (evO_val ev_int) (evA_cons (evO_val ev_str) evA_nil (by rfl)) (by rfl)))) (evA_cons (evO_val (ev_tup (evA_cons (evO_val ev_int) (evA_cons (evO_val (ev_fz (evN_lst (evA_cons (evO_val (ev_tup (evA_cons (evO_val ev_str) evA_nil (by rfl)))) evA_nil (by rfl))))) evA_nil (by rfl)) (by rfl)))) (evA_cons (evO_val (ev_tup (evA_cons (evO_val ev_int) (evA_cons (evO_val ev_non) evA_nil (by rfl)) (by rfl)))) (evA_cons (evO_val (ev_tup (evA_cons (evO_val ev_int) (evA_cons (evO_val (ev_tup evA_nil)) evA_nil (by rfl)) (by rfl)))) (evA_cons (evO_val (ev_tup (evA_cons (evO_val ev_int) (evA_cons (evO_val (ev_fz (evN_lst (evA_cons (evO_val (ev_tup (evA_cons (evO_val (ev_tup (evA_cons (evO_val ev_int) (evA_cons (evO_val ev_int) evA_nil (by rfl)) (by rfl)))) (evA_cons (evO_val ev_non) evA_nil (by rfl)) (by rfl)))) evA_nil (by rfl))))) evA_nil (by rfl)) (by rfl)))) (evA_cons (evO_val (ev_tup (evA_cons (evO_val ev_int) (evA_cons (evO_val (ev_fz (evN_lst (evA_cons (evO_val (ev_tup (evA_cons (evO_val (ev_tup (evA_cons (evO_val ev_int) (evA_cons (evO_val ev_int) evA_nil (by rfl)) (by rfl)))) (evA_cons (evO_val (ev_tup (evA_cons (evO_val ev_str) evA_nil (by rfl)))) evA_nil (by rfl)) (by rfl)))) evA_nil (by rfl))))) evA_nil (by rfl)) (by rfl)))) (evA_cons (evO_val (ev_tup (evA_cons (evO_val ev_int) (evA_cons (evO_val (ev_fz (evN_lst (evA_cons (evO_val (ev_tup (evA_cons (evO_val (ev_tup (evA_cons (evO_val ev_int) (evA_cons (evO_val (ev_neg ev_int)) evA_nil (by rfl)) (by rfl)))) (evA_cons (evO_val (ev_tup (evA_cons (evO_val ev_str) evA_nil (by rfl)))) evA_nil (by rfl)) (by rfl)))) evA_nil (by rfl))))) evA_nil (by rfl)) (by rfl)))) evA_nil (by rfl)) (by rfl)) (by rfl)) (by rfl)) (by rfl)) (by rfl)) (by rfl)) (by rfl)) (by rfl)) (by rfl)))))) (by rfl) (by first | exact .inl rfl | exact .inr rfl)) (evSs_cons (evS_set nd rfl (by first | exact .inl rfl | exact .inr rfl) (ev_add (evO_var rfl (by first | exact .inl rfl | exact .inr (.inl rfl) | exact .inr (.inr rfl)) (by decide) (by decide)) (evO_val (ev_fz (evN_lst (evA_cons (evO_val (ev_tup (evA_cons (evO_val ev_int) (evA_cons (evO_val (ev_fz (evN_lst (evA_cons (evO_val (ev_tup (evA_cons (evO_val (ev_tup (evA_cons (evO_val ev_int) (evA_cons (evO_val ev_int) evA_nil (by rfl)) (by rfl)))) (evA_cons (evO_val (ev_tup (evA_cons (evO_val ev_str) evA_nil (by rfl)))) evA_nil (by rfl)) (by rfl)))) (evA_cons (evO_val (ev_tup (evA_cons (evO_val (ev_tup (evA_cons (evO_val ev_int) (evA_cons (evO_val ev_int) evA_nil (by rfl)) (by rfl)))) (evA_cons (evO_val (ev_tup (evA_cons (evO_val ev_str) evA_nil (by rfl)))) evA_nil (by rfl)) (by rfl)))) evA_nil (by rfl)) (by rfl))))) evA_nil (by rfl)) (by rfl)))) (evA_cons (evO_val (ev_tup (evA_cons (evO_val ev_int) (evA_cons (evO_val (ev_fz (evN_lst (evA_cons (evO_val (ev_tup (evA_cons (evO_val (ev_tup (evA_cons (evO_val ev_int) (evA_cons (evO_val ev_int) evA_nil (by rfl)) (by rfl)))) (evA_cons (evO_val (ev_tup (evA_cons (evO_val ev_str) evA_nil (by rfl)))) evA_nil (by rfl)) (by rfl)))) (evA_cons (evO_val (ev_tup (evA_cons (evO_val (ev_tup (evA_cons (evO_val ev_int) (evA_cons (evO_val ev_int) evA_nil (by rfl)) (by rfl)))) (evA_cons (evO_val (ev_tup (evA_cons (evO_val ev_str) evA_nil (by rfl)))) evA_nil (by rfl)) (by rfl)))) evA_nil (by rfl)) (by rfl))))) evA_nil (by rfl)) (by rfl)))) (evA_cons (evO_val (ev_tup (evA_cons (evO_val ev_int) (evA_cons (evO_val (ev_fz (evN_lst (evA_cons (evO_val (ev_tup (evA_cons (evO_val (ev_fz (evN_lst (evA_cons (evO_val ev_int) (evA_cons (evO_val ev_int) evA_nil (by rfl)) (by rfl))))) (evA_cons (evO_val (ev_tup (evA_cons (evO_val ev_str) evA_nil (by rfl)))) evA_nil (by rfl)) (by rfl)))) evA_nil (by rfl))))) evA_nil (by rfl)) (by rfl)))) (evA_cons (evO_val (ev_tup (evA_cons (evO_val ev_int) (evA_cons (evO_val (ev_fz (evN_lst (evA_cons (evO_val (ev_tup (evA_cons (evO_val (ev_tup (evA_cons (evO_val ev_int) evA_nil (by rfl)))) (evA_cons (evO_val (ev_tup (evA_cons (evO_val ev_str) evA_nil (by rfl)))) evA_nil (by rfl)) (by rfl)))) evA_nil (by rfl))))) evA_nil (by rfl)) (by rfl)))) (evA_cons (evO_val (ev_tup (evA_cons (evO_val ev_int) (evA_cons (evO_val (ev_fz (evN_lc (own := [("at", 5)]) rfl nd (evI_rng1 rfl (hbn "range" (by decide)) (evA_cons (evO_val ev_int) evA_nil (by rfl)) (by rfl)) (blkOk_by (by rfl)) (fun _ _ _ _ _ => (evG_name nd rfl (by first | exact .inl rfl | exact .inr rfl) (by first | exact .inl rfl | exact .inr rfl))) (fun _ _ _ _ _ => evTs_nil) (fun _ _ _ _ _ => (ev_tup (evA_cons (evO_val (ev_tup (evA_cons (evO_val ev_int) (evA_cons (evO_val (ev_var rfl (by first | exact .inl rfl | exact .inr (.inl rfl) | exact .inr (.inr rfl)) (by decide) (by decide))) evA_nil (by rfl)) (by rfl)))) (evA_cons (evO_val (ev_tup (evA_cons (evO_val ev_str) evA_nil (by rfl)))) evA_nil (by rfl)) (by rfl)))) (by decide) (fun _ => rfl)))) evA_nil (by rfl)) (by rfl)))) evA_nil (by rfl)) (by rfl)) (by rfl)) (by rfl)) (by rfl)))))) (by rfl) (by first | exact .inl rfl | exact .inr rfl)) (evSs_cons (evS_for ownX rfl (evI_rng1 rfl (hbn "range" (by decide)) (evA_cons (evO_val ev_int) evA_nil (by rfl)) (by rfl)) (evG_name nd rfl (by first | exact .inl rfl | exact .inr rfl) (by first | exact .inl rfl | exact .inr rfl)) (evSs_cons (evS_asg (ev_gdL G__law_pick len__law_pick (hr.mono (by omega)) hG rfl passX (evA_cons (evO_var rfl (by first | exact .inl rfl | exact .inr (.inl rfl) | exact .inr (.inr rfl)) (by decide) (by decide)) (evA_cons (evO_val (ev_var rfl (by first | exact .inl rfl | exact .inr (.inl rfl) | exact .inr (.inr rfl)) (by decide) (by decide))) evA_nil (by rfl)) (by rfl)) (by decide) (by rfl) (by rfl)) (evG_tup' rfl (evGs_cons (evG_name nd rfl (by first | exact .inl rfl | exact .inr rfl) (by first | exact .inl rfl | exact .inr rfl)) (evGs_cons (evG_name nd rfl (by first | exact .inl rfl | exact .inr rfl) (by first | exact .inl rfl | exact .inr rfl)) evGs_nil (by rfl)) (by rfl)) rfl rfl) (by rfl) (by rfl) (by rfl)) (evSs_one (evS_app rfl (by first | exact .inl rfl | exact .inr (.inl rfl) | exact .inr (.inr rfl)) (by decide) (by decide) (ev_add (evO_val (ev_add (evO_val (ev_sl (evO_var rfl (by first | exact .inl rfl | exact .inr (.inl rfl) | exact .inr (.inr rfl)) (by decide) (by decide)) evP_none (evP_some (ev_var rfl (by first | exact .inl rfl | exact .inr (.inl rfl) | exact .inr (.inr rfl)) (by decide) (by decide))))) (evO_val (ev_tup (evA_cons (evO_val (ev_var rfl (by first | exact .inl rfl | exact .inr (.inl rfl) | exact .inr (.inr rfl)) (by decide) (by decide))) evA_nil (by rfl)))))) (evO_val (ev_sl (evO_var rfl (by first | exact .inl rfl | exact .inr (.inl rfl) | exact .inr (.inr rfl)) (by decide) (by decide)) (evP_some (ev_add (evO_var rfl (by first | exact .inl rfl | exact .inr (.inl rfl) | exact .inr (.inr rfl)) (by decide) (by decide)) (evO_val ev_int))) evP_none))) (by rfl) (by rfl) (by rfl) (by rfl) (by rfl) (by rfl)))) (fun _ => rfl)) (evSs_cons (evS_set nd rfl (by first | exact .inl rfl | exact .inr rfl) (ev_tup (evA_cons (evO_val ev_str) evA_nil (by rfl))) (by rfl) (by first | exact .inl rfl | exact .inr rfl)) (evSs_cons (evS_for ownX rfl (evI_rng1 rfl (hbn "range" (by decide)) (evA_cons (evO_val ev_int) evA_nil (by rfl)) (by rfl)) (evG_name nd rfl (by first | exact .inl rfl | exact .inr rfl) (by first | exact .inl rfl | exact .inr rfl)) (evSs_one (evS_set nd rfl (by first | exact .inl rfl | exact .inr rfl) (ev_tup (evA_cons (evO_val ev_str) (evA_cons (evO_val ev_int) (evA_cons (evO_val ev_int) (evA_cons (evO_val ev_non) (evA_cons (evO_val (ev_tup (evA_cons (evO_val ev_str) evA_nil (by rfl)))) (evA_cons (evO_val (ev_var rfl (by first | exact .inl rfl | exact .inr (.inl rfl) | exact .inr (.inr rfl)) (by decide) (by decide))) (evA_cons (evO_val (ev_fz (evN_lst evA_nil))) evA_nil (by rfl)) (by rfl)) (by rfl)) (by rfl)) (by rfl)) (by rfl)) (by rfl))) (by rfl) (by first | exact .inl rfl | exact .inr rfl))) (fun _ => rfl)) (evSs_one (evS_ret (ev_add (evO_var rfl (by first | exact .inl rfl | exact .inr (.inl rfl) | exact .inr (.inr rfl)) (by decide) (by decide)) (evO_val (ev_fz (evN_lst (evA_cons (evO_val (ev_var rfl (by first | exact .inl rfl | exact .inr (.inl rfl) | exact .inr (.inr rfl)) (by decide) (by decide))) (evA_cons (evO_val (ev_add (evO_val (ev_sl (evO_var rfl (by first | exact .inl rfl | exact .inr (.inl rfl) | exact .inr (.inr rfl)) (by decide) (by decide)) evP_none (evP_some ev_int))) (evO_val (ev_tup (evA_cons (evO_val (ev_fz (evN_lst (evA_cons (evO_val (ev_tup (evA_cons (evO_val (ev_tup (evA_cons (evO_val ev_int) (evA_cons (evO_val ev_int) evA_nil (by rfl)) (by rfl)))) (evA_cons (evO_val (ev_index (evO_var rfl (by first | exact .inl rfl | exact .inr (.inl rfl) | exact .inr (.inr rfl)) (by decide) (by decide)) (evO_val ev_int) (fun _ _ => rfl))) evA_nil (by rfl)) (by rfl)))) evA_nil (by rfl))))) evA_nil (by rfl)))))) evA_nil (by rfl)) (by rfl))))))))))))))))
theorem sc__law_small_rule : FnScope N__law_small_rule P__law_small_rule (defScope (top 50)) := ⟨rfl, rfl, rfl, by decide +kernel, rfl, by decide +kernel, by decide +kernel⟩
theorem ok__law_small_rule {f : Addr} {fd : FuncData} (Fu : Fun K "_law_small_rule" "_law_small_rule" (top 50) f fd) (hm : mg "_law_small_rule" = some (.ref f)) (hbn : ∀ x ∈ bns, mg x = none) (G__law_random : GD P w K mg base "_law_random" 2 P__law_random (spL K ec 1 F__law_random)) (G__law_pick : GD P w K mg base "_law_pick" 3 P__law_pick (spL K ec 1 F__law_pick)) (G__law_order : GD P w K mg base "_law_order" 4 P__law_order (spL K ec 0 F__law_order)) :
    GD P w K mg base "_law_small_rule" (4 + 1) P__law_small_rule (spL K ec 0 F__law_small_rule) := by
  have nd : (N__law_small_rule : List Str).Nodup := sc__law_small_rule.nd
  refine gd_mk Fu hm (fn_okL (N := N__law_small_rule) (k := 4) (m := m__law_small_rule) Fu sc__law_small_rule rfl fun cdv A outer s H E hr hG => ?_) (fun _ _ _ _ _ _ us hl => match us, hl with | [_], _ => rfl) (fun _ _ _ _ _ _ us hl => match us, hl with | [_], _ => rfl)
  have hr0 := hr.mono (Nat.zero_le _)
  exact (evSs_cons (evS_par2 rfl nd rfl rfl (by decide) rfl rfl (ev_add (evO_val ev_int) (evO_val (ev_gdL G__law_random len__law_random (hr.mono (by omega)) hG rfl passX (evA_cons (evO_var rfl (by first | exact .inl rfl | exact .inr (.inl rfl) | exact .inr (.inr rfl)) (by decide) (by decide)) (evA_cons (evO_val ev_int) evA_nil (by rfl)) (by rfl)) (by decide) (by rfl) (by rfl)))) (ev_add (evO_val ev_int) (evO_val (ev_gdL G__law_pick len__law_pick (hr.mono (by omega)) hG rfl passX (evA_cons (evO_var rfl (by first | exact .inl rfl | exact .inr (.inl rfl) | exact .inr (.inr rfl)) (by decide) (by decide)) (evA_cons (evO_val (ev_fz (evN_lst (evA_cons (evO_val ev_int) (evA_cons (evO_val ev_int) (evA_cons (evO_val ev_int) evA_nil (by rfl)) (by rfl)) (by rfl))))) evA_nil (by rfl)) (by rfl)) (by decide) (by rfl) (by rfl)))) (by rfl) (by rfl) (by rfl) (by rfl)) (evSs_cons (evS_set nd rfl (by first | exact .inl rfl | exact .inr rfl) (ev_if (evT_gt (evO_var rfl (by first | exact .inl rfl | exact .inr (.inl rfl) | exact .inr (.inr rfl)) (by decide) (by decide)) (evO_val ev_int)) (ev_add (evO_var rfl (by first | exact .inl rfl | exact .inr (.inl rfl) | exact .inr (.inr rfl)) (by decide) (by decide)) (evO_val (ev_gdL G__law_random len__law_random (hr.mono (by omega)) hG rfl passX (evA_cons (evO_var rfl (by first | exact .inl rfl | exact .inr (.inl rfl) | exact .inr (.inr rfl)) (by decide) (by decide)) (evA_cons (evO_val ev_int) evA_nil (by rfl)) (by rfl)) (by decide) (by rfl) (by rfl)))) ev_non) (by rfl) (by first | exact .inl rfl | exact .inr rfl)) (evSs_cons (evS_set nd rfl (by first | exact .inl rfl | exact .inr rfl) (ev_if (evT_gt (evO_val (ev_gdL G__law_random len__law_random (hr.mono (by omega)) hG rfl passX (evA_cons (evO_var rfl (by first | exact .inl rfl | exact .inr (.inl rfl) | exact .inr (.inr rfl)) (by decide) (by decide)) (evA_cons (evO_val ev_int) evA_nil (by rfl)) (by rfl)) (by decide) (by rfl) (by rfl))) (evO_val ev_int)) (ev_tup (evA_cons (evO_val ev_str) evA_nil (by rfl))) (ev_tup (evA_cons (evO_val ev_str) evA_nil (by rfl)))) (by rfl) (by first | exact .inl rfl | exact .inr rfl)) (evSs_cons (evS_set nd rfl (by first | exact .inl rfl | exact .inr rfl) (ev_tup (evA_cons (evO_val ev_str) (evA_cons (evO_val (ev_var rfl (by first | exact .inl rfl | exact .inr (.inl rfl) | exact .inr (.inr rfl)) (by decide) (by decide))) (evA_cons (evO_val (ev_var rfl (by first | exact .inl rfl | exact .inr (.inl rfl) | exact .inr (.inr rfl)) (by decide) (by decide))) (evA_cons (evO_val (ev_var rfl (by first | exact .inl rfl | exact .inr (.inl rfl) | exact .inr (.inr rfl)) (by decide) (by decide))) (evA_cons (evO_val (ev_gdL G__law_order len__law_order (hr.mono (by omega)) hG rfl passX (evA_cons (evO_var rfl (by first | exact .inl rfl | exact .inr (.inl rfl) | exact .inr (.inr rfl)) (by decide) (by decide)) evA_nil (by rfl)) (by decide) (by rfl) (by rfl))) (evA_cons (evO_val (ev_var rfl (by first | exact .inl rfl | exact .inr (.inl rfl) | exact .inr (.inr rfl)) (by decide) (by decide))) (evA_cons (evO_val (ev_if (evT_eq hr0 (evO_val (ev_gdL G__law_random len__law_random (hr.mono (by omega)) hG rfl passX (evA_cons (evO_var rfl (by first | exact .inl rfl | exact .inr (.inl rfl) | exact .inr (.inr rfl)) (by decide) (by decide)) (evA_cons (evO_val ev_int) evA_nil (by rfl)) (by rfl)) (by decide) (by rfl) (by rfl))) (evO_val ev_int) (by first | rfl | exact nobehind _ (by decide) (by decide))) (ev_fz (evN_lst (evA_cons (evO_val (ev_tup (evA_cons (evO_val (ev_tup (evA_cons (evO_val ev_int) (evA_cons (evO_val ev_int) evA_nil (by rfl)) (by rfl)))) (evA_cons (evO_val (ev_tup (evA_cons (evO_val ev_str) evA_nil (by rfl)))) evA_nil (by rfl)) (by rfl)))) evA_nil (by rfl)))) (ev_fz (evN_lst evA_nil)))) evA_nil (by rfl)) (by rfl)) (by rfl)) (by rfl)) (by rfl)) (by rfl)) (by rfl))) (by rfl) (by first | exact .inl rfl | exact .inr rfl)) (evSs_cons (evS_if (evT_eq hr0 (evO_val (ev_gdL G__law_random len__law_random (hr.mono (by omega)) hG rfl passX (evA_cons (evO_var rfl (by first | exact .inl rfl | exact .inr (.inl rfl) | exact .inr (.inr rfl)) (by decide) (by decide)) (evA_cons (evO_val ev_int) evA_nil (by rfl)) (by rfl)) (by decide) (by rfl) (by rfl))) (evO_val ev_int) (by first | rfl | exact nobehind _ (by decide) (by decide))) (evSs_one (evS_ret (ev_var rfl (by first | exact .inl rfl | exact .inr (.inl rfl) | exact .inr (.inr rfl)) (by decide) (by decide)))) evSs_nil) (evSs_cons (evS_set nd rfl (by first | exact .inl rfl | exact .inr rfl) (ev_if (evT_eq hr0 (evO_val (ev_gdL G__law_random len__law_random (hr.mono (by omega)) hG rfl passX (evA_cons (evO_var rfl (by first | exact .inl rfl | exact .inr (.inl rfl) | exact .inr (.inr rfl)) (by decide) (by decide)) (evA_cons (evO_val ev_int) evA_nil (by rfl)) (by rfl)) (by decide) (by rfl) (by rfl))) (evO_val ev_int) (by first | rfl | exact nobehind _ (by decide) (by decide))) (ev_fz (evN_lst (evA_cons (evO_val (ev_tup (evA_cons (evO_val (ev_tup (evA_cons (evO_val ev_int) (evA_cons (evO_val ev_int) evA_nil (by rfl)) (by rfl)))) (evA_cons (evO_val (ev_tup (evA_cons (evO_val ev_str) (evA_cons (evO_val (ev_add (evO_val ev_int) (evO_val (ev_gdL G__law_random len__law_random (hr.mono (by omega)) hG rfl passX (evA_cons (evO_var rfl (by first | exact .inl rfl | exact .inr (.inl rfl) | exact .inr (.inr rfl)) (by decide) (by decide)) (evA_cons (evO_val ev_int) evA_nil (by rfl)) (by rfl)) (by decide) (by rfl) (by rfl))))) (evA_cons (evO_val ev_int) (evA_cons (evO_val ev_non) (evA_cons (evO_val (ev_gdL G__law_order len__law_order (hr.mono (by omega)) hG rfl passX (evA_cons (evO_var rfl (by first | exact .inl rfl | exact .inr (.inl rfl) | exact .inr (.inr rfl)) (by decide) (by decide)) evA_nil (by rfl)) (by decide) (by rfl) (by rfl))) (evA_cons (evO_val (ev_tup (evA_cons (evO_val ev_str) evA_nil (by rfl)))) (evA_cons (evO_val (ev_fz (evN_lst evA_nil))) evA_nil (by rfl)) (by rfl)) (by rfl)) (by rfl)) (by rfl)) (by rfl)) (by rfl)))) evA_nil (by rfl)) (by rfl)))) evA_nil (by rfl)))) (ev_fz (evN_lst evA_nil))) (by rfl) (by first | exact .inl rfl | exact .inr rfl)) (evSs_one (evS_ret (ev_tup (evA_cons (evO_val ev_str) (evA_cons (evO_val (ev_add (evO_val ev_int) (evO_val (ev_gdL G__law_random len__law_random (hr.mono (by omega)) hG rfl passX (evA_cons (evO_var rfl (by first | exact .inl rfl | exact .inr (.inl rfl) | exact .inr (.inr rfl)) (by decide) (by decide)) (evA_cons (evO_val ev_int) evA_nil (by rfl)) (by rfl)) (by decide) (by rfl) (by rfl))))) (evA_cons (evO_val ev_int) (evA_cons (evO_val ev_non) (evA_cons (evO_val (ev_gdL G__law_order len__law_order (hr.mono (by omega)) hG rfl passX (evA_cons (evO_var rfl (by first | exact .inl rfl | exact .inr (.inl rfl) | exact .inr (.inr rfl)) (by decide) (by decide)) evA_nil (by rfl)) (by decide) (by rfl) (by rfl))) (evA_cons (evO_val (ev_var rfl (by first | exact .inl rfl | exact .inr (.inl rfl) | exact .inr (.inr rfl)) (by decide) (by decide))) (evA_cons (evO_val (ev_var rfl (by first | exact .inl rfl | exact .inr (.inl rfl) | exact .inr (.inr rfl)) (by decide) (by decide))) evA_nil (by rfl)) (by rfl)) (by rfl)) (by rfl)) (by rfl)) (by rfl)) (by rfl)))))))))))
theorem sc__law_day : FnScope N__law_day P__law_day (defScope (top 53)) := ⟨rfl, rfl, rfl, by decide +kernel, rfl, by decide +kernel, by decide +kernel⟩
theorem ok__law_day {f : Addr} {fd : FuncData} (Fu : Fun K "_law_day" "_law_day" (top 53) f fd) (hm : mg "_law_day" = some (.ref f)) (hbn : ∀ x ∈ bns, mg x = none) (G__law_random : GD P w K mg base "_law_random" 2 P__law_random (spL K ec 1 F__law_random)) (G__law_pick : GD P w K mg base "_law_pick" 3 P__law_pick (spL K ec 1 F__law_pick)) (G__law_match : GD P w K mg base "_law_match" 15 P__law_match (spL K ec 3 F__law_match)) :
    GD P w K mg base "_law_day" (15 + 1) P__law_day (spL K ec 2 F__law_day) := by
  have nd : (N__law_day : List Str).Nodup := sc__law_day.nd
  refine gd_mk Fu hm (fn_okL (N := N__law_day) (k := 15) (m := m__law_day) Fu sc__law_day rfl fun cdv A outer s H E hr hG => ?_) (fun _ _ _ _ _ _ us hl => match us, hl with | [_, _, _], _ => rfl) (fun _ _ _ _ _ _ us hl => match us, hl with | [_, _, _], _ => rfl)
  have hr0 := hr.mono (Nat.zero_le _)
  exact (evSs_cons (evS_own nd rfl (by first | exact .inl rfl | exact .inr rfl) (evN_lst evA_nil) (by rfl) (by first | exact .inl rfl | exact .inr rfl)) (evSs_cons (evS_for ownX rfl (evI_rng1 rfl (hbn "range" (by decide)) (evA_cons (evO_val (ev_gdL G__law_random len__law_random (hr.mono (by omega)) hG rfl passX (evA_cons (evO_var rfl (by first | exact .inl rfl | exact .inr (.inl rfl) | exact .inr (.inr rfl)) (by decide) (by decide)) (evA_cons (evO_val ev_int) evA_nil (by rfl)) (by rfl)) (by decide) (by rfl) (by rfl))) evA_nil (by rfl)) (by rfl)) (evG_name nd rfl (by first | exact .inl rfl | exact .inr rfl) (by first | exact .inl rfl | exact .inr rfl)) (evSs_cons (evS_set nd rfl (by first | exact .inl rfl | exact .inr rfl) (ev_gdL G__law_random len__law_random (hr.mono (by omega)) hG rfl passX (evA_cons (evO_var rfl (by first | exact .inl rfl | exact .inr (.inl rfl) | exact .inr (.inr rfl)) (by decide) (by decide)) (evA_cons (evO_val (ev_var rfl (by first | exact .inl rfl | exact .inr (.inl rfl) | exact .inr (.inr rfl)) (by decide) (by decide))) evA_nil (by rfl)) (by rfl)) (by decide) (by rfl) (by rfl)) (by rfl) (by first | exact .inl rfl | exact .inr rfl)) (evSs_cons (evS_set nd rfl (by first | exact .inl rfl | exact .inr rfl) (ev_mod (evO_val (ev_add (evO_val (ev_add (evO_var rfl (by first | exact .inl rfl | exact .inr (.inl rfl) | exact .inr (.inr rfl)) (by decide) (by decide)) (evO_val ev_int))) (evO_val (ev_gdL G__law_random len__law_random (hr.mono (by omega)) hG rfl passX (evA_cons (evO_var rfl (by first | exact .inl rfl | exact .inr (.inl rfl) | exact .inr (.inr rfl)) (by decide) (by decide)) (evA_cons (evO_val (ev_sub (evO_var rfl (by first | exact .inl rfl | exact .inr (.inl rfl) | exact .inr (.inr rfl)) (by decide) (by decide)) (evO_val ev_int))) evA_nil (by rfl)) (by rfl)) (by decide) (by rfl) (by rfl))))) (evO_var rfl (by first | exact .inl rfl | exact .inr (.inl rfl) | exact .inr (.inr rfl)) (by decide) (by decide))) (by rfl) (by first | exact .inl rfl | exact .inr rfl)) (evSs_cons (evS_set nd rfl (by first | exact .inl rfl | exact .inr rfl) (ev_gdL G__law_random len__law_random (hr.mono (by omega)) hG rfl passX (evA_cons (evO_var rfl (by first | exact .inl rfl | exact .inr (.inl rfl) | exact .inr (.inr rfl)) (by decide) (by decide)) (evA_cons (evO_val ev_int) evA_nil (by rfl)) (by rfl)) (by decide) (by rfl) (by rfl)) (by rfl) (by first | exact .inl rfl | exact .inr rfl)) (evSs_one (evS_app rfl (by first | exact .inl rfl | exact .inr (.inl rfl) | exact .inr (.inr rfl)) (by decide) (by decide) (ev_tup (evA_cons (evO_val (ev_var rfl (by first | exact .inl rfl | exact .inr (.inl rfl) | exact .inr (.inr rfl)) (by decide) (by decide))) (evA_cons (evO_val (ev_var rfl (by first | exact .inl rfl | exact .inr (.inl rfl) | exact .inr (.inr rfl)) (by decide) (by decide))) (evA_cons (evO_val (ev_var rfl (by first | exact .inl rfl | exact .inr (.inl rfl) | exact .inr (.inr rfl)) (by decide) (by decide))) (evA_cons (evO_val (ev_index (evO_val (ev_gdL G__law_match len__law_match (hr.mono (by omega)) hG rfl passX (evA_cons (evO_var rfl (by first | exact .inl rfl | exact .inr (.inl rfl) | exact .inr (.inr rfl)) (by decide) (by decide)) (evA_cons (evO_val (ev_var rfl (by first | exact .inl rfl | exact .inr (.inl rfl) | exact .inr (.inr rfl)) (by decide) (by decide))) (evA_cons (evO_val (ev_var rfl (by first | exact .inl rfl | exact .inr (.inl rfl) | exact .inr (.inr rfl)) (by decide) (by decide))) (evA_cons (evO_val (ev_gdL G__law_pick len__law_pick (hr.mono (by omega)) hG rfl passX (evA_cons (evO_var rfl (by first | exact .inl rfl | exact .inr (.inl rfl) | exact .inr (.inr rfl)) (by decide) (by decide)) (evA_cons (evO_val (ev_fz (evN_lst (evA_cons (evO_val ev_int) (evA_cons (evO_val ev_int) (evA_cons (evO_val ev_int) evA_nil (by rfl)) (by rfl)) (by rfl))))) evA_nil (by rfl)) (by rfl)) (by decide) (by rfl) (by rfl))) evA_nil (by rfl)) (by rfl)) (by rfl)) (by rfl)) (by decide) (by rfl) (by rfl))) (evO_val ev_int) (fun _ _ => rfl))) evA_nil (by rfl)) (by rfl)) (by rfl)) (by rfl))) (by rfl) (by rfl) (by rfl) (by rfl) (by rfl) (by rfl)))))) (fun _ => rfl)) (evSs_one (evS_ret (ev_var rfl (by first | exact .inl rfl | exact .inr (.inl rfl) | exact .inr (.inr rfl)) (by decide) (by decide))))))
theorem sc__law_due_table : FnScope N__law_due_table P__law_due_table (defScope (top 54)) := ⟨rfl, rfl, rfl, by decide +kernel, rfl, by decide +kernel, by decide +kernel⟩
theorem ok__law_due_table {f : Addr} {fd : FuncData} (Fu : Fun K "_law_due_table" "_law_due_table" (top 54) f fd) (hm : mg "_law_due_table" = some (.ref f)) (hbn : ∀ x ∈ bns, mg x = none) (G__law_played : GD P w K mg base "_law_played" 15 P__law_played (spP K ec 3 F__law_played)) :
    GD P w K mg base "_law_due_table" (15 + 1) P__law_due_table (spP K ec 3 F__law_due_table) := by
  have nd : (N__law_due_table : List Str).Nodup := sc__law_due_table.nd
  refine gd_mk Fu hm (fn_ok (N := N__law_due_table) (k := 15) (m := m__law_due_table) Fu sc__law_due_table fun cdv A outer s H E hr hG => ?_) (fun _ _ _ _ _ _ us hl => match us, hl with | [_, _, _], _ => rfl) (fun _ _ _ _ _ _ us hl => match us, hl with | [_, _, _], _ => rfl)
  have hr0 := hr.mono (Nat.zero_le _)
  exact (evSs_cons (evS_parNN rfl nd rfl rfl (by decide) rfl rfl (evN_rep (evN_lst (evA_cons (evO_val ev_int) evA_nil (by rfl))) (ev_var rfl (by first | exact .inl rfl | exact .inr (.inl rfl) | exact .inr (.inr rfl)) (by decide) (by decide))) (evN_lst evA_nil) (by rfl) (by rfl) (by rfl) (by rfl)) (evSs_cons (evS_for ownX rfl (evI_list (ev_var rfl (by first | exact .inl rfl | exact .inr (.inl rfl) | exact .inr (.inr rfl)) (by decide) (by decide))) (evG_tup' rfl (evGs_cons (evG_name nd rfl (by first | exact .inl rfl | exact .inr rfl) (by first | exact .inl rfl | exact .inr rfl)) (evGs_cons (evG_name nd rfl (by first | exact .inl rfl | exact .inr rfl) (by first | exact .inl rfl | exact .inr rfl)) (evGs_cons (evG_name nd rfl (by first | exact .inl rfl | exact .inr rfl) (by first | exact .inl rfl | exact .inr rfl)) (evGs_cons (evG_name nd rfl (by first | exact .inl rfl | exact .inr rfl) (by first | exact .inl rfl | exact .inr rfl)) evGs_nil (by rfl)) (by rfl)) (by rfl)) (by rfl)) rfl rfl) (evSs_cons (evS_asg (ev_gd G__law_played len__law_played (hr.mono (by omega)) hG rfl passX (evA_cons (evO_val (ev_var rfl (by first | exact .inl rfl | exact .inr (.inl rfl) | exact .inr (.inr rfl)) (by decide) (by decide))) (evA_cons (evO_val (ev_var rfl (by first | exact .inl rfl | exact .inr (.inl rfl) | exact .inr (.inr rfl)) (by decide) (by decide))) (evA_cons (evO_val (ev_var rfl (by first | exact .inl rfl | exact .inr (.inl rfl) | exact .inr (.inr rfl)) (by decide) (by decide))) evA_nil (by rfl)) (by rfl)) (by rfl)) (by decide) (by rfl) (by rfl)) (evG_tup' rfl (evGs_cons (evG_name nd rfl (by first | exact .inl rfl | exact .inr rfl) (by first | exact .inl rfl | exact .inr rfl)) (evGs_cons (evG_name nd rfl (by first | exact .inl rfl | exact .inr rfl) (by first | exact .inl rfl | exact .inr rfl)) (evGs_cons (evG_name nd rfl (by first | exact .inl rfl | exact .inr rfl) (by first | exact .inl rfl | exact .inr rfl)) evGs_nil (by rfl)) (by rfl)) (by rfl)) rfl rfl) (by rfl) (by rfl) (by rfl)) (evSs_one (evS_if (evT_eq hr0 (evO_var rfl (by first | exact .inl rfl | exact .inr (.inl rfl) | exact .inr (.inr rfl)) (by decide) (by decide)) (evO_val ev_str) (by first | rfl | exact nobehind _ (by decide) (by decide))) (evSs_cons (evS_set nd rfl (by first | exact .inl rfl | exact .inr rfl) (ev_index (evO_val (ev_fz (evN_lst (evA_cons (evO_val (ev_var rfl (by first | exact .inl rfl | exact .inr (.inl rfl) | exact .inr (.inr rfl)) (by decide) (by decide))) (evA_cons (evO_val (ev_var rfl (by first | exact .inl rfl | exact .inr (.inl rfl) | exact .inr (.inr rfl)) (by decide) (by decide))) evA_nil (by rfl)) (by rfl))))) (evO_var rfl (by first | exact .inl rfl | exact .inr (.inl rfl) | exact .inr (.inr rfl)) (by decide) (by decide)) (fun _ _ => rfl)) (by rfl) (by first | exact .inl rfl | exact .inr rfl)) (evSs_one (evS_put rfl (by first | exact .inl rfl | exact .inr (.inl rfl) | exact .inr (.inr rfl)) (by decide) (by decide) (ev_var rfl (by first | exact .inl rfl | exact .inr (.inl rfl) | exact .inr (.inr rfl)) (by decide) (by decide)) (ev_add (evO_val (ev_index (evO_var rfl (by first | exact .inl rfl | exact .inr (.inl rfl) | exact .inr (.inr rfl)) (by decide) (by decide)) (evO_var rfl (by first | exact .inl rfl | exact .inr (.inl rfl) | exact .inr (.inr rfl)) (by decide) (by decide)) (fun _ _ => rfl))) (evO_val ev_int)) (fun _ _ => rfl) (by rfl) (by rfl) (by rfl) (fun _ => rfl)))) (evSs_one (evS_app rfl (by first | exact .inl rfl | exact .inr (.inl rfl) | exact .inr (.inr rfl)) (by decide) (by decide) (ev_tup (evA_cons (evO_val (ev_min2 rfl rfl (hbn "min" (by decide)) (evO_var rfl (by first | exact .inl rfl | exact .inr (.inl rfl) | exact .inr (.inr rfl)) (by decide) (by decide)) (evO_var rfl (by first | exact .inl rfl | exact .inr (.inl rfl) | exact .inr (.inr rfl)) (by decide) (by decide)) (by rfl) (by rfl) (by rfl))) (evA_cons (evO_val (ev_max2 rfl rfl (hbn "max" (by decide)) (evO_var rfl (by first | exact .inl rfl | exact .inr (.inl rfl) | exact .inr (.inr rfl)) (by decide) (by decide)) (evO_var rfl (by first | exact .inl rfl | exact .inr (.inl rfl) | exact .inr (.inr rfl)) (by decide) (by decide)) (by rfl) (by rfl) (by rfl))) evA_nil (by rfl)) (by rfl))) (by rfl) (by rfl) (by rfl) (by rfl) (by rfl) (by rfl)))))) (fun _ => rfl)) (evSs_one (evS_ret (ev_tup (evA_cons (evO_val (ev_var rfl (by first | exact .inl rfl | exact .inr (.inl rfl) | exact .inr (.inr rfl)) (by decide) (by decide))) (evA_cons (evO_val (ev_fz (evN_sortP rfl (hbn "sorted" (by decide)) (evO_var rfl (by first | exact .inl rfl | exact .inr (.inl rfl) | exact .inr (.inr rfl)) (by decide) (by decide)) (by rfl) (by rfl)))) evA_nil (by rfl)) (by rfl)))))))
theorem sc__law_refused_right : FnScope N__law_refused_right P__law_refused_right (defScope (top 55)) := ⟨rfl, rfl, rfl, by decide +kernel, rfl, by decide +kernel, by decide +kernel⟩
theorem ok__law_refused_right {f : Addr} {fd : FuncData} (Fu : Fun K "_law_refused_right" "_law_refused_right" (top 55) f fd) (hm : mg "_law_refused_right" = some (.ref f)) (hbn : ∀ x ∈ bns, mg x = none) (G__law_wrong_rules : GD P w K mg base "_law_wrong_rules" 4 P__law_wrong_rules (spL K ec 1 F__law_wrong_rules)) (G_table_of : GD P w K mg base "table_of" 27 P_table_of (spP K ec 3 F_table_of)) {c Pt : Addr} (GR : GRef K mg base ec "_law_refused_right.<locals>.<lambda>" c Pt) (hcode : fd.code = .ref c) :
    GD P w K mg base "_law_refused_right" (31 + 1) P__law_refused_right (spL K ec 1 F__law_refused_right) := by
  have nd : (N__law_refused_right : List Str).Nodup := sc__law_refused_right.nd
  refine gd_mk Fu hm (fn_okLc (N := N__law_refused_right) (k := 31) (m := m__law_refused_right) Fu sc__law_refused_right rfl fun cdv A outer s H E hcv hr hG => ?_) (fun _ _ _ _ _ _ us hl => match us, hl with | [_, _], _ => rfl) (fun _ _ _ _ _ _ us hl => match us, hl with | [_, _], _ => rfl)
  have hr0 := hr.mono (Nat.zero_le _)
  exact (evSs_cons (evS_for ownX rfl (evI_list (ev_gdL G__law_wrong_rules len__law_wrong_rules (hr.mono (by omega)) hG rfl passX (evA_cons (evO_var rfl (by first | exact .inl rfl | exact .inr (.inl rfl) | exact .inr (.inr rfl)) (by decide) (by decide)) (evA_cons (evO_val (ev_var rfl (by first | exact .inl rfl | exact .inr (.inl rfl) | exact .inr (.inr rfl)) (by decide) (by decide))) evA_nil (by rfl)) (by rfl)) (by decide) (by rfl) (by rfl))) (evG_name nd rfl (by first | exact .inl rfl | exact .inr rfl) (by first | exact .inl rfl | exact .inr rfl)) (evSs_one (evS_if (evT_not (evT_val (ev_refX GR q_eq rfl rfl (show cdv = .ref c from hcv.symm.trans hcode) (hr.mono (by omega)) hG rfl (lamS_by (by rfl)) (by rfl) (fun _ _ _ _ _ => (by rfl)) (fun E A outer s H f c' hr hG => have hr0 := hr.mono (Nat.zero_le _); (ev_gd G_table_of len_table_of (hr.mono (by omega)) hG rfl passLam (evA_cons (evO_val (ev_var rfl (by first | exact .inl rfl | exact .inr (.inl rfl) | exact .inr (.inr rfl)) (by decide) (by decide))) (evA_cons (evO_val ev_non) (evA_cons (evO_val ev_non) evA_nil (by rfl)) (by rfl)) (by rfl)) (by decide) (by rfl) (by rfl))) (evA_cons (evO_val ev_str) (evA_cons (evO_val (ev_var rfl (by first | exact .inl rfl | exact .inr (.inl rfl) | exact .inr (.inr rfl)) (by decide) (by decide))) evA_nil (by rfl)) (by rfl)) (by rfl) (by rfl)) (fun _ => rfl))) (evSs_one (evS_ret ev_bl)) evSs_nil)) (fun _ => rfl)) (evSs_cons (evS_for ownX rfl (evI_list (ev_fz (evN_lst (evA_cons (evO_val ev_int) (evA_cons (evO_val ev_int) (evA_cons (evO_val (ev_neg ev_int)) (evA_cons (evO_val ev_bl) (evA_cons (evO_val ev_non) (evA_cons (evO_val ev_str) (evA_cons (evO_val (ev_fz (evN_lst (evA_cons (evO_val ev_int) evA_nil (by rfl))))) (evA_cons (evO_val (ev_pow (evO_val ev_int) (evO_val ev_int))) evA_nil (by rfl)) (by rfl)) (by rfl)) (by rfl)) (by rfl)) (by rfl)) (by rfl)) (by rfl))))) (evG_name nd rfl (by first | exact .inl rfl | exact .inr rfl) (by first | exact .inl rfl | exact .inr rfl)) (evSs_one (evS_if (evT_not (evT_val (ev_refX GR q_eq rfl rfl (show cdv = .ref c from hcv.symm.trans hcode) (hr.mono (by omega)) hG rfl (lamS_by (by rfl)) (by rfl) (fun _ _ _ _ _ => (by rfl)) (fun E A outer s H f c' hr hG => have hr0 := hr.mono (Nat.zero_le _); (ev_gd G_table_of len_table_of (hr.mono (by omega)) hG rfl passLam (evA_cons (evO_val (ev_var rfl (by first | exact .inl rfl | exact .inr (.inl rfl) | exact .inr (.inr rfl)) (by decide) (by decide))) (evA_cons (evO_val (ev_var rfl (by first | exact .inl rfl | exact .inr (.inl rfl) | exact .inr (.inr rfl)) (by decide) (by decide))) (evA_cons (evO_val ev_non) evA_nil (by rfl)) (by rfl)) (by rfl)) (by decide) (by rfl) (by rfl))) (evA_cons (evO_val ev_str) (evA_cons (evO_val (ev_var rfl (by first | exact .inl rfl | exact .inr (.inl rfl) | exact .inr (.inr rfl)) (by decide) (by decide))) evA_nil (by rfl)) (by rfl)) (by rfl) (by rfl)) (fun _ => rfl))) (evSs_one (evS_ret ev_bl)) evSs_nil)) (fun _ => rfl)) (evSs_cons (evS_asg (ev_tup (evA_cons (evO_val (ev_tup (evA_cons (evO_val ev_str) (evA_cons (evO_val ev_int) (evA_cons (evO_val ev_int) (evA_cons (evO_val ev_non) (evA_cons (evO_val (ev_tup (evA_cons (evO_val ev_str) evA_nil (by rfl)))) (evA_cons (evO_val (ev_tup (evA_cons (evO_val ev_str) evA_nil (by rfl)))) (evA_cons (evO_val (ev_fz (evN_lst evA_nil))) evA_nil (by rfl)) (by rfl)) (by rfl)) (by rfl)) (by rfl)) (by rfl)) (by rfl)))) (evA_cons (evO_val (ev_tup (evA_cons (evO_val ev_int) (evA_cons (evO_val ev_int) (evA_cons (evO_val ev_int) (evA_cons (evO_val (ev_fz (evN_lst (evA_cons (evO_val ev_int) (evA_cons (evO_val ev_int) evA_nil (by rfl)) (by rfl))))) evA_nil (by rfl)) (by rfl)) (by rfl)) (by rfl)))) evA_nil (by rfl)) (by rfl))) (evG_tup' rfl (evGs_cons (evG_name nd rfl (by first | exact .inl rfl | exact .inr rfl) (by first | exact .inl rfl | exact .inr rfl)) (evGs_cons (evG_name nd rfl (by first | exact .inl rfl | exact .inr rfl) (by first | exact .inl rfl | exact .inr rfl)) evGs_nil (by rfl)) (by rfl)) rfl rfl) (by rfl) (by rfl) (by rfl)) (evSs_cons (evS_set nd rfl (by first | exact .inl rfl | exact .inr rfl) (ev_fz (evN_lst (evA_cons (evO_val ev_non) (evA_cons (evO_val ev_int) (evA_cons (evO_val (ev_tup evA_nil)) (evA_cons (evO_val (ev_fz (evN_lst (evA_cons (evO_val ev_int) (evA_cons (evO_val ev_int) (evA_cons (evO_val ev_int) (evA_cons (evO_val (ev_fz (evN_lst evA_nil))) evA_nil (by rfl)) (by rfl)) (by rfl)) (by rfl))))) (evA_cons (evO_val (ev_tup (evA_cons (evO_val ev_int) (evA_cons (evO_val ev_int) (evA_cons (evO_val ev_int) evA_nil (by rfl)) (by rfl)) (by rfl)))) (evA_cons (evO_val (ev_tup (evA_cons (evO_val ev_int) (evA_cons (evO_val ev_int) (evA_cons (evO_val ev_int) (evA_cons (evO_val (ev_fz (evN_lst evA_nil))) (evA_cons (evO_val ev_int) evA_nil (by rfl)) (by rfl)) (by rfl)) (by rfl)) (by rfl)))) (evA_cons (evO_val (ev_tup (evA_cons (evO_val ev_int) (evA_cons (evO_val ev_int) (evA_cons (evO_val ev_int) (evA_cons (evO_val (ev_fz (evN_lst evA_nil))) evA_nil (by rfl)) (by rfl)) (by rfl)) (by rfl)))) (evA_cons (evO_val (ev_tup (evA_cons (evO_val ev_int) (evA_cons (evO_val ev_int) (evA_cons (evO_val ev_int) (evA_cons (evO_val (ev_fz (evN_lst evA_nil))) evA_nil (by rfl)) (by rfl)) (by rfl)) (by rfl)))) (evA_cons (evO_val (ev_tup (evA_cons (evO_val (ev_neg ev_int)) (evA_cons (evO_val ev_int) (evA_cons (evO_val ev_int) (evA_cons (evO_val (ev_fz (evN_lst evA_nil))) evA_nil (by rfl)) (by rfl)) (by rfl)) (by rfl)))) (evA_cons (evO_val (ev_tup (evA_cons (evO_val ev_bl) (evA_cons (evO_val ev_int) (evA_cons (evO_val ev_int) (evA_cons (evO_val (ev_fz (evN_lst evA_nil))) evA_nil (by rfl)) (by rfl)) (by rfl)) (by rfl)))) (evA_cons (evO_val (ev_tup (evA_cons (evO_val ev_int) (evA_cons (evO_val ev_non) (evA_cons (evO_val ev_int) (evA_cons (evO_val (ev_fz (evN_lst evA_nil))) evA_nil (by rfl)) (by rfl)) (by rfl)) (by rfl)))) (evA_cons (evO_val (ev_tup (evA_cons (evO_val ev_int) (evA_cons (evO_val ev_int) (evA_cons (evO_val ev_int) (evA_cons (evO_val (ev_fz (evN_lst evA_nil))) evA_nil (by rfl)) (by rfl)) (by rfl)) (by rfl)))) (evA_cons (evO_val (ev_tup (evA_cons (evO_val ev_int) (evA_cons (evO_val ev_int) (evA_cons (evO_val ev_non) (evA_cons (evO_val (ev_fz (evN_lst evA_nil))) evA_nil (by rfl)) (by rfl)) (by rfl)) (by rfl)))) (evA_cons (evO_val (ev_tup (evA_cons (evO_val ev_int) (evA_cons (evO_val ev_int) (evA_cons (evO_val ev_bl) (evA_cons (evO_val (ev_fz (evN_lst evA_nil))) evA_nil (by rfl)) (by rfl)) (by rfl)) (by rfl)))) (evA_cons (evO_val (ev_tup (evA_cons (evO_val ev_int) (evA_cons (evO_val ev_int) (evA_cons (evO_val ev_int) (evA_cons (evO_val (ev_tup (evA_cons (evO_val ev_int) (evA_cons (evO_val ev_int) evA_nil (by rfl)) (by rfl)))) evA_nil (by rfl)) (by rfl)) (by rfl)) (by rfl)))) (evA_cons (evO_val (ev_tup (evA_cons (evO_val ev_int) (evA_cons (evO_val ev_int) (evA_cons (evO_val ev_int) (evA_cons (evO_val (ev_fz (evN_lst (evA_cons (evO_val ev_int) evA_nil (by rfl))))) evA_nil (by rfl)) (by rfl)) (by rfl)) (by rfl)))) (evA_cons (evO_val (ev_tup (evA_cons (evO_val ev_int) (evA_cons (evO_val ev_int) (evA_cons (evO_val ev_int) (evA_cons (evO_val (ev_fz (evN_lst (evA_cons (evO_val ev_bl) evA_nil (by rfl))))) evA_nil (by rfl)) (by rfl)) (by rfl)) (by rfl)))) (evA_cons (evO_val (ev_tup (evA_cons (evO_val ev_int) (evA_cons (evO_val ev_int) (evA_cons (evO_val ev_int) (evA_cons (evO_val ev_non) evA_nil (by rfl)) (by rfl)) (by rfl)) (by rfl)))) (evA_cons (evO_val (ev_tup (evA_cons (evO_val ev_int) (evA_cons (evO_val ev_int) (evA_cons (evO_val ev_int) (evA_cons (evO_val (ev_fz (evN_lst (evA_cons (evO_val ev_int) (evA_cons (evO_val ev_int) (evA_cons (evO_val ev_int) evA_nil (by rfl)) (by rfl)) (by rfl))))) evA_nil (by rfl)) (by rfl)) (by rfl)) (by rfl)))) evA_nil (by rfl)) (by rfl)) (by rfl)) (by rfl)) (by rfl)) (by rfl)) (by rfl)) (by rfl)) (by rfl)) (by rfl)) (by rfl)) (by rfl)) (by rfl)) (by rfl)) (by rfl)) (by rfl)) (by rfl)) (by rfl)) (by rfl)))) (by rfl) (by first | exact .inl rfl | exact .inr rfl)) (evSs_cons (evS_for ownX rfl (evI_list (ev_add (evO_val (ev_add (evO_val (ev_fz (evN_lc (own := [("one_odd", 6)]) rfl nd (evI_list (ev_var rfl (by first | exact .inl rfl | exact .inr (.inl rfl) | exact .inr (.inr rfl)) (by decide) (by decide))) (blkOk_by (by rfl)) (fun _ _ _ _ _ => (evG_name nd rfl (by first | exact .inl rfl | exact .inr rfl) (by first | exact .inl rfl | exact .inr rfl))) (fun _ _ _ _ _ => evTs_nil) (fun _ _ _ _ _ => (ev_fz (evN_lst (evA_cons (evO_val (ev_var rfl (by first | exact .inl rfl | exact .inr (.inl rfl) | exact .inr (.inr rfl)) (by decide) (by decide))) (evA_cons (evO_val (ev_var rfl (by first | exact .inl rfl | exact .inr (.inl rfl) | exact .inr (.inr rfl)) (by decide) (by decide))) evA_nil (by rfl)) (by rfl))))) (by decide) (fun _ => rfl)))) (evO_val (ev_fz (evN_lc (own := [("one_odd", 6)]) rfl nd (evI_list (ev_var rfl (by first | exact .inl rfl | exact .inr (.inl rfl) | exact .inr (.inr rfl)) (by decide) (by decide))) (blkOk_by (by rfl)) (fun _ _ _ _ _ => (evG_name nd rfl (by first | exact .inl rfl | exact .inr rfl) (by first | exact .inl rfl | exact .inr rfl))) (fun _ _ _ _ _ => evTs_nil) (fun _ _ _ _ _ => (ev_fz (evN_lst (evA_cons (evO_val (ev_var rfl (by first | exact .inl rfl | exact .inr (.inl rfl) | exact .inr (.inr rfl)) (by decide) (by decide))) (evA_cons (evO_val (ev_var rfl (by first | exact .inl rfl | exact .inr (.inl rfl) | exact .inr (.inr rfl)) (by decide) (by decide))) evA_nil (by rfl)) (by rfl))))) (by decide) (fun _ => rfl)))))) (evO_val (ev_fz (evN_lst (evA_cons (evO_val ev_non) (evA_cons (evO_val ev_int) (evA_cons (evO_val (ev_tup (evA_cons (evO_val (ev_var rfl (by first | exact .inl rfl | exact .inr (.inl rfl) | exact .inr (.inr rfl)) (by decide) (by decide))) evA_nil (by rfl)))) (evA_cons (evO_val (ev_fz evN_dnew)) (evA_cons (evO_val ev_str) evA_nil (by rfl)) (by rfl)) (by rfl)) (by rfl)) (by rfl))))))) (evG_name nd rfl (by first | exact .inl rfl | exact .inr rfl) (by first | exact .inl rfl | exact .inr rfl)) (evSs_one (evS_if (evT_not (evT_val (ev_refX GR q_eq rfl rfl (show cdv = .ref c from hcv.symm.trans hcode) (hr.mono (by omega)) hG rfl (lamS_by (by rfl)) (by rfl) (fun _ _ _ _ _ => (by rfl)) (fun E A outer s H f c' hr hG => have hr0 := hr.mono (Nat.zero_le _); (ev_gd G_table_of len_table_of (hr.mono (by omega)) hG rfl passLam (evA_cons (evO_val (ev_var rfl (by first | exact .inl rfl | exact .inr (.inl rfl) | exact .inr (.inr rfl)) (by decide) (by decide))) (evA_cons (evO_val ev_int) (evA_cons (evO_val (ev_var rfl (by first | exact .inl rfl | exact .inr (.inl rfl) | exact .inr (.inr rfl)) (by decide) (by decide))) evA_nil (by rfl)) (by rfl)) (by rfl)) (by decide) (by rfl) (by rfl))) (evA_cons (evO_val ev_str) (evA_cons (evO_val (ev_var rfl (by first | exact .inl rfl | exact .inr (.inl rfl) | exact .inr (.inr rfl)) (by decide) (by decide))) evA_nil (by rfl)) (by rfl)) (by rfl) (by rfl)) (fun _ => rfl))) (evSs_one (evS_ret ev_bl)) evSs_nil)) (fun _ => rfl)) (evSs_one (evS_ret (ev_eq hr0 (evO_val (ev_gd G_table_of len_table_of (hr.mono (by omega)) hG rfl passX (evA_cons (evO_val (ev_var rfl (by first | exact .inl rfl | exact .inr (.inl rfl) | exact .inr (.inr rfl)) (by decide) (by decide))) (evA_cons (evO_val ev_int) (evA_cons (evO_val (ev_fz (evN_lst (evA_cons (evO_val (ev_var rfl (by first | exact .inl rfl | exact .inr (.inl rfl) | exact .inr (.inr rfl)) (by decide) (by decide))) evA_nil (by rfl))))) evA_nil (by rfl)) (by rfl)) (by rfl)) (by decide) (by rfl) (by rfl))) (evO_val (ev_tup (evA_cons (evO_val (ev_fz (evN_lst (evA_cons (evO_val ev_int) (evA_cons (evO_val ev_int) (evA_cons (evO_val ev_int) evA_nil (by rfl)) (by rfl)) (by rfl))))) (evA_cons (evO_val (ev_fz (evN_lst (evA_cons (evO_val (ev_tup (evA_cons (evO_val ev_int) (evA_cons (evO_val ev_int) evA_nil (by rfl)) (by rfl)))) evA_nil (by rfl))))) evA_nil (by rfl)) (by rfl)))) (by first | rfl | exact nobehind _ (by decide) (by decide))))))))))
theorem sc_law : FnScope N_law P_law (defScope (top 56)) := ⟨rfl, rfl, rfl, by decide +kernel, rfl, by decide +kernel, by decide +kernel⟩
theorem ok_law {f : Addr} {fd : FuncData} (Fu : Fun K "law" "law" (top 56) f fd) (hm : mg "law" = some (.ref f)) (hbn : ∀ x ∈ bns, mg x = none) (G__law_generator : GD P w K mg base "_law_generator" 2 P__law_generator (spN K ec 2 F__law_generator)) (G__law_small_rule : GD P w K mg base "_law_small_rule" 5 P__law_small_rule (spL K ec 0 F__law_small_rule)) (G__law_random : GD P w K mg base "_law_random" 2 P__law_random (spL K ec 1 F__law_random)) (G__law_day : GD P w K mg base "_law_day" 16 P__law_day (spL K ec 2 F__law_day)) (G__law_due_table : GD P w K mg base "_law_due_table" 16 P__law_due_table (spP K ec 3 F__law_due_table)) (G_table_of : GD P w K mg base "table_of" 27 P_table_of (spP K ec 3 F_table_of)) (G__law_marked : GD P w K mg base "_law_marked" 8 ["told"] (spK ec N2_mark 4)) (G__law_refused_right : GD P w K mg base "_law_refused_right" 32 P__law_refused_right (spL K ec 1 F__law_refused_right)) (GD_table_of : GD P w K mg base "table_of" 27 P_table_of (spD K ec 3 F_table_of)) :
    GD P w K mg base "law" (32 + 1) P_law (spP K ec 1 F_law) := by
  have nd : (N_law : List Str).Nodup := sc_law.nd
  refine gd_mk Fu hm (fn_ok (N := N_law) (k := 32) (m := m_law) Fu sc_law fun cdv A outer s H E hr hG => ?_) (fun _ _ _ _ _ _ us hl => match us, hl with | [_], _ => rfl) (fun _ _ _ _ _ _ us hl => match us, hl with | [_], _ => rfl)
  have hr0 := hr.mono (Nat.zero_le _)
  exact (evSs_cons (evS_for ownX rfl (evI_rng1 rfl (hbn "range" (by decide)) (evA_cons (evO_val ev_int) evA_nil (by rfl)) (by rfl)) (evG_name nd rfl (by first | exact .inl rfl | exact .inr rfl) (by first | exact .inl rfl | exact .inr rfl)) (evSs_cons (evS_own nd rfl (by first | exact .inl rfl | exact .inr rfl) (evN_gd G__law_generator len__law_generator (hr.mono (by omega)) hG rfl passX (evA_cons (evO_val (ev_var rfl (by first | exact .inl rfl | exact .inr (.inl rfl) | exact .inr (.inr rfl)) (by decide) (by decide))) (evA_cons (evO_val (ev_var rfl (by first | exact .inl rfl | exact .inr (.inl rfl) | exact .inr (.inr rfl)) (by decide) (by decide))) evA_nil (by rfl)) (by rfl)) (by decide) (by rfl) (by rfl)) (by rfl) (by first | exact .inl rfl | exact .inr rfl)) (evSs_cons (evS_par2 rfl nd rfl rfl (by decide) rfl rfl (ev_gdL G__law_small_rule len__law_small_rule (hr.mono (by omega)) hG rfl passX (evA_cons (evO_var rfl (by first | exact .inl rfl | exact .inr (.inl rfl) | exact .inr (.inr rfl)) (by decide) (by decide)) evA_nil (by rfl)) (by decide) (by rfl) (by rfl)) (ev_add (evO_val ev_int) (evO_val (ev_gdL G__law_random len__law_random (hr.mono (by omega)) hG rfl passX (evA_cons (evO_var rfl (by first | exact .inl rfl | exact .inr (.inl rfl) | exact .inr (.inr rfl)) (by decide) (by decide)) (evA_cons (evO_val ev_int) evA_nil (by rfl)) (by rfl)) (by decide) (by rfl) (by rfl)))) (by rfl) (by rfl) (by rfl) (by rfl)) (evSs_cons (evS_set nd rfl (by first | exact .inl rfl | exact .inr rfl) (ev_gdL G__law_day len__law_day (hr.mono (by omega)) hG rfl passX (evA_cons (evO_var rfl (by first | exact .inl rfl | exact .inr (.inl rfl) | exact .inr (.inr rfl)) (by decide) (by decide)) (evA_cons (evO_val (ev_var rfl (by first | exact .inl rfl | exact .inr (.inl rfl) | exact .inr (.inr rfl)) (by decide) (by decide))) (evA_cons (evO_val (ev_var rfl (by first | exact .inl rfl | exact .inr (.inl rfl) | exact .inr (.inr rfl)) (by decide) (by decide))) evA_nil (by rfl)) (by rfl)) (by rfl)) (by decide) (by rfl) (by rfl)) (by rfl) (by first | exact .inl rfl | exact .inr rfl)) (evSs_cons (evS_par2 rfl nd rfl rfl (by decide) rfl rfl (ev_repr hr0 hG rfl (hbn "repr" (by decide)) (evO_val (ev_fz (evN_lst (evA_cons (evO_val (ev_var rfl (by first | exact .inl rfl | exact .inr (.inl rfl) | exact .inr (.inr rfl)) (by decide) (by decide))) (evA_cons (evO_val (ev_var rfl (by first | exact .inl rfl | exact .inr (.inl rfl) | exact .inr (.inr rfl)) (by decide) (by decide))) evA_nil (by rfl)) (by rfl))))) (by rfl) (by rfl)) (ev_gd G__law_due_table len__law_due_table (hr.mono (by omega)) hG rfl passX (evA_cons (evO_val (ev_var rfl (by first | exact .inl rfl | exact .inr (.inl rfl) | exact .inr (.inr rfl)) (by decide) (by decide))) (evA_cons (evO_val (ev_var rfl (by first | exact .inl rfl | exact .inr (.inl rfl) | exact .inr (.inr rfl)) (by decide) (by decide))) (evA_cons (evO_val (ev_var rfl (by first | exact .inl rfl | exact .inr (.inl rfl) | exact .inr (.inr rfl)) (by decide) (by decide))) evA_nil (by rfl)) (by rfl)) (by rfl)) (by decide) (by rfl) (by rfl)) (by rfl) (by rfl) (by rfl) (by rfl)) (evSs_mark (mb := (sRet (mC (.bool false)))) (ev_gdD GD_table_of len_table_of (hr.mono (by omega)) hG rfl passX (evA_cons (evO_val (ev_var rfl (by first | exact .inl rfl | exact .inr (.inl rfl) | exact .inr (.inr rfl)) (by decide) (by decide))) (evA_cons (evO_val (ev_var rfl (by first | exact .inl rfl | exact .inr (.inl rfl) | exact .inr (.inr rfl)) (by decide) (by decide))) (evA_cons (evO_val (ev_var rfl (by first | exact .inl rfl | exact .inr (.inl rfl) | exact .inr (.inr rfl)) (by decide) (by decide))) evA_nil (by rfl)) (by rfl)) (by rfl)) (by decide) (by rfl) (by rfl)) nd rfl (by first | exact .inl rfl | exact .inr rfl) (by rfl) (by first | exact .inl rfl | exact .inr rfl) (by first | exact .inl rfl | exact .inr (.inl rfl) | exact .inr (.inr rfl)) (by decide) (by decide) (evT_not (evT_val (ev_isi kt_tuple rfl (hbn "isinstance" (by decide)) bb_isinstance rfl (hbn "tuple" (by decide)) bb_tuple (by decide) (by decide) (evO_var rfl (by first | exact .inl rfl | exact .inr (.inl rfl) | exact .inr (.inr rfl)) (by decide) (by decide)) (by rfl) (by rfl) (by rfl)) (fun _ => rfl))) (evT_ne hr0 (evO_val (ev_repr hr0 hG rfl (hbn "repr" (by decide)) (evO_var rfl (by first | exact .inl rfl | exact .inr (.inl rfl) | exact .inr (.inr rfl)) (by decide) (by decide)) (by rfl) (by rfl))) (evO_val (ev_repr hr0 hG rfl (hbn "repr" (by decide)) (evO_var rfl (by first | exact .inl rfl | exact .inr (.inl rfl) | exact .inr (.inr rfl)) (by decide) (by decide)) (by rfl) (by rfl))) (by first | rfl | exact nobehind _ (by decide) (by decide))) (evW_or (evT_ne hr0 (evO_val (ev_repr hr0 hG rfl (hbn "repr" (by decide)) (evO_val (ev_gd G_table_of len_table_of (hr.mono (by omega)) hG rfl passX (evA_cons (evO_val (ev_var rfl (by first | exact .inl rfl | exact .inr (.inl rfl) | exact .inr (.inr rfl)) (by decide) (by decide))) (evA_cons (evO_val (ev_var rfl (by first | exact .inl rfl | exact .inr (.inl rfl) | exact .inr (.inr rfl)) (by decide) (by decide))) (evA_cons (evO_val (ev_var rfl (by first | exact .inl rfl | exact .inr (.inl rfl) | exact .inr (.inr rfl)) (by decide) (by decide))) evA_nil (by rfl)) (by rfl)) (by rfl)) (by decide) (by rfl) (by rfl))) (by rfl) (by rfl))) (evO_val (ev_repr hr0 hG rfl (hbn "repr" (by decide)) (evO_var rfl (by first | exact .inl rfl | exact .inr (.inl rfl) | exact .inr (.inr rfl)) (by decide) (by decide)) (by rfl) (by rfl))) (by first | rfl | exact nobehind _ (by decide) (by decide))) (evW_or1 (evT_ne hr0 (evO_val (ev_repr hr0 hG rfl (hbn "repr" (by decide)) (evO_val (ev_fz (evN_lst (evA_cons (evO_val (ev_var rfl (by first | exact .inl rfl | exact .inr (.inl rfl) | exact .inr (.inr rfl)) (by decide) (by decide))) (evA_cons (evO_val (ev_var rfl (by first | exact .inl rfl | exact .inr (.inl rfl) | exact .inr (.inr rfl)) (by decide) (by decide))) evA_nil (by rfl)) (by rfl))))) (by rfl) (by rfl))) (evO_var rfl (by first | exact .inl rfl | exact .inr (.inl rfl) | exact .inr (.inr rfl)) (by decide) (by decide)) (by first | rfl | exact nobehind _ (by decide) (by decide))))) (evSs_one (evS_ret ev_bl)) (evSs_one (evS_if (evT_w (evW_and (evT_eq hr0 (evO_var rfl (by first | exact .inl rfl | exact .inr (.inl rfl) | exact .inr (.inr rfl)) (by decide) (by decide)) (evO_val ev_int) (by first | rfl | exact nobehind _ (by decide) (by decide))) (evW_and1 (evT_not (evT_val (ev_gdL G__law_refused_right len__law_refused_right (hr.mono (by omega)) hG rfl passX (evA_cons (evO_var rfl (by first | exact .inl rfl | exact .inr (.inl rfl) | exact .inr (.inr rfl)) (by decide) (by decide)) (evA_cons (evO_val (ev_var rfl (by first | exact .inl rfl | exact .inr (.inl rfl) | exact .inr (.inr rfl)) (by decide) (by decide))) evA_nil (by rfl)) (by rfl)) (by decide) (by rfl) (by rfl)) (fun _ => rfl)))))) (evSs_one (evS_ret ev_bl)) evSs_nil)) G__law_marked (hr.mono (by omega)) hG rfl passX (by decide) (by rfl) (by rfl) (fun _ => rfl)))))) (fun _ => rfl)) (evSs_cons (evS_set nd rfl (by first | exact .inl rfl | exact .inr rfl) (ev_gdK G_table_of len_table_of (hr.mono (by omega)) hG rfl passX (evK_cons (evO_val (ev_tup (evA_cons (evO_val ev_str) (evA_cons (evO_val ev_int) (evA_cons (evO_val ev_int) (evA_cons (evO_val ev_non) (evA_cons (evO_val (ev_tup (evA_cons (evO_val ev_str) evA_nil (by rfl)))) (evA_cons (evO_val (ev_tup (evA_cons (evO_val ev_str) evA_nil (by rfl)))) (evA_cons (evO_val (ev_fz (evN_lst evA_nil))) evA_nil (by rfl)) (by rfl)) (by rfl)) (by rfl)) (by rfl)) (by rfl)) (by rfl)))) (evK_cons (evO_val ev_int) (evK_cons (evO_val (ev_fz (evN_lst (evA_cons (evO_val (ev_tup (evA_cons (evO_val ev_int) (evA_cons (evO_val ev_int) (evA_cons (evO_val ev_int) (evA_cons (evO_val (ev_fz (evN_lst (evA_cons (evO_val ev_int) evA_nil (by rfl))))) evA_nil (by rfl)) (by rfl)) (by rfl)) (by rfl)))) (evA_cons (evO_val (ev_tup (evA_cons (evO_val ev_int) (evA_cons (evO_val ev_int) (evA_cons (evO_val ev_int) (evA_cons (evO_val (ev_fz (evN_lst evA_nil))) evA_nil (by rfl)) (by rfl)) (by rfl)) (by rfl)))) (evA_cons (evO_val (ev_tup (evA_cons (evO_val ev_int) (evA_cons (evO_val ev_int) (evA_cons (evO_val ev_int) (evA_cons (evO_val (ev_fz (evN_lst (evA_cons (evO_val ev_int) evA_nil (by rfl))))) evA_nil (by rfl)) (by rfl)) (by rfl)) (by rfl)))) evA_nil (by rfl)) (by rfl)) (by rfl))))) evK_nil))) (by rfl) (by rfl) (by decide) (by rfl)) (by rfl) (by first | exact .inl rfl | exact .inr rfl)) (evSs_one (evS_ret (ev_and (ev_eq hr0 (evO_var rfl (by first | exact .inl rfl | exact .inr (.inl rfl) | exact .inr (.inr rfl)) (by decide) (by decide)) (evO_val (ev_tup (evA_cons (evO_val (ev_fz (evN_lst (evA_cons (evO_val ev_int) (evA_cons (evO_val ev_int) (evA_cons (evO_val ev_int) evA_nil (by rfl)) (by rfl)) (by rfl))))) (evA_cons (evO_val (ev_fz (evN_lst (evA_cons (evO_val (ev_tup (evA_cons (evO_val ev_int) (evA_cons (evO_val ev_int) evA_nil (by rfl)) (by rfl)))) evA_nil (by rfl))))) evA_nil (by rfl)) (by rfl)))) (by first | rfl | exact nobehind _ (by decide) (by decide))) (ev_and (ev_eq hr0 (evO_val (ev_gd G_table_of len_table_of (hr.mono (by omega)) hG rfl passX (evA_cons (evO_val (ev_tup (evA_cons (evO_val ev_str) evA_nil (by rfl)))) (evA_cons (evO_val ev_int) (evA_cons (evO_val (ev_fz (evN_lst evA_nil))) evA_nil (by rfl)) (by rfl)) (by rfl)) (by decide) (by rfl) (by rfl))) (evO_val (ev_tup (evA_cons (evO_val (ev_fz (evN_lst (evA_cons (evO_val ev_int) evA_nil (by rfl))))) (evA_cons (evO_val (ev_fz (evN_lst evA_nil))) evA_nil (by rfl)) (by rfl)))) (by first | rfl | exact nobehind _ (by decide) (by decide))) (ev_one (ev_eq hr0 (evO_val (ev_gd G_table_of len_table_of (hr.mono (by omega)) hG rfl passX (evA_cons (evO_val (ev_tup (evA_cons (evO_val ev_str) evA_nil (by rfl)))) (evA_cons (evO_val ev_int) (evA_cons (evO_val (ev_fz (evN_lst (evA_cons (evO_val (ev_tup (evA_cons (evO_val ev_int) (evA_cons (evO_val ev_int) (evA_cons (evO_val ev_int) (evA_cons (evO_val (ev_fz (evN_lst (evA_cons (evO_val ev_int) evA_nil (by rfl))))) evA_nil (by rfl)) (by rfl)) (by rfl)) (by rfl)))) evA_nil (by rfl))))) evA_nil (by rfl)) (by rfl)) (by rfl)) (by decide) (by rfl) (by rfl))) (evO_val (ev_tup (evA_cons (evO_val (ev_fz (evN_rep (evN_lst (evA_cons (evO_val ev_int) evA_nil (by rfl))) ev_int))) (evA_cons (evO_val (ev_fz (evN_lst (evA_cons (evO_val (ev_tup (evA_cons (evO_val ev_int) (evA_cons (evO_val ev_int) evA_nil (by rfl)) (by rfl)))) evA_nil (by rfl))))) evA_nil (by rfl)) (by rfl)))) (by first | rfl | exact nobehind _ (by decide) (by decide))))))))))
end
end K79
end

section
set_option Elab.async false
set_option linter.all false
set_option maxRecDepth 100000
set_option maxHeartbeats 0
/-! H79: the head of k79 with facts. -/
namespace K79
open PySem PySem.Spec PyProof.Rows L2 EV

def dF (x : Str) (i : Nat) : He.DefD := ⟨(x, none), x, x, defArgs (top i), defBody (top i), defScope (top i), [], []⟩
def fn : List He.DefD := [dF "is_whole" 9, dF "is_count" 10, dF "is_between" 11, dF "is_side" 12, dF "are_rallies" 13, dF "is_word" 14, dF "is_order" 15, dF "are_numbers_of_race" 16, dF "is_score" 17, dF "is_special" 18, dF "are_specials" 19, dF "is_rule_within" 20, dF "is_rule" 21, dF "check_rule" 22, dF "unit_of" 24, dF "begun" 25, dF "is_won" 26, dF "next_turn" 27, dF "led_race" 28, dF "led" 29, dF "led_by" 30, dF "is_match" 32, dF "table_of" 33, dF "_law_hash" 35, dF "_law_random" 36, dF "_law_cell" 37, dF "_law_generator" 38, dF "_law_pick" 39, dF "_law_marked" 40, dF "_law_order" 41, dF "_law_unit" 42, dF "_law_over" 43, dF "_law_first_turn" 44, dF "_law_start" 45, dF "_law_step" 46, dF "_law_played" 47, dF "_law_match" 48, dF "_law_wrong_rules" 49, dF "_law_small_rule" 50, dF "_law_caught" 51, dF "_law_refuses" 52, dF "_law_day" 53, dF "_law_due_table" 54, dF "_law_refused_right" 55, dF "law" 56]
def faG : List He.Fa := [.glo "is_whole", .glo "is_count", .glo "is_between", .glo "is_side", .glo "are_rallies", .glo "is_word", .glo "is_order", .glo "are_numbers_of_race", .glo "is_score", .glo "is_special", .glo "are_specials", .glo "is_rule_within", .glo "is_rule", .glo "check_rule", .glo "unit_of", .glo "begun", .glo "is_won", .glo "next_turn", .glo "led_race", .glo "led", .glo "led_by", .glo "is_match", .glo "table_of", .glo "_law_hash", .glo "_law_random", .glo "_law_cell", .glo "_law_generator", .glo "_law_pick", .glo "_law_marked", .glo "_law_order", .glo "_law_unit", .glo "_law_over", .glo "_law_first_turn", .glo "_law_start", .glo "_law_step", .glo "_law_played", .glo "_law_match", .glo "_law_wrong_rules", .glo "_law_small_rule", .glo "_law_caught", .glo "_law_refuses", .glo "_law_day", .glo "_law_due_table", .glo "_law_refused_right", .glo "law", .glo "ORDERS", .glo "ScoreError", .glo "InvalidTable", .glo "InvalidNumber", .glo "InvalidDay", .glo "InvalidRule"]
def faF : List He.Fa := [.free "len", .free "max", .free "min", .free "abs", .free "sum", .free "repr", .free "sorted", .free "isinstance", .free "int", .free "bool", .free "str", .free "list", .free "tuple", .free "range", .free "enumerate", .free "super", .int "DEEPEST" 4]
def fa : List He.Fa := faG ++ faF
def tf : List (Str × Option Str) := [("_law_refused_right", none)]
/-- an own error class over ValueError, seen as a Bool -/
def oexB (K : PySem.W.Frag) (C : Addr) : Bool := match K.lookup C with
  | some ⟨.type "type", _, .cls cd, sl⟩ => (match cd.mro, sl.toList with
    | .ref C' :: bm, [_, _, _, _, some (.builtin n), _] => C' == C && n == "ValueError.__new__" && !cd.hasDel && cd.hasDict && PySem.HandSPX.refsVE bm
    | _, _ => false)
  | _ => false
theorem oexB_ok {K : PySem.W.Frag} {C : Addr} (h : oexB K C = true) : ∃ nm q N bs bm sn sub ab col dd k0 k1 k2 k3 k5, K.lookup C = some (excClassObj nm q C N bs bm true sn sub ab col dd k0 k1 k2 k3 k5 "ValueError.__new__") ∧ PySem.HandSPX.refsVE bm = true := by
  unfold oexB at h
  split at h
  · rename_i dd cd sl lk
    split at h
    · rename_i C' bm a0 a1 a2 a3 n a5 em es
      simp only [Bool.and_eq_true, beq_iff_eq, Bool.not_eq_true'] at h
      obtain ⟨⟨⟨⟨e1, e2⟩, e3⟩, e4⟩, e5⟩ := h
      obtain ⟨nm, bs, mro, ns, qn, hd, sn, sub, ab, col, del⟩ := cd
      obtain ⟨l⟩ := sl
      dsimp only at em e3 e4 es
      subst em e3 e4 es e1 e2
      exact ⟨nm, qn, ns, bs, bm, sn, sub, ab, col, dd, a0, a1, a2, a3, a5, lk, e5⟩
    · cases h
  · cases h
/-- the class of the name x: all that is asked of it, but its __init__'s text -/
@[irreducible] def clsB (K : PySem.W.Frag) (x q : Str) : Bool :=
  let C := He.ga K x
  let fI := He.ma K C "__init__"
  oexB K C && He.eqO (PySem.W.findIn K (.ref C) "__setattr__") (some (some (.builtin "object.__setattr__"))) && decide (PySem.W.subIn K (.ref C) (.type "BaseException") = some true) && decide (PySem.W.typeIn K (.ref C) = some (.type "type")) && PySem.W.keepIn K (.ref C) &&
  (He.eqO (PySem.W.findIn K (.ref C) "value") (some none) && He.eqO (PySem.W.findIn K (.ref C) "__init__") (some (some (.ref fI))) && decide (PySem.W.typeIn K (.ref fI) = some (.type "function")) &&
  decide (PySem.W.mroIn K C (.ref C) = some true) && decide (PySem.W.subIn K (.ref C) (.type "ValueError") = some true) && He.eqO (PySem.W.ks_superIn K C C "__init__") (some (some (.builtin "ValueError.__init__")))) &&
  (He.eqO (PySem.W.findIn K (.ref C) "__getattribute__") (some (some (.builtin "BaseException.__getattribute__"))) && He.eqO (PySem.W.findIn K (.ref C) "__getattr__") (some none) && PySem.W.hasDictIn K C &&
  He.eqO (PySem.W.findIn K (.ref C) "__class__") (some (some (.builtin "object.__class__"))) && decide (PySem.W.mroIn K C (.type "object") = some true) && decide (PySem.W.exmOne K (.ref C) (.ref (He.ga K "ScoreError")) = some true)) &&
  (match K.lookup fI with
  | some ⟨_, _, .func fd, _⟩ => (match fd.closure, fd.code with
    | [(n, cc)], .ref cda => decide (n = "__class__") && PySem.W.codeIn K (.ref cda) q && (match fd.defaults with
      | .ref T => (match K.lookup T with
        | some ⟨_, _, .seq its _, _⟩ => (match its.toList with
          | [Value.none] => true
          | _ => false)
        | _ => false)
      | _ => false) && (match K.lookup cc with
      | some ⟨_, _, .cell (some (.ref C')), _⟩ => C' == C
      | _ => false) && (match K.lookup cda with
      | some ⟨_, _, .fields vs, _⟩ => (match (vs[2]? : Option Value) with
        | some (Value.str file _) => (PySem.Challenge.pw_anyserve_k79_tables_of_days.main.file : Str) == file
        | _ => false)
      | _ => false)
    | _, _ => false)
  | _ => false)
def errL : List (Str × Str × Nat) := [("InvalidTable", "InvalidTable.__init__", 5), ("InvalidNumber", "InvalidNumber.__init__", 3), ("InvalidDay", "InvalidDay.__init__", 4), ("InvalidRule", "InvalidRule.__init__", 2)]
@[irreducible] def clsAll (K : PySem.W.Frag) : Bool := errL.all fun e => clsB K e.1 e.2.1
@[irreducible] def kitAll (K : PySem.W.Frag) : Bool := errL.all fun e => errL.all fun e' => decide (PySem.W.kitOne K (.ref (He.ga K e.1)) (.ref (He.ga K e'.1)) = some (decide (e.1 = e'.1)))
@[irreducible] def exB (K : PySem.W.Frag) : Bool := clsAll K &&
  decide (PySem.W.specialIn K (.builtin "object.__class__") "__get__" = some (some (.builtin "getset_descriptor.__get__"))) && decide (PySem.W.takesIn K (.builtin "object.__class__") = some true) &&
  He.eqO (PySem.W.nsIn K cStatics "thirdparty.any") (some none) && kitAll K &&
  He.lstB K "ORDERS" [.str "on", .str "turns", .str "winner", .str "loser"]
/-- what the Hook looks at: what the module's names reach, and the interpreter's statics -/
def asY (g : Addr → Option Obj) : List Addr := He.asD g 6 ++ [cStatics]
def KY (g : Addr → Option Obj) : PySem.W.Frag := He.frT g (asY g)
abbrev FnI : Type := Option (Str × Str × Arguments × FuncBody × Scope × Addr × Addr)
def fnI (K : PySem.W.Frag) (x : Str) : FnI := match K.lookup (He.ma K (He.ga K x) "__init__") with
  | some ⟨_, _, .func fd, _⟩ => some (fd.name, fd.qualname, fd.params, fd.body, fd.scope, fd.globals, fd.builtins)
  | _ => none
abbrev sI (i : Nat) : Stmt := inClass (top i) 0
def valI (q : Str) (i : Nat) : FnI := some ("__init__", q, defArgs (sI i), .stmts (defBody (sI i)), defScope (sI i), mainGlobals, builtinsNs)
abbrev AlY : Type := He.AlT × Bool × List FnI
def obsY (g : Addr → Option Obj) : AlY := (He.obsT fa fn [] (KY g), exB (KY g) && He.tabsB g tf (KY g), errL.map fun e => fnI (KY g) e.1)
def valY (w : World) : AlY := (He.valT fn [] w, true, errL.map fun e => valI e.2.1 e.2.2)
structure SaysY (w : World) (h : Heap) (K : PySem.W.Frag) : Prop where
  t : He.SaysT fa fn [] w K
  ex : exB K = true
  hd : PySem.W.codeHdIn K (He.cT K ("_law_refused_right", none)).1 (He.cT K ("_law_refused_right", none)).2 = true
  out : K.lookup (He.cT K ("_law_refused_right", none)).2 = none
  empty : h.get? (He.cT K ("_law_refused_right", none)).2 = some { cls := .none, data := .fields #[] }
  is : ∀ e ∈ errL, fnI K e.1 = valI e.2.1 e.2.2
theorem saysY_of {w : World} {h : Heap} (e : obsY h.get? = valY w) : SaysY w h (KY h.get?) := by
  have e1 : He.obsT fa fn [] (KY h.get?) = He.valT fn [] w := congrArg (fun z : AlY => z.1) e
  have e2 : (exB (KY h.get?) && He.tabsB h.get? tf (KY h.get?)) = true := congrArg (fun z : AlY => z.2.1) e
  have e3 : (errL.map fun e => fnI (KY h.get?) e.1) = errL.map fun e => valI e.2.1 e.2.2 := congrArg (fun z : AlY => z.2.2) e
  obtain ⟨b1, b2⟩ := He.ba e2
  have c1 := List.map_inj_left.mp e3
  have b3 := List.all_eq_true.mp b2 ("_law_refused_right", none) List.mem_cons_self
  obtain ⟨d1, d2⟩ := He.ba b3
  cases q : h.get? (He.cT (KY h.get?) ("_law_refused_right", none)).2 with
  | none => rw [q] at d2; cases d2
  | some o =>
    rw [q] at d2
    exact ⟨e1, b1, d1, He.frT_none q d2, by rw [q, He.emptyTab_eq d2], c1⟩
def hk : PySem.W.Hook where
  α := AlY
  obs := fun s => obsY s.heap.get?
  val := valY
  says := fun w h => ∃ K : PySem.W.Frag, K.In h ∧ SaysY w h K
  of := fun _ _ e => ⟨_, He.frT_in, saysY_of e⟩
  keeps := fun _ _ _ ⟨K, hK, c⟩ k => ⟨K, PySem.W.Frag.In.keeps hK k, ⟨c.t, c.ex, c.hd, c.out, k _ _ c.empty, c.is⟩⟩
abbrev R : PySem.W.OpenRow := PySem.W.OpenLaw.row PySem.Challenge.rw_anyserve_k79_tables_of_days
def ob (s : PySem.W.SharedT) : AlY := obsY (HandSHeadRun.getT s)
theorem ob_eq (s : PySem.W.SharedT) : ob s = hk.obs s.abs := by
  have e : HandSHeadRun.getT s = s.abs.heap.get? := funext (HandSHeadRun.getT_eq s)
  unfold ob
  rw [e]
  rfl
end K79
end

section
set_option Elab.async false
set_option linter.all false
set_option maxRecDepth 100000
set_option maxHeartbeats 0
/-! H79r: the run of the top. -/
namespace K79
open PySem PySem.Spec PyProof.Rows L2 EV
def loose1 : List Str := ["ScoreError", "InvalidRule", "InvalidNumber", "InvalidDay", "InvalidTable", "ORDERS", "DEEPEST", "is_whole", "is_count", "is_between", "is_side", "are_rallies", "is_word", "is_order", "are_numbers_of_race", "is_score", "is_special", "are_specials", "is_rule_within", "is_rule", "check_rule", "unit_of", "begun", "is_won", "next_turn", "led_race"]
def loose2 : List Str := ["led", "led_by", "is_match", "table_of", "_law_hash", "_law_random", "_law_cell", "_law_generator", "_law_pick", "_law_marked", "_law_order", "_law_unit", "_law_over", "_law_first_turn", "_law_start", "_law_step", "_law_played", "_law_match", "_law_wrong_rules", "_law_small_rule", "_law_caught", "_law_refuses", "_law_day", "_law_due_table", "_law_refused_right"]
theorem run (w : World) : HandSHeadRun.RunEq R (PySem.W.view R.prog [56]) hk ob 6000 (loose1 ++ loose2) w := by
  intro os
  kernel_rfl
end K79
end

section
set_option Elab.async false
set_option linter.all false
set_option maxRecDepth 100000
set_option maxHeartbeats 4000000
/-! A79a: the facts of the head in the rules' words. -/
namespace K79
open PySem PySem.Spec PyProof.Rows L2 LamX EV
section
variable {w : World} {K : PySem.W.Frag} {h base : Heap} {mg : Str → Option Value}
theorem fun_of (c : He.SaysD fa fn K) {x : Str} {i : Nat} (hm : dF x i ∈ fn) : ∃ fd, Fun K x x (top i) (He.ga K x) fd := by
  obtain ⟨fd, ⟨oc, od, dV, kV, doc, pm, an, cdv, ct, osl, e, lk, cd, dv, _⟩, kp⟩ := He.SaysD.defs c hm
  have e0 : dV = .none := by
    rcases dv with z | z
    · first | exact z | exact z.2 | exact z.1
    · exact absurd rfl z.1
  subst e0
  exact ⟨fd, ⟨oc, od, kV, doc, pm, an, cdv, ct, osl, e, lk, cd⟩, kp⟩
abbrev P79 : Program := PySem.Challenge.pw_anyserve_k79_tables_of_days
def PtA (K : PySem.W.Frag) : Addr := (He.cT K ("_law_refused_right", none)).2
def coA (K : PySem.W.Frag) : Addr := (He.cT K ("_law_refused_right", none)).1
def ecA (K : PySem.W.Frag) : EC := ⟨fun c => if c = 0 then He.ga K "InvalidTable" else if c = 1 then He.ga K "InvalidNumber" else if c = 2 then He.ga K "InvalidDay" else He.ga K "InvalidRule", [(PtA K, "_law_refused_right.<locals>.<lambda>")]⟩
/-- what clsB tells -/
structure ClsF (K : PySem.W.Frag) (C fI : Addr) (q : Str) : Prop where
  oex : OexC K C
  noV : PySem.W.findIn K (.ref C) "value" = some none
  ini : PySem.W.findIn K (.ref C) "__init__" = some (some (.ref fI))
  iTy : PySem.W.typeIn K (.ref fI) = some (.type "function")
  sub : PySem.W.mroIn K C (.ref C) = some true
  subV : PySem.W.subIn K (.ref C) (.type "ValueError") = some true
  sup : PySem.W.ks_superIn K C C "__init__" = some (some (.builtin "ValueError.__init__"))
  ga : PySem.W.findIn K (.ref C) "__getattribute__" = some (some (.builtin "BaseException.__getattribute__"))
  gg : PySem.W.findIn K (.ref C) "__getattr__" = some none
  hd : PySem.W.hasDictIn K C = true
  cl : PySem.W.findIn K (.ref C) "__class__" = some (some (.builtin "object.__class__"))
  ob : PySem.W.mroIn K C (.type "object") = some true
  exm : PySem.W.exmOne K (.ref C) (.ref (He.ga K "ScoreError")) = some true
  fn : ∃ (oc : Value) (od : Option Addr) (fd : FuncData) (osl : Array (Option Value)) (cc cda : Addr) (cl : Value) (cld : Option Addr) (csl : Array (Option Value)) (ccl : Value) (cdd : Option Addr) (vs : Array Value) (ccs : Array (Option Value)) (file : Str) (tf : Tok) (T : Addr) (tc : Value) (td : Option Addr) (tn : Nat) (tsl : Array (Option Value)),
    K.lookup fI = some ⟨oc, od, .func fd, osl⟩ ∧ fd.defaults = .ref T ∧ K.lookup T = some ⟨tc, td, .seq #[Value.none] tn, tsl⟩ ∧ fd.closure = [(("__class__" : Str), cc)] ∧ fd.code = .ref cda ∧ PySem.W.codeIn K (.ref cda) q = true ∧ K.lookup cc = some ⟨cl, cld, .cell (some (.ref C)), csl⟩ ∧ K.lookup cda = some ⟨ccl, cdd, .fields vs, ccs⟩ ∧ vs[2]? = some (.str file tf) ∧ ((P79.main.file : Str) == file) = true
theorem cls_of {x q : Str} (c : clsB K x q = true) : ClsF K (He.ga K x) (He.ma K (He.ga K x) "__init__") q := by
  unfold clsB at c
  simp only [Bool.and_eq_true, decide_eq_true_eq] at c
  obtain ⟨⟨⟨⟨⟨⟨⟨a1, a2⟩, a3⟩, a4⟩, a5⟩, ⟨⟨⟨⟨⟨b1, b2⟩, b3⟩, b4⟩, b5⟩, b6⟩⟩, ⟨⟨⟨⟨⟨d1, d2⟩, d3⟩, d4⟩, d5⟩, d6⟩⟩, e⟩ := c
  refine ⟨⟨oexB_ok a1, He.eqO_ok a2, a3, a4, a5⟩, He.eqO_ok b1, He.eqO_ok b2, b3, b4, b5, He.eqO_ok b6, He.eqO_ok d1, He.eqO_ok d2, d3, He.eqO_ok d4, d5, d6, ?_⟩
  split at e
  · rename_i oc od fd osl lk
    split at e
    · rename_i n cc cda e1 e2
      rw [Bool.and_eq_true, Bool.and_eq_true, Bool.and_eq_true, Bool.and_eq_true] at e
      obtain ⟨⟨⟨⟨e3, e4⟩, e7⟩, e5⟩, e6⟩ := e
      have e3 := of_decide_eq_true e3
      subst e3
      split at e5
      · rename_i cl cld C' csl lc
        have e5 := beq_iff_eq.mp e5
        subst e5
        split at e6
        · rename_i ccl cdd vs ccs ld
          split at e6
          · rename_i file tf hv
            split at e7
            · rename_i T hT
              split at e7
              · rename_i tc td its tn tsl lt
                split at e7
                rotate_left
                · cases e7
                rename_i hits
                have ei : its = #[Value.none] := by
                  obtain ⟨l⟩ := its
                  have hits : l = [Value.none] := hits
                  rw [hits]
                subst ei
                exact ⟨oc, od, fd, osl, cc, cda, cl, cld, csl, ccl, cdd, vs, ccs, file, tf, T, tc, td, tn, tsl, lk, hT, lt, e1, e2, e4, lc, ld, hv, e6⟩
              · cases e7
            · cases e7
          · cases e6
        · cases e6
      · cases e5
    · cases e
  · cases e
theorem ge_of {x q : Str} {C i : Nat} {k : Nat} {A : Addr} (hA : (ecA K).ad C = He.ga K x) (F : ClsF K (He.ga K x) (He.ma K (He.ga K x) "__init__") q) (hi : fnI K x = valI q i) (third : PySem.W.nsIn K cStatics "thirdparty.any" = some none) (hm : mg x = some (.ref (He.ga K x))) (hsup : mg "super" = none)
    (htxt : ∃ p0 p1 p2 p3 p4 p5 p6 p7 p8 p9, defBody (sI i) = ivBody p0 p1 p2 p3 p4 p5 p6 p7 p8 p9 ∧ ∀ env : Env, ∃ pl : Sem Bool, eval (.Call (.Attribute (.Call (.Name "super" p0) [] [] p1) "__init__" p2) [.Name "value" p3] [] p4) env = (do
      let ov ← attributeBase (.Call (.Name "super" p0) [] [] p1) "__init__" env (eval (.Call (.Name "super" p0) [] [] p1) env)
      standAt p2.atName
      let (f, first) ← holding [ov] (getMethod ov "__init__" pl)
      callWith p4 f first (backTo p4 (starEach [.Name "value" p3] env)) [])) (hsc : defScope (sI i) = ivScope) (hhd : ∃ pp, ((defArgs (sI i)).posonlyargs ++ (defArgs (sI i)).args).head? = some { arg := "self", annotation := none, pos := pp })
    (hbd : ∀ (T : Addr) (kV doc pm : Value) (an : Option Addr) (cda cc : Addr) (ct : Value) (us : List Value), us.length = 2 → ∃ kk, bindArgs (PySem.W.ksFn "__init__" q (defArgs (sI i)) (defBody (sI i)) (defScope (sI i)) (.ref T) kV doc pm an (.ref cda) ct cc) ⟨us, []⟩ = PySem.seqItems? (.ref T) >>= kk ∧ kk (some #[Value.none]) = pure (([("self" : Str), "value"] : List Str).zip us)) :
    GE P79 w K mg base (ecA K) x C k := by
  obtain ⟨oc, od, fd, osl, cc, cda, cl, cld, csl, ccl, cdd, vs, ccs, file, tf, T, tc, td, tn, tsl, lk, hT, lt, e1, e2, e4, lc, ld, hv, hf⟩ := F.fn
  obtain ⟨p0, p1, p2, p3, p4, p5, p6, p7, p8, p9, hb, hc⟩ := htxt
  have hfd : ∃ kV doc pm an ct, fd = PySem.W.ksFn "__init__" q (defArgs (sI i)) (defBody (sI i)) (defScope (sI i)) (.ref T) kV doc pm an (.ref cda) ct cc := by
    unfold fnI valI at hi
    rw [lk] at hi
    obtain ⟨n1, n2, n3, n4, n5, n6, n7, n8, n9, n10, n11, n12, n13, n14, n15⟩ := fd
    simp only [Option.some.injEq, Prod.mk.injEq] at hi
    obtain ⟨h1, h2, h3, h4, h5, h6, h7⟩ := hi
    dsimp only at e1 e2 hT
    subst h1 h2 h3 h4 h5 h6 h7 e1 e2 hT
    exact ⟨n9, n10, n11, n12, n14, rfl⟩
  obtain ⟨kV, doc, pm, an, ct, rfl⟩ := hfd
  refine ⟨by rw [hA]; exact F.oex, by rw [hA]; exact hm, He.ma K (He.ga K x) "__init__", PySem.W.ksFn "__init__" q (defArgs (sI i)) (defBody (sI i)) (defScope (sI i)) (.ref T) kV doc pm an (.ref cda) ct cc, by rw [hA]; exact F.ini, F.iTy, ?_, fun s us KI hl => ?_⟩
  rotate_left
  · rw [List.append_nil] at hl ⊢
    obtain ⟨kk, k1, k2⟩ := hbd T kV doc pm an cda cc ct us hl
    exact PySem.W.binds_K KI rfl lt rfl k1 k2
  rw [hA]
  exact iv_fn (P := P79) (qual := q) (params := defArgs (sI i)) (p0 := p0) (p1 := p1) (p2 := p2) (p3 := p3) (p4 := p4) (p5 := p5) (p6 := p6) (p7 := p7) (p8 := p8) (p9 := p9)
    ⟨F.oex, F.noV, ⟨oc, od, .ref T, kV, doc, pm, an, cda, cc, ct, osl, cl, cld, csl, ccl, cdd, vs, ccs, file, tf, by decide, by rw [hb, hsc], lk, e4, lc, ld, hv, hf⟩, hhd, F.sub, F.subV, F.sup, third, hc, by rfl⟩ hsup
theorem txt5 : ∃ p0 p1 p2 p3 p4 p5 p6 p7 p8 p9, defBody (sI 5) = ivBody p0 p1 p2 p3 p4 p5 p6 p7 p8 p9 ∧ ∀ env : Env, ∃ pl : Sem Bool, eval (.Call (.Attribute (.Call (.Name "super" p0) [] [] p1) "__init__" p2) [.Name "value" p3] [] p4) env = (do
      let ov ← attributeBase (.Call (.Name "super" p0) [] [] p1) "__init__" env (eval (.Call (.Name "super" p0) [] [] p1) env)
      standAt p2.atName
      let (f, first) ← holding [ov] (getMethod ov "__init__" pl)
      callWith p4 f first (backTo p4 (starEach [.Name "value" p3] env)) []) := ⟨_, _, _, _, _, _, _, _, _, _, rfl, fun env => ⟨_, rfl⟩⟩
theorem txt3 : ∃ p0 p1 p2 p3 p4 p5 p6 p7 p8 p9, defBody (sI 3) = ivBody p0 p1 p2 p3 p4 p5 p6 p7 p8 p9 ∧ ∀ env : Env, ∃ pl : Sem Bool, eval (.Call (.Attribute (.Call (.Name "super" p0) [] [] p1) "__init__" p2) [.Name "value" p3] [] p4) env = (do
      let ov ← attributeBase (.Call (.Name "super" p0) [] [] p1) "__init__" env (eval (.Call (.Name "super" p0) [] [] p1) env)
      standAt p2.atName
      let (f, first) ← holding [ov] (getMethod ov "__init__" pl)
      callWith p4 f first (backTo p4 (starEach [.Name "value" p3] env)) []) := ⟨_, _, _, _, _, _, _, _, _, _, rfl, fun env => ⟨_, rfl⟩⟩
theorem txt4 : ∃ p0 p1 p2 p3 p4 p5 p6 p7 p8 p9, defBody (sI 4) = ivBody p0 p1 p2 p3 p4 p5 p6 p7 p8 p9 ∧ ∀ env : Env, ∃ pl : Sem Bool, eval (.Call (.Attribute (.Call (.Name "super" p0) [] [] p1) "__init__" p2) [.Name "value" p3] [] p4) env = (do
      let ov ← attributeBase (.Call (.Name "super" p0) [] [] p1) "__init__" env (eval (.Call (.Name "super" p0) [] [] p1) env)
      standAt p2.atName
      let (f, first) ← holding [ov] (getMethod ov "__init__" pl)
      callWith p4 f first (backTo p4 (starEach [.Name "value" p3] env)) []) := ⟨_, _, _, _, _, _, _, _, _, _, rfl, fun env => ⟨_, rfl⟩⟩
theorem txt2 : ∃ p0 p1 p2 p3 p4 p5 p6 p7 p8 p9, defBody (sI 2) = ivBody p0 p1 p2 p3 p4 p5 p6 p7 p8 p9 ∧ ∀ env : Env, ∃ pl : Sem Bool, eval (.Call (.Attribute (.Call (.Name "super" p0) [] [] p1) "__init__" p2) [.Name "value" p3] [] p4) env = (do
      let ov ← attributeBase (.Call (.Name "super" p0) [] [] p1) "__init__" env (eval (.Call (.Name "super" p0) [] [] p1) env)
      standAt p2.atName
      let (f, first) ← holding [ov] (getMethod ov "__init__" pl)
      callWith p4 f first (backTo p4 (starEach [.Name "value" p3] env)) []) := ⟨_, _, _, _, _, _, _, _, _, _, rfl, fun env => ⟨_, rfl⟩⟩
theorem zeroP {P : Program} {ec : EC} {k n : Nat} {f : Addr} {fd : FuncData} {ps : List Str} {F : List PyData → Option (Except Xn PyData)} (h : ∀ ds, F ds = none) : FnG P w K mg base k f fd ps (spP K ec n F) :=
  ⟨fun vs H Q E ⟨_, ds, _, _, _, _, _, e, _⟩ => (by rw [h ds] at e; cases e), fun _ _ _ _ _ _ vs _ _ _ _ _ _ _ ⟨_, ds, _, _, _, _, _, e, _⟩ => (by rw [h ds] at e; cases e)⟩
theorem zeroL {P : Program} {ec : EC} {k n : Nat} {f : Addr} {fd : FuncData} {ps : List Str} {F : FL} (h : ∀ g ds, F g ds = none) : FnG P w K mg base k f fd ps (spL K ec n F) :=
  ⟨fun vs H Q E ⟨_, _, g, _, ds, _, _, _, _, _, _, _, _, _, _, _, e, _⟩ => (by rw [h g ds] at e; cases e), fun _ _ _ _ _ _ vs _ _ _ _ _ _ _ ⟨_, _, g, _, ds, _, _, _, _, _, _, _, _, _, _, _, e, _⟩ => (by rw [h g ds] at e; cases e)⟩
theorem _root_.EV.GD.mono {P : Program} {x : Str} {j k : Nat} {ps : List Str} {sp : Sp} (G : GD P w K mg base x j ps sp) (h : j ≤ k) : GD P w K mg base x k ps sp :=
  let ⟨f, fd, Fo, r⟩ := G.at_; ⟨f, fd, Fo.mono h, r⟩
section
variable (KX : K.In h) (G : h.Ns mainGlobals mg) (c : SaysY w h K)
include KX G c
theorem hbn_of : ∀ x ∈ bns, mg x = none := fun x hx => by
  refine He.free_ok KX G (He.SaysD.facts c.t.d ?_)
  unfold bns at hx
  unfold fa faF
  simp only [List.mem_cons, List.not_mem_nil, or_false] at hx
  refine List.mem_append_right _ ?_
  rcases hx with rfl | rfl | rfl | rfl | rfl | rfl | rfl | rfl | rfl | rfl | rfl | rfl | rfl | rfl | rfl <;> simp
theorem sup_of : mg "super" = none := He.free_ok KX G (He.SaysD.facts c.t.d (by unfold fa faF; simp))
theorem deepest_of : GC K mg "DEEPEST" D_DEEPEST := by
  obtain ⟨t, ht⟩ := He.int_ok KX G (x := "DEEPEST") (i := 4) (He.SaysD.facts c.t.d (by unfold fa faF; simp))
  exact ⟨.int 4, .int 4 t, ht, ⟨t, rfl⟩, fun H B => .int 4⟩
theorem glo_of {x : Str} (hx : He.Fa.glo x ∈ faG) : mg x = some (.ref (He.ga K x)) := He.glo_ok KX G (He.SaysD.facts c.t.d (List.mem_append_left _ hx))
theorem ex_of : (∀ e ∈ errL, clsB K e.1 e.2.1 = true) ∧ PySem.W.specialIn K (.builtin "object.__class__") "__get__" = some (some (.builtin "getset_descriptor.__get__")) ∧ PySem.W.takesIn K (.builtin "object.__class__") = some true ∧
    PySem.W.nsIn K cStatics "thirdparty.any" = some none ∧ (∀ e ∈ errL, ∀ e' ∈ errL, PySem.W.kitOne K (.ref (He.ga K e.1)) (.ref (He.ga K e'.1)) = some (decide (e.1 = e'.1))) ∧ He.lstB K "ORDERS" [.str "on", .str "turns", .str "winner", .str "loser"] = true := by
  have e := c.ex
  unfold exB clsAll kitAll at e
  simp only [Bool.and_eq_true, decide_eq_true_eq] at e
  obtain ⟨⟨⟨⟨⟨a1, a3⟩, a4⟩, a5⟩, a6⟩, a10⟩ := e
  rw [List.all_eq_true] at a1 a6
  exact ⟨a1, a3, a4, He.eqO_ok a5, fun e he e' he' => of_decide_eq_true (List.all_eq_true.mp (a6 e he) e' he'), a10⟩
theorem orders_of : GC K mg "ORDERS" D_ORDERS := by
  have hl := (ex_of KX G c).2.2.2.2.2
  have hs := He.lstB_ok hl (fun _ => none)
  refine ⟨.ref (He.ga K "ORDERS"), .ref (He.ga K "ORDERS"), glo_of KX G c (by unfold faG; simp), rfl, fun H B => ?_⟩
  rcases hs with (z | ⟨o, z⟩) | z
  · cases z
  · cases z
  · exact .lst (.inr z) (.cons (.str _) (.cons (.str _) (.cons (.str _) (.cons (.str _) .nil))))
theorem err0_of : GE P79 w K mg base (ecA K) "InvalidTable" 0 1 :=
  ge_of (A := 0) rfl (cls_of ((ex_of KX G c).1 _ (List.mem_of_getElem? (show errL[0]? = some (("InvalidTable" : Str), ("InvalidTable.__init__" : Str), (5 : Nat)) from rfl)))) (c.is _ (List.mem_of_getElem? (show errL[0]? = some (("InvalidTable" : Str), ("InvalidTable.__init__" : Str), (5 : Nat)) from rfl))) (ex_of KX G c).2.2.2.1 (glo_of KX G c (by unfold faG; simp)) (sup_of KX G c) txt5 (by rfl) ⟨_, rfl⟩ (fun _ _ _ _ _ _ _ _ us hl => match us, hl with | [_, _], _ => ⟨_, rfl, rfl⟩)
theorem err1_of : GE P79 w K mg base (ecA K) "InvalidNumber" 1 1 :=
  ge_of (A := 0) rfl (cls_of ((ex_of KX G c).1 _ (List.mem_of_getElem? (show errL[1]? = some (("InvalidNumber" : Str), ("InvalidNumber.__init__" : Str), (3 : Nat)) from rfl)))) (c.is _ (List.mem_of_getElem? (show errL[1]? = some (("InvalidNumber" : Str), ("InvalidNumber.__init__" : Str), (3 : Nat)) from rfl))) (ex_of KX G c).2.2.2.1 (glo_of KX G c (by unfold faG; simp)) (sup_of KX G c) txt3 (by rfl) ⟨_, rfl⟩ (fun _ _ _ _ _ _ _ _ us hl => match us, hl with | [_, _], _ => ⟨_, rfl, rfl⟩)
theorem err2_of : GE P79 w K mg base (ecA K) "InvalidDay" 2 1 :=
  ge_of (A := 0) rfl (cls_of ((ex_of KX G c).1 _ (List.mem_of_getElem? (show errL[2]? = some (("InvalidDay" : Str), ("InvalidDay.__init__" : Str), (4 : Nat)) from rfl)))) (c.is _ (List.mem_of_getElem? (show errL[2]? = some (("InvalidDay" : Str), ("InvalidDay.__init__" : Str), (4 : Nat)) from rfl))) (ex_of KX G c).2.2.2.1 (glo_of KX G c (by unfold faG; simp)) (sup_of KX G c) txt4 (by rfl) ⟨_, rfl⟩ (fun _ _ _ _ _ _ _ _ us hl => match us, hl with | [_, _], _ => ⟨_, rfl, rfl⟩)
theorem err3_of : GE P79 w K mg base (ecA K) "InvalidRule" 3 1 :=
  ge_of (A := 0) rfl (cls_of ((ex_of KX G c).1 _ (List.mem_of_getElem? (show errL[3]? = some (("InvalidRule" : Str), ("InvalidRule.__init__" : Str), (2 : Nat)) from rfl)))) (c.is _ (List.mem_of_getElem? (show errL[3]? = some (("InvalidRule" : Str), ("InvalidRule.__init__" : Str), (2 : Nat)) from rfl))) (ex_of KX G c).2.2.2.1 (glo_of KX G c (by unfold faG; simp)) (sup_of KX G c) txt2 (by rfl) ⟨_, rfl⟩ (fun _ _ _ _ _ _ _ _ us hl => match us, hl with | [_, _], _ => ⟨_, rfl, rfl⟩)
theorem errC_of : ∀ i, i < 4 → ErrC K (ecA K) (He.ga K "ScoreError") [(ecA K).ad 0, (ecA K).ad 1, (ecA K).ad 2, (ecA K).ad 3] W_told i := fun i hi => by
  obtain ⟨a1, a3, a4, a5, kt, _⟩ := ex_of KX G c
  have mk : ∀ {x q : Str} {i : Nat}, (ecA K).ad i = He.ga K x → ClsF K (He.ga K x) (He.ma K (He.ga K x) "__init__") q → i < 4 → (∀ (j : Nat) (D : Addr), [(ecA K).ad 0, (ecA K).ad 1, (ecA K).ad 2, (ecA K).ad 3][j]? = some D → PySem.W.kitOne K (.ref (He.ga K x)) (.ref D) = some (decide (j = i))) → ErrC K (ecA K) (He.ga K "ScoreError") [(ecA K).ad 0, (ecA K).ad 1, (ecA K).ad 2, (ecA K).ad 3] W_told i := fun e F hi hk =>
    ⟨by rw [e]; exact F.exm, by rw [e]; exact ⟨F.ga, F.gg, F.oex.exC, F.hd, F.cl, a3, a4, F.ob⟩, by rw [e]; exact ⟨F.ga, F.gg, F.oex.exC, F.hd⟩, by rw [e]; exact F.noV, hi, fun j D hj => by rw [e]; exact hk j D hj, rfl⟩
  match i, hi with
  | 0, _ =>
    refine mk (x := "InvalidTable") rfl (cls_of (a1 _ (List.mem_of_getElem? (show errL[0]? = some (("InvalidTable" : Str), ("InvalidTable.__init__" : Str), (5 : Nat)) from rfl)))) (by decide) fun j D hj => ?_
    match j, hj with
    | 0, hj => cases hj; exact kt _ (List.mem_of_getElem? (show errL[0]? = some (("InvalidTable" : Str), ("InvalidTable.__init__" : Str), (5 : Nat)) from rfl)) _ (List.mem_of_getElem? (show errL[0]? = some (("InvalidTable" : Str), ("InvalidTable.__init__" : Str), (5 : Nat)) from rfl))
    | 1, hj => cases hj; exact kt _ (List.mem_of_getElem? (show errL[0]? = some (("InvalidTable" : Str), ("InvalidTable.__init__" : Str), (5 : Nat)) from rfl)) _ (List.mem_of_getElem? (show errL[1]? = some (("InvalidNumber" : Str), ("InvalidNumber.__init__" : Str), (3 : Nat)) from rfl))
    | 2, hj => cases hj; exact kt _ (List.mem_of_getElem? (show errL[0]? = some (("InvalidTable" : Str), ("InvalidTable.__init__" : Str), (5 : Nat)) from rfl)) _ (List.mem_of_getElem? (show errL[2]? = some (("InvalidDay" : Str), ("InvalidDay.__init__" : Str), (4 : Nat)) from rfl))
    | 3, hj => cases hj; exact kt _ (List.mem_of_getElem? (show errL[0]? = some (("InvalidTable" : Str), ("InvalidTable.__init__" : Str), (5 : Nat)) from rfl)) _ (List.mem_of_getElem? (show errL[3]? = some (("InvalidRule" : Str), ("InvalidRule.__init__" : Str), (2 : Nat)) from rfl))
  | 1, _ =>
    refine mk (x := "InvalidNumber") rfl (cls_of (a1 _ (List.mem_of_getElem? (show errL[1]? = some (("InvalidNumber" : Str), ("InvalidNumber.__init__" : Str), (3 : Nat)) from rfl)))) (by decide) fun j D hj => ?_
    match j, hj with
    | 0, hj => cases hj; exact kt _ (List.mem_of_getElem? (show errL[1]? = some (("InvalidNumber" : Str), ("InvalidNumber.__init__" : Str), (3 : Nat)) from rfl)) _ (List.mem_of_getElem? (show errL[0]? = some (("InvalidTable" : Str), ("InvalidTable.__init__" : Str), (5 : Nat)) from rfl))
    | 1, hj => cases hj; exact kt _ (List.mem_of_getElem? (show errL[1]? = some (("InvalidNumber" : Str), ("InvalidNumber.__init__" : Str), (3 : Nat)) from rfl)) _ (List.mem_of_getElem? (show errL[1]? = some (("InvalidNumber" : Str), ("InvalidNumber.__init__" : Str), (3 : Nat)) from rfl))
    | 2, hj => cases hj; exact kt _ (List.mem_of_getElem? (show errL[1]? = some (("InvalidNumber" : Str), ("InvalidNumber.__init__" : Str), (3 : Nat)) from rfl)) _ (List.mem_of_getElem? (show errL[2]? = some (("InvalidDay" : Str), ("InvalidDay.__init__" : Str), (4 : Nat)) from rfl))
    | 3, hj => cases hj; exact kt _ (List.mem_of_getElem? (show errL[1]? = some (("InvalidNumber" : Str), ("InvalidNumber.__init__" : Str), (3 : Nat)) from rfl)) _ (List.mem_of_getElem? (show errL[3]? = some (("InvalidRule" : Str), ("InvalidRule.__init__" : Str), (2 : Nat)) from rfl))
  | 2, _ =>
    refine mk (x := "InvalidDay") rfl (cls_of (a1 _ (List.mem_of_getElem? (show errL[2]? = some (("InvalidDay" : Str), ("InvalidDay.__init__" : Str), (4 : Nat)) from rfl)))) (by decide) fun j D hj => ?_
    match j, hj with
    | 0, hj => cases hj; exact kt _ (List.mem_of_getElem? (show errL[2]? = some (("InvalidDay" : Str), ("InvalidDay.__init__" : Str), (4 : Nat)) from rfl)) _ (List.mem_of_getElem? (show errL[0]? = some (("InvalidTable" : Str), ("InvalidTable.__init__" : Str), (5 : Nat)) from rfl))
    | 1, hj => cases hj; exact kt _ (List.mem_of_getElem? (show errL[2]? = some (("InvalidDay" : Str), ("InvalidDay.__init__" : Str), (4 : Nat)) from rfl)) _ (List.mem_of_getElem? (show errL[1]? = some (("InvalidNumber" : Str), ("InvalidNumber.__init__" : Str), (3 : Nat)) from rfl))
    | 2, hj => cases hj; exact kt _ (List.mem_of_getElem? (show errL[2]? = some (("InvalidDay" : Str), ("InvalidDay.__init__" : Str), (4 : Nat)) from rfl)) _ (List.mem_of_getElem? (show errL[2]? = some (("InvalidDay" : Str), ("InvalidDay.__init__" : Str), (4 : Nat)) from rfl))
    | 3, hj => cases hj; exact kt _ (List.mem_of_getElem? (show errL[2]? = some (("InvalidDay" : Str), ("InvalidDay.__init__" : Str), (4 : Nat)) from rfl)) _ (List.mem_of_getElem? (show errL[3]? = some (("InvalidRule" : Str), ("InvalidRule.__init__" : Str), (2 : Nat)) from rfl))
  | 3, _ =>
    refine mk (x := "InvalidRule") rfl (cls_of (a1 _ (List.mem_of_getElem? (show errL[3]? = some (("InvalidRule" : Str), ("InvalidRule.__init__" : Str), (2 : Nat)) from rfl)))) (by decide) fun j D hj => ?_
    match j, hj with
    | 0, hj => cases hj; exact kt _ (List.mem_of_getElem? (show errL[3]? = some (("InvalidRule" : Str), ("InvalidRule.__init__" : Str), (2 : Nat)) from rfl)) _ (List.mem_of_getElem? (show errL[0]? = some (("InvalidTable" : Str), ("InvalidTable.__init__" : Str), (5 : Nat)) from rfl))
    | 1, hj => cases hj; exact kt _ (List.mem_of_getElem? (show errL[3]? = some (("InvalidRule" : Str), ("InvalidRule.__init__" : Str), (2 : Nat)) from rfl)) _ (List.mem_of_getElem? (show errL[1]? = some (("InvalidNumber" : Str), ("InvalidNumber.__init__" : Str), (3 : Nat)) from rfl))
    | 2, hj => cases hj; exact kt _ (List.mem_of_getElem? (show errL[3]? = some (("InvalidRule" : Str), ("InvalidRule.__init__" : Str), (2 : Nat)) from rfl)) _ (List.mem_of_getElem? (show errL[2]? = some (("InvalidDay" : Str), ("InvalidDay.__init__" : Str), (4 : Nat)) from rfl))
    | 3, hj => cases hj; exact kt _ (List.mem_of_getElem? (show errL[3]? = some (("InvalidRule" : Str), ("InvalidRule.__init__" : Str), (2 : Nat)) from rfl)) _ (List.mem_of_getElem? (show errL[3]? = some (("InvalidRule" : Str), ("InvalidRule.__init__" : Str), (2 : Nat)) from rfl))
omit G in
theorem code_of {fd : FuncData} (Fu : Fun K "_law_refused_right" "_law_refused_right" (top 55) (He.ga K "_law_refused_right") fd) : fd.code = .ref (coA K) := by
  obtain ⟨oc, od, kV, doc, pm, an, cdv, ct, osl, rfl, lk, hcd⟩ := Fu.ex
  obtain ⟨c', e⟩ := He.codeIn_ref hcd
  subst e
  have z := He.codeOf_eq (K := K) (p := ("_law_refused_right", none)) lk rfl
  show Value.ref c' = .ref (He.codeOf K ("_law_refused_right", none))
  rw [z]
theorem gref_of (tb : TabB base mg (coA K) (PtA K)) {fd1 fd2 : FuncData} (F1 : Fun K "_law_caught" "_law_caught" (top 51) (He.ga K "_law_caught") fd1) (h1 : mg "_law_caught" = some (.ref (He.ga K "_law_caught"))) (F2 : Fun K "_law_refuses" "_law_refuses" (top 52) (He.ga K "_law_refuses") fd2) (h2 : mg "_law_refuses" = some (.ref (He.ga K "_law_refuses"))) :
    GRef K mg base (ecA K) "_law_refused_right.<locals>.<lambda>" (coA K) (PtA K) := by
  have hbn := hbn_of KX G c
  have b1 := F1.binds (ps := ["call"]) fun _ _ _ _ _ _ us hl => match us, hl with | [_], _ => rfl
  have b2 := F2.binds (ps := P_rf) fun _ _ _ _ _ _ us hl => match us, hl with | [_, _, _], _ => rfl
  have k1 := F1.kp
  have k2 := F2.kp
  obtain ⟨oc, od, kV, doc, pm, an, cdv, ct, osl, rfl, lk, hcd⟩ := F1.ex
  obtain ⟨oc2, od2, kV2, doc2, pm2, an2, cdv2, ct2, osl2, rfl, lk2, hcd2⟩ := F2.ex
  refine ⟨⟨_, cdv, _, ⟨⟨_, _, _, _, _, _, _, _, _, _, rfl, lk⟩, hcd, b1, ?_, k1, h1⟩⟩, ⟨_, cdv2, _, ⟨⟨_, _, _, _, _, _, _, _, _, _, rfl, lk2⟩, hcd2, b2, ?_, k2, h2⟩⟩, ⟨He.ga K "ScoreError", glo_of KX G c (by unfold faG; simp), glo_of KX G c (by unfold faG; simp), glo_of KX G c (by unfold faG; simp), glo_of KX G c (by unfold faG; simp), glo_of KX G c (by unfold faG; simp), errC_of KX G c⟩, hbn _ (by decide), hbn _ (by decide), tb, rfl⟩
  · exact ⟨rfl, rfl, rfl, by decide +kernel, rfl, by decide +kernel, by decide +kernel⟩
  · exact ⟨rfl, rfl, rfl, by decide +kernel, rfl, by decide +kernel, by decide +kernel⟩
end
end
end K79
end

section
set_option Elab.async false
set_option linter.all false
set_option maxRecDepth 100000
set_option maxHeartbeats 4000000
/-! A79b: the law's def keeps its meaning, from the facts of the head (printed by wip/gen.py). -/
namespace K79
open PySem PySem.Spec PyProof.Rows L2 LamX EV
section
variable {w : World} {K : PySem.W.Frag} {h base : Heap} {mg : Str → Option Value}

theorem law_gd (KX : K.In h) (G : h.Ns mainGlobals mg) (c : SaysY w h K) (bK : K.In base) (bG : base.Ns mainGlobals mg) (tb : TabB base mg (coA K) (PtA K)) : GD P79 w K mg base "law" 33 P_law (spP K (ecA K) 1 F_law) := by
  have sd := c.t.d
  have hbn := hbn_of KX G c
  have C_DEEPEST := deepest_of KX G c
  have C_ORDERS := orders_of KX G c
  have E_InvalidTable := err0_of (base := base) KX G c
  have E_InvalidNumber := err1_of (base := base) KX G c
  have E_InvalidDay := err2_of (base := base) KX G c
  have E_InvalidRule := err3_of (base := base) KX G c
  obtain ⟨fd_is_whole, Fu_is_whole⟩ := fun_of sd (x := "is_whole") (i := 9) (List.mem_of_getElem? (show fn[0]? = some (dF "is_whole" 9) from rfl))
  have hm_is_whole : mg "is_whole" = some (.ref (He.ga K "is_whole")) := He.glo_ok KX G (He.SaysD.facts sd (List.mem_of_getElem? (show fa[0]? = some (.glo "is_whole") from rfl)))
  obtain ⟨fd_is_count, Fu_is_count⟩ := fun_of sd (x := "is_count") (i := 10) (List.mem_of_getElem? (show fn[1]? = some (dF "is_count" 10) from rfl))
  have hm_is_count : mg "is_count" = some (.ref (He.ga K "is_count")) := He.glo_ok KX G (He.SaysD.facts sd (List.mem_of_getElem? (show fa[1]? = some (.glo "is_count") from rfl)))
  obtain ⟨fd_is_between, Fu_is_between⟩ := fun_of sd (x := "is_between") (i := 11) (List.mem_of_getElem? (show fn[2]? = some (dF "is_between" 11) from rfl))
  have hm_is_between : mg "is_between" = some (.ref (He.ga K "is_between")) := He.glo_ok KX G (He.SaysD.facts sd (List.mem_of_getElem? (show fa[2]? = some (.glo "is_between") from rfl)))
  obtain ⟨fd_is_side, Fu_is_side⟩ := fun_of sd (x := "is_side") (i := 12) (List.mem_of_getElem? (show fn[3]? = some (dF "is_side" 12) from rfl))
  have hm_is_side : mg "is_side" = some (.ref (He.ga K "is_side")) := He.glo_ok KX G (He.SaysD.facts sd (List.mem_of_getElem? (show fa[3]? = some (.glo "is_side") from rfl)))
  obtain ⟨fd_are_rallies, Fu_are_rallies⟩ := fun_of sd (x := "are_rallies") (i := 13) (List.mem_of_getElem? (show fn[4]? = some (dF "are_rallies" 13) from rfl))
  have hm_are_rallies : mg "are_rallies" = some (.ref (He.ga K "are_rallies")) := He.glo_ok KX G (He.SaysD.facts sd (List.mem_of_getElem? (show fa[4]? = some (.glo "are_rallies") from rfl)))
  obtain ⟨fd_is_word, Fu_is_word⟩ := fun_of sd (x := "is_word") (i := 14) (List.mem_of_getElem? (show fn[5]? = some (dF "is_word" 14) from rfl))
  have hm_is_word : mg "is_word" = some (.ref (He.ga K "is_word")) := He.glo_ok KX G (He.SaysD.facts sd (List.mem_of_getElem? (show fa[5]? = some (.glo "is_word") from rfl)))
  obtain ⟨fd_is_order, Fu_is_order⟩ := fun_of sd (x := "is_order") (i := 15) (List.mem_of_getElem? (show fn[6]? = some (dF "is_order" 15) from rfl))
  have hm_is_order : mg "is_order" = some (.ref (He.ga K "is_order")) := He.glo_ok KX G (He.SaysD.facts sd (List.mem_of_getElem? (show fa[6]? = some (.glo "is_order") from rfl)))
  obtain ⟨fd_are_numbers_of_race, Fu_are_numbers_of_race⟩ := fun_of sd (x := "are_numbers_of_race") (i := 16) (List.mem_of_getElem? (show fn[7]? = some (dF "are_numbers_of_race" 16) from rfl))
  have hm_are_numbers_of_race : mg "are_numbers_of_race" = some (.ref (He.ga K "are_numbers_of_race")) := He.glo_ok KX G (He.SaysD.facts sd (List.mem_of_getElem? (show fa[7]? = some (.glo "are_numbers_of_race") from rfl)))
  obtain ⟨fd_is_score, Fu_is_score⟩ := fun_of sd (x := "is_score") (i := 17) (List.mem_of_getElem? (show fn[8]? = some (dF "is_score" 17) from rfl))
  have hm_is_score : mg "is_score" = some (.ref (He.ga K "is_score")) := He.glo_ok KX G (He.SaysD.facts sd (List.mem_of_getElem? (show fa[8]? = some (.glo "is_score") from rfl)))
  obtain ⟨fd_is_special, Fu_is_special⟩ := fun_of sd (x := "is_special") (i := 18) (List.mem_of_getElem? (show fn[9]? = some (dF "is_special" 18) from rfl))
  have hm_is_special : mg "is_special" = some (.ref (He.ga K "is_special")) := He.glo_ok KX G (He.SaysD.facts sd (List.mem_of_getElem? (show fa[9]? = some (.glo "is_special") from rfl)))
  obtain ⟨fd_are_specials, Fu_are_specials⟩ := fun_of sd (x := "are_specials") (i := 19) (List.mem_of_getElem? (show fn[10]? = some (dF "are_specials" 19) from rfl))
  have hm_are_specials : mg "are_specials" = some (.ref (He.ga K "are_specials")) := He.glo_ok KX G (He.SaysD.facts sd (List.mem_of_getElem? (show fa[10]? = some (.glo "are_specials") from rfl)))
  obtain ⟨fd_is_rule_within, Fu_is_rule_within⟩ := fun_of sd (x := "is_rule_within") (i := 20) (List.mem_of_getElem? (show fn[11]? = some (dF "is_rule_within" 20) from rfl))
  have hm_is_rule_within : mg "is_rule_within" = some (.ref (He.ga K "is_rule_within")) := He.glo_ok KX G (He.SaysD.facts sd (List.mem_of_getElem? (show fa[11]? = some (.glo "is_rule_within") from rfl)))
  obtain ⟨fd_is_rule, Fu_is_rule⟩ := fun_of sd (x := "is_rule") (i := 21) (List.mem_of_getElem? (show fn[12]? = some (dF "is_rule" 21) from rfl))
  have hm_is_rule : mg "is_rule" = some (.ref (He.ga K "is_rule")) := He.glo_ok KX G (He.SaysD.facts sd (List.mem_of_getElem? (show fa[12]? = some (.glo "is_rule") from rfl)))
  obtain ⟨fd_check_rule, Fu_check_rule⟩ := fun_of sd (x := "check_rule") (i := 22) (List.mem_of_getElem? (show fn[13]? = some (dF "check_rule" 22) from rfl))
  have hm_check_rule : mg "check_rule" = some (.ref (He.ga K "check_rule")) := He.glo_ok KX G (He.SaysD.facts sd (List.mem_of_getElem? (show fa[13]? = some (.glo "check_rule") from rfl)))
  obtain ⟨fd_unit_of, Fu_unit_of⟩ := fun_of sd (x := "unit_of") (i := 24) (List.mem_of_getElem? (show fn[14]? = some (dF "unit_of" 24) from rfl))
  have hm_unit_of : mg "unit_of" = some (.ref (He.ga K "unit_of")) := He.glo_ok KX G (He.SaysD.facts sd (List.mem_of_getElem? (show fa[14]? = some (.glo "unit_of") from rfl)))
  obtain ⟨fd_begun, Fu_begun⟩ := fun_of sd (x := "begun") (i := 25) (List.mem_of_getElem? (show fn[15]? = some (dF "begun" 25) from rfl))
  have hm_begun : mg "begun" = some (.ref (He.ga K "begun")) := He.glo_ok KX G (He.SaysD.facts sd (List.mem_of_getElem? (show fa[15]? = some (.glo "begun") from rfl)))
  obtain ⟨fd_is_won, Fu_is_won⟩ := fun_of sd (x := "is_won") (i := 26) (List.mem_of_getElem? (show fn[16]? = some (dF "is_won" 26) from rfl))
  have hm_is_won : mg "is_won" = some (.ref (He.ga K "is_won")) := He.glo_ok KX G (He.SaysD.facts sd (List.mem_of_getElem? (show fa[16]? = some (.glo "is_won") from rfl)))
  obtain ⟨fd_next_turn, Fu_next_turn⟩ := fun_of sd (x := "next_turn") (i := 27) (List.mem_of_getElem? (show fn[17]? = some (dF "next_turn" 27) from rfl))
  have hm_next_turn : mg "next_turn" = some (.ref (He.ga K "next_turn")) := He.glo_ok KX G (He.SaysD.facts sd (List.mem_of_getElem? (show fa[17]? = some (.glo "next_turn") from rfl)))
  obtain ⟨fd_led_race, Fu_led_race⟩ := fun_of sd (x := "led_race") (i := 28) (List.mem_of_getElem? (show fn[18]? = some (dF "led_race" 28) from rfl))
  have hm_led_race : mg "led_race" = some (.ref (He.ga K "led_race")) := He.glo_ok KX G (He.SaysD.facts sd (List.mem_of_getElem? (show fa[18]? = some (.glo "led_race") from rfl)))
  obtain ⟨fd_led, Fu_led⟩ := fun_of sd (x := "led") (i := 29) (List.mem_of_getElem? (show fn[19]? = some (dF "led" 29) from rfl))
  have hm_led : mg "led" = some (.ref (He.ga K "led")) := He.glo_ok KX G (He.SaysD.facts sd (List.mem_of_getElem? (show fa[19]? = some (.glo "led") from rfl)))
  obtain ⟨fd_led_by, Fu_led_by⟩ := fun_of sd (x := "led_by") (i := 30) (List.mem_of_getElem? (show fn[20]? = some (dF "led_by" 30) from rfl))
  have hm_led_by : mg "led_by" = some (.ref (He.ga K "led_by")) := He.glo_ok KX G (He.SaysD.facts sd (List.mem_of_getElem? (show fa[20]? = some (.glo "led_by") from rfl)))
  obtain ⟨fd_is_match, Fu_is_match⟩ := fun_of sd (x := "is_match") (i := 32) (List.mem_of_getElem? (show fn[21]? = some (dF "is_match" 32) from rfl))
  have hm_is_match : mg "is_match" = some (.ref (He.ga K "is_match")) := He.glo_ok KX G (He.SaysD.facts sd (List.mem_of_getElem? (show fa[21]? = some (.glo "is_match") from rfl)))
  obtain ⟨fd_table_of, Fu_table_of⟩ := fun_of sd (x := "table_of") (i := 33) (List.mem_of_getElem? (show fn[22]? = some (dF "table_of" 33) from rfl))
  have hm_table_of : mg "table_of" = some (.ref (He.ga K "table_of")) := He.glo_ok KX G (He.SaysD.facts sd (List.mem_of_getElem? (show fa[22]? = some (.glo "table_of") from rfl)))
  obtain ⟨fd__law_hash, Fu__law_hash⟩ := fun_of sd (x := "_law_hash") (i := 35) (List.mem_of_getElem? (show fn[23]? = some (dF "_law_hash" 35) from rfl))
  have hm__law_hash : mg "_law_hash" = some (.ref (He.ga K "_law_hash")) := He.glo_ok KX G (He.SaysD.facts sd (List.mem_of_getElem? (show fa[23]? = some (.glo "_law_hash") from rfl)))
  obtain ⟨fd__law_random, Fu__law_random⟩ := fun_of sd (x := "_law_random") (i := 36) (List.mem_of_getElem? (show fn[24]? = some (dF "_law_random" 36) from rfl))
  have hm__law_random : mg "_law_random" = some (.ref (He.ga K "_law_random")) := He.glo_ok KX G (He.SaysD.facts sd (List.mem_of_getElem? (show fa[24]? = some (.glo "_law_random") from rfl)))
  obtain ⟨fd__law_cell, Fu__law_cell⟩ := fun_of sd (x := "_law_cell") (i := 37) (List.mem_of_getElem? (show fn[25]? = some (dF "_law_cell" 37) from rfl))
  have hm__law_cell : mg "_law_cell" = some (.ref (He.ga K "_law_cell")) := He.glo_ok KX G (He.SaysD.facts sd (List.mem_of_getElem? (show fa[25]? = some (.glo "_law_cell") from rfl)))
  obtain ⟨fd__law_generator, Fu__law_generator⟩ := fun_of sd (x := "_law_generator") (i := 38) (List.mem_of_getElem? (show fn[26]? = some (dF "_law_generator" 38) from rfl))
  have hm__law_generator : mg "_law_generator" = some (.ref (He.ga K "_law_generator")) := He.glo_ok KX G (He.SaysD.facts sd (List.mem_of_getElem? (show fa[26]? = some (.glo "_law_generator") from rfl)))
  obtain ⟨fd__law_pick, Fu__law_pick⟩ := fun_of sd (x := "_law_pick") (i := 39) (List.mem_of_getElem? (show fn[27]? = some (dF "_law_pick" 39) from rfl))
  have hm__law_pick : mg "_law_pick" = some (.ref (He.ga K "_law_pick")) := He.glo_ok KX G (He.SaysD.facts sd (List.mem_of_getElem? (show fa[27]? = some (.glo "_law_pick") from rfl)))
  obtain ⟨fd__law_marked, Fu__law_marked⟩ := fun_of sd (x := "_law_marked") (i := 40) (List.mem_of_getElem? (show fn[28]? = some (dF "_law_marked" 40) from rfl))
  have hm__law_marked : mg "_law_marked" = some (.ref (He.ga K "_law_marked")) := He.glo_ok KX G (He.SaysD.facts sd (List.mem_of_getElem? (show fa[28]? = some (.glo "_law_marked") from rfl)))
  obtain ⟨fd__law_order, Fu__law_order⟩ := fun_of sd (x := "_law_order") (i := 41) (List.mem_of_getElem? (show fn[29]? = some (dF "_law_order" 41) from rfl))
  have hm__law_order : mg "_law_order" = some (.ref (He.ga K "_law_order")) := He.glo_ok KX G (He.SaysD.facts sd (List.mem_of_getElem? (show fa[29]? = some (.glo "_law_order") from rfl)))
  obtain ⟨fd__law_unit, Fu__law_unit⟩ := fun_of sd (x := "_law_unit") (i := 42) (List.mem_of_getElem? (show fn[30]? = some (dF "_law_unit" 42) from rfl))
  have hm__law_unit : mg "_law_unit" = some (.ref (He.ga K "_law_unit")) := He.glo_ok KX G (He.SaysD.facts sd (List.mem_of_getElem? (show fa[30]? = some (.glo "_law_unit") from rfl)))
  obtain ⟨fd__law_over, Fu__law_over⟩ := fun_of sd (x := "_law_over") (i := 43) (List.mem_of_getElem? (show fn[31]? = some (dF "_law_over" 43) from rfl))
  have hm__law_over : mg "_law_over" = some (.ref (He.ga K "_law_over")) := He.glo_ok KX G (He.SaysD.facts sd (List.mem_of_getElem? (show fa[31]? = some (.glo "_law_over") from rfl)))
  obtain ⟨fd__law_first_turn, Fu__law_first_turn⟩ := fun_of sd (x := "_law_first_turn") (i := 44) (List.mem_of_getElem? (show fn[32]? = some (dF "_law_first_turn" 44) from rfl))
  have hm__law_first_turn : mg "_law_first_turn" = some (.ref (He.ga K "_law_first_turn")) := He.glo_ok KX G (He.SaysD.facts sd (List.mem_of_getElem? (show fa[32]? = some (.glo "_law_first_turn") from rfl)))
  obtain ⟨fd__law_start, Fu__law_start⟩ := fun_of sd (x := "_law_start") (i := 45) (List.mem_of_getElem? (show fn[33]? = some (dF "_law_start" 45) from rfl))
  have hm__law_start : mg "_law_start" = some (.ref (He.ga K "_law_start")) := He.glo_ok KX G (He.SaysD.facts sd (List.mem_of_getElem? (show fa[33]? = some (.glo "_law_start") from rfl)))
  obtain ⟨fd__law_step, Fu__law_step⟩ := fun_of sd (x := "_law_step") (i := 46) (List.mem_of_getElem? (show fn[34]? = some (dF "_law_step" 46) from rfl))
  have hm__law_step : mg "_law_step" = some (.ref (He.ga K "_law_step")) := He.glo_ok KX G (He.SaysD.facts sd (List.mem_of_getElem? (show fa[34]? = some (.glo "_law_step") from rfl)))
  obtain ⟨fd__law_played, Fu__law_played⟩ := fun_of sd (x := "_law_played") (i := 47) (List.mem_of_getElem? (show fn[35]? = some (dF "_law_played" 47) from rfl))
  have hm__law_played : mg "_law_played" = some (.ref (He.ga K "_law_played")) := He.glo_ok KX G (He.SaysD.facts sd (List.mem_of_getElem? (show fa[35]? = some (.glo "_law_played") from rfl)))
  obtain ⟨fd__law_match, Fu__law_match⟩ := fun_of sd (x := "_law_match") (i := 48) (List.mem_of_getElem? (show fn[36]? = some (dF "_law_match" 48) from rfl))
  have hm__law_match : mg "_law_match" = some (.ref (He.ga K "_law_match")) := He.glo_ok KX G (He.SaysD.facts sd (List.mem_of_getElem? (show fa[36]? = some (.glo "_law_match") from rfl)))
  obtain ⟨fd__law_wrong_rules, Fu__law_wrong_rules⟩ := fun_of sd (x := "_law_wrong_rules") (i := 49) (List.mem_of_getElem? (show fn[37]? = some (dF "_law_wrong_rules" 49) from rfl))
  have hm__law_wrong_rules : mg "_law_wrong_rules" = some (.ref (He.ga K "_law_wrong_rules")) := He.glo_ok KX G (He.SaysD.facts sd (List.mem_of_getElem? (show fa[37]? = some (.glo "_law_wrong_rules") from rfl)))
  obtain ⟨fd__law_small_rule, Fu__law_small_rule⟩ := fun_of sd (x := "_law_small_rule") (i := 50) (List.mem_of_getElem? (show fn[38]? = some (dF "_law_small_rule" 50) from rfl))
  have hm__law_small_rule : mg "_law_small_rule" = some (.ref (He.ga K "_law_small_rule")) := He.glo_ok KX G (He.SaysD.facts sd (List.mem_of_getElem? (show fa[38]? = some (.glo "_law_small_rule") from rfl)))
  obtain ⟨fd__law_caught, Fu__law_caught⟩ := fun_of sd (x := "_law_caught") (i := 51) (List.mem_of_getElem? (show fn[39]? = some (dF "_law_caught" 51) from rfl))
  have hm__law_caught : mg "_law_caught" = some (.ref (He.ga K "_law_caught")) := He.glo_ok KX G (He.SaysD.facts sd (List.mem_of_getElem? (show fa[39]? = some (.glo "_law_caught") from rfl)))
  obtain ⟨fd__law_refuses, Fu__law_refuses⟩ := fun_of sd (x := "_law_refuses") (i := 52) (List.mem_of_getElem? (show fn[40]? = some (dF "_law_refuses" 52) from rfl))
  have hm__law_refuses : mg "_law_refuses" = some (.ref (He.ga K "_law_refuses")) := He.glo_ok KX G (He.SaysD.facts sd (List.mem_of_getElem? (show fa[40]? = some (.glo "_law_refuses") from rfl)))
  obtain ⟨fd__law_day, Fu__law_day⟩ := fun_of sd (x := "_law_day") (i := 53) (List.mem_of_getElem? (show fn[41]? = some (dF "_law_day" 53) from rfl))
  have hm__law_day : mg "_law_day" = some (.ref (He.ga K "_law_day")) := He.glo_ok KX G (He.SaysD.facts sd (List.mem_of_getElem? (show fa[41]? = some (.glo "_law_day") from rfl)))
  obtain ⟨fd__law_due_table, Fu__law_due_table⟩ := fun_of sd (x := "_law_due_table") (i := 54) (List.mem_of_getElem? (show fn[42]? = some (dF "_law_due_table" 54) from rfl))
  have hm__law_due_table : mg "_law_due_table" = some (.ref (He.ga K "_law_due_table")) := He.glo_ok KX G (He.SaysD.facts sd (List.mem_of_getElem? (show fa[42]? = some (.glo "_law_due_table") from rfl)))
  obtain ⟨fd__law_refused_right, Fu__law_refused_right⟩ := fun_of sd (x := "_law_refused_right") (i := 55) (List.mem_of_getElem? (show fn[43]? = some (dF "_law_refused_right" 55) from rfl))
  have hm__law_refused_right : mg "_law_refused_right" = some (.ref (He.ga K "_law_refused_right")) := He.glo_ok KX G (He.SaysD.facts sd (List.mem_of_getElem? (show fa[43]? = some (.glo "_law_refused_right") from rfl)))
  obtain ⟨fd_law, Fu_law⟩ := fun_of sd (x := "law") (i := 56) (List.mem_of_getElem? (show fn[44]? = some (dF "law" 56) from rfl))
  have hm_law : mg "law" = some (.ref (He.ga K "law")) := He.glo_ok KX G (He.SaysD.facts sd (List.mem_of_getElem? (show fa[44]? = some (.glo "law") from rfl)))
  have G_is_whole := ok_is_whole (P := P79) (w := w) (base := base) (ec := ecA K) Fu_is_whole hm_is_whole hbn   
  have G_is_count := ok_is_count (P := P79) (w := w) (base := base) (ec := ecA K) Fu_is_count hm_is_count hbn (G_is_whole := G_is_whole)  
  have G_is_between := ok_is_between (P := P79) (w := w) (base := base) (ec := ecA K) Fu_is_between hm_is_between hbn (G_is_whole := G_is_whole)  
  have G_is_side := ok_is_side (P := P79) (w := w) (base := base) (ec := ecA K) Fu_is_side hm_is_side hbn (G_is_between := G_is_between)  
  have G_are_rallies := ok_are_rallies (P := P79) (w := w) (base := base) (ec := ecA K) Fu_are_rallies hm_are_rallies hbn (G_is_side := G_is_side)  
  have G_is_word := ok_is_word (P := P79) (w := w) (base := base) (ec := ecA K) Fu_is_word hm_is_word hbn   
  have G_is_order := ok_is_order (P := P79) (w := w) (base := base) (ec := ecA K) Fu_is_order hm_is_order hbn (G_is_word := G_is_word) (G_is_side := G_is_side) (C_ORDERS := C_ORDERS) 
  have G_are_numbers_of_race := ok_are_numbers_of_race (P := P79) (w := w) (base := base) (ec := ecA K) Fu_are_numbers_of_race hm_are_numbers_of_race hbn (G_is_between := G_is_between)  
  have G_is_score := ok_is_score (P := P79) (w := w) (base := base) (ec := ecA K) Fu_is_score hm_is_score hbn (G_is_count := G_is_count)  


  have G_all : ∀ n, GD P79 w K mg base "is_rule_within" (4 + 3 * n) P_is_rule_within (spP K (ecA K) 2 (F_is_rule_within n)) := fun n => by
    induction n with
    | zero => exact gd_mk Fu_is_rule_within hm_is_rule_within (zeroP (fun ds => rfl)) (fun _ _ _ _ _ _ us hl => match us, hl with | [_, _], _ => rfl) (fun _ _ _ _ _ _ us hl => match us, hl with | [_, _], _ => rfl)
    | succ n ih =>
      have G1 := ok_is_special (P := P79) (w := w) (base := base) (ec := ecA K) (k := 4 + 3 * n) (n := n) (by omega) (Nat.le_refl _) Fu_is_special hm_is_special hbn (G_is_score := G_is_score) (G_is_rule_within := ih)
      have G2 := ok_are_specials (P := P79) (w := w) (base := base) (ec := ecA K) (k := 4 + 3 * n + 1) (n := n) (by omega) (Nat.le_refl _) Fu_are_specials hm_are_specials hbn (G_is_special := G1)
      exact ok_is_rule_within (P := P79) (w := w) (base := base) (ec := ecA K) (k := 4 + 3 * n + 2) (n := n) (by omega) (kG_is_rule_within := 4 + 3 * n) (by omega) (kG_are_specials := 4 + 3 * n + 2) (by omega) Fu_is_rule_within hm_is_rule_within hbn (G_is_word := G_is_word) (G_are_numbers_of_race := G_are_numbers_of_race) (G_is_order := G_is_order) (G_is_rule_within := ih) (G_are_specials := G2)
  have G_is_rule_within := (G_all 5).mono (k := 24) (by omega)
  have G_is_rule := ok_is_rule (P := P79) (w := w) (base := base) (ec := ecA K) Fu_is_rule hm_is_rule hbn (G_is_rule_within := G_is_rule_within) (C_DEEPEST := C_DEEPEST) 
  have G_check_rule := ok_check_rule (P := P79) (w := w) (base := base) (ec := ecA K) Fu_check_rule hm_check_rule hbn (G_is_rule := G_is_rule)  (E_InvalidRule := E_InvalidRule)
  have G_unit_of := ok_unit_of (P := P79) (w := w) (base := base) (ec := ecA K) Fu_unit_of hm_unit_of hbn   
  have A_begun : ∀ n, GD P79 w K mg base "begun" (1 + n) P_begun (spP K (ecA K) 2 (F_begun n)) := fun n => by
    induction n with
    | zero => exact gd_mk Fu_begun hm_begun (zeroP (fun ds => rfl)) (fun _ _ _ _ _ _ us hl => match us, hl with | [_, _], _ => rfl) (fun _ _ _ _ _ _ us hl => match us, hl with | [_, _], _ => rfl)
    | succ n ih => exact ok_begun (P := P79) (w := w) (base := base) (ec := ecA K) (k := 1 + n) (n := n) (by omega) (kG_begun := 1 + n) (Nat.le_refl _) Fu_begun hm_begun hbn (G_begun := ih) (G_unit_of := G_unit_of)
  have G_begun := (A_begun 5).mono (k := 8) (by omega)
  have G_is_won := ok_is_won (P := P79) (w := w) (base := base) (ec := ecA K) Fu_is_won hm_is_won hbn   
  have G_next_turn := ok_next_turn (P := P79) (w := w) (base := base) (ec := ecA K) Fu_next_turn hm_next_turn hbn   

  have L_all : ∀ n, GD P79 w K mg base "led" (8 + 2 * n) P_led (spP K (ecA K) 3 (F_led n)) := fun n => by
    induction n with
    | zero => exact gd_mk Fu_led hm_led (zeroP (fun ds => rfl)) (fun _ _ _ _ _ _ us hl => match us, hl with | [_, _, _], _ => rfl) (fun _ _ _ _ _ _ us hl => match us, hl with | [_, _, _], _ => rfl)
    | succ n ih =>
      have G1 := ok_led_race (P := P79) (w := w) (base := base) (ec := ecA K) (k := 8 + 2 * n) (n := n) (by omega) (kG_led := 8 + 2 * n) (Nat.le_refl _) (kG_begun := 8) (by omega) Fu_led_race hm_led_race hbn (G_unit_of := G_unit_of) (G_led := ih) (G_next_turn := G_next_turn) (G_is_won := G_is_won) (G_begun := G_begun)
      exact ok_led (P := P79) (w := w) (base := base) (ec := ecA K) (k := 8 + 2 * n + 1) (n := n) (by omega) (kG_led_race := 8 + 2 * n + 1) (Nat.le_refl _) Fu_led hm_led hbn (G_led_race := G1)
  have G_led := (L_all 5).mono (k := 20) (by omega)
  have M_all : ∀ n, GD P79 w K mg base "_law_marked" (1 + n) ["told"] (spK (ecA K) N2_mark n) := fun n => by
    induction n with
    | zero => exact mark_zero Fu__law_marked hm__law_marked
    | succ n ih => exact ok_mark (P := P79) (w := w) (base := base) (ec := ecA K) Fu__law_marked hm__law_marked hbn ih
  have G__law_marked := (M_all 4).mono (k := 8) (by omega)
  have GR := gref_of KX G c tb Fu__law_caught hm__law_caught Fu__law_refuses hm__law_refuses
  have G_led_by := ok_led_by (P := P79) (w := w) (base := base) (ec := ecA K) Fu_led_by hm_led_by hbn (G_begun := G_begun) (G_led := G_led)  
  have G_is_match := ok_is_match (P := P79) (w := w) (base := base) (ec := ecA K) Fu_is_match hm_is_match hbn (G_is_count := G_is_count) (G_is_side := G_is_side) (G_are_rallies := G_are_rallies)  
  have GD_table_of := ok_table_of (P := P79) (w := w) (base := base) (ec := ecA K) Fu_table_of hm_table_of hbn (G_check_rule := G_check_rule) (G_is_between := G_is_between) (G_is_match := G_is_match) (G_led_by := G_led_by)  (E_InvalidNumber := E_InvalidNumber) (E_InvalidDay := E_InvalidDay)
  have G_table_of : GD P79 w K mg base "table_of" 27 P_table_of (spP K (ecA K) 3 F_table_of) := EV.GD.weak (fun _ _ _ _ q => spP_D q) GD_table_of
  have G__law_hash := ok__law_hash (P := P79) (w := w) (base := base) (ec := ecA K) Fu__law_hash hm__law_hash hbn   
  have G__law_random := ok__law_random (P := P79) (w := w) (base := base) (ec := ecA K) Fu__law_random hm__law_random hbn (G__law_hash := G__law_hash)  
  have G__law_cell := ok__law_cell (P := P79) (w := w) (base := base) (ec := ecA K) Fu__law_cell hm__law_cell hbn   
  have G__law_generator := ok__law_generator (P := P79) (w := w) (base := base) (ec := ecA K) Fu__law_generator hm__law_generator hbn (G__law_cell := G__law_cell)  
  have G__law_pick := ok__law_pick (P := P79) (w := w) (base := base) (ec := ecA K) Fu__law_pick hm__law_pick hbn (G__law_random := G__law_random)  
  have G__law_order := ok__law_order (P := P79) (w := w) (base := base) (ec := ecA K) Fu__law_order hm__law_order hbn (G__law_random := G__law_random) (G__law_pick := G__law_pick)  
  have G__law_unit := ok__law_unit (P := P79) (w := w) (base := base) (ec := ecA K) Fu__law_unit hm__law_unit hbn   
  have G__law_over := ok__law_over (P := P79) (w := w) (base := base) (ec := ecA K) Fu__law_over hm__law_over hbn   
  have G__law_first_turn := ok__law_first_turn (P := P79) (w := w) (base := base) (ec := ecA K) Fu__law_first_turn hm__law_first_turn hbn   
  have A__law_start : ∀ n, GD P79 w K mg base "_law_start" (1 + n) P__law_start (spP K (ecA K) 2 (F__law_start n)) := fun n => by
    induction n with
    | zero => exact gd_mk Fu__law_start hm__law_start (zeroP (fun ds => rfl)) (fun _ _ _ _ _ _ us hl => match us, hl with | [_, _], _ => rfl) (fun _ _ _ _ _ _ us hl => match us, hl with | [_, _], _ => rfl)
    | succ n ih => exact ok__law_start (P := P79) (w := w) (base := base) (ec := ecA K) (k := 1 + n) (n := n) (by omega) (kG__law_start := 1 + n) (Nat.le_refl _) Fu__law_start hm__law_start hbn (G__law_start := ih) (G__law_first_turn := G__law_first_turn) (G__law_unit := G__law_unit)
  have G__law_start := (A__law_start 5).mono (k := 8) (by omega)
  have A__law_step : ∀ n, GD P79 w K mg base "_law_step" (8 + n) P__law_step (spP K (ecA K) 3 (F__law_step n)) := fun n => by
    induction n with
    | zero => exact gd_mk Fu__law_step hm__law_step (zeroP (fun ds => rfl)) (fun _ _ _ _ _ _ us hl => match us, hl with | [_, _, _], _ => rfl) (fun _ _ _ _ _ _ us hl => match us, hl with | [_, _, _], _ => rfl)
    | succ n ih => exact ok__law_step (P := P79) (w := w) (base := base) (ec := ecA K) (k := 8 + n) (n := n) (by omega) (kG__law_step := 8 + n) (Nat.le_refl _) (kG__law_start := 8) (by omega) Fu__law_step hm__law_step hbn (G__law_step := ih) (G__law_unit := G__law_unit) (G__law_over := G__law_over) (G__law_start := G__law_start)
  have G__law_step := (A__law_step 5).mono (k := 14) (by omega)
  have G__law_played := ok__law_played (P := P79) (w := w) (base := base) (ec := ecA K) Fu__law_played hm__law_played hbn (G__law_start := G__law_start) (G__law_step := G__law_step)  
  have G__law_match := ok__law_match (P := P79) (w := w) (base := base) (ec := ecA K) Fu__law_match hm__law_match hbn (G__law_start := G__law_start) (G__law_random := G__law_random) (G__law_pick := G__law_pick) (G__law_step := G__law_step)  
  have G__law_wrong_rules := ok__law_wrong_rules (P := P79) (w := w) (base := base) (ec := ecA K) Fu__law_wrong_rules hm__law_wrong_rules hbn (G__law_pick := G__law_pick)  
  have G__law_small_rule := ok__law_small_rule (P := P79) (w := w) (base := base) (ec := ecA K) Fu__law_small_rule hm__law_small_rule hbn (G__law_random := G__law_random) (G__law_pick := G__law_pick) (G__law_order := G__law_order)  
  have G__law_day := ok__law_day (P := P79) (w := w) (base := base) (ec := ecA K) Fu__law_day hm__law_day hbn (G__law_random := G__law_random) (G__law_pick := G__law_pick) (G__law_match := G__law_match)  
  have G__law_due_table := ok__law_due_table (P := P79) (w := w) (base := base) (ec := ecA K) Fu__law_due_table hm__law_due_table hbn (G__law_played := G__law_played)  
  have G__law_refused_right := ok__law_refused_right (P := P79) (w := w) (base := base) (ec := ecA K) Fu__law_refused_right hm__law_refused_right hbn (G__law_wrong_rules := G__law_wrong_rules) (G_table_of := G_table_of)   (GR := GR) (hcode := code_of KX c Fu__law_refused_right)
  have G_law := ok_law (P := P79) (w := w) (base := base) (ec := ecA K) Fu_law hm_law hbn (G__law_generator := G__law_generator) (G__law_small_rule := G__law_small_rule) (G__law_random := G__law_random) (G__law_day := G__law_day) (G__law_due_table := G__law_due_table) (G_table_of := G_table_of) (G__law_marked := G__law_marked) (G__law_refused_right := G__law_refused_right)   (GD_table_of := GD_table_of)
  exact G_law
end
end K79
end

section
set_option Elab.async false
set_option linter.all false
set_option maxRecDepth 100000
set_option maxHeartbeats 0
/-! Z79: the law, from its plain law. -/
namespace K79
open PySem PySem.Spec PyProof.Rows L2 LamX EV
/-- the plain law: what the text's meaning answers -/
def Plain : Prop := ∀ ns : List Int, ns.length ≤ 63 → F_law [.list (ns.map PyData.int)] = some (.ok (.bool true))
theorem rd_script {K : PySem.W.Frag} {H : Hp} {a : Addr} {ns : List Int} (h : SqL K H a (ns.map V.int)) : RD K H (fun _ => False) (.list (ns.map PyData.int)) (.ref a) := by
  have rs : ∀ l : List Int, RDs K H (fun _ => False) (l.map PyData.int) (l.map V.int) := fun l => by
    induction l with
    | nil => exact .nil
    | cons i l ih => exact .cons (.int i) ih
  exact .lst (h.elim (fun z => .inl ⟨z, fun f => f⟩) .inr) (rs ns)
theorem law_sp (pl : Plain) {K : PySem.W.Frag} {H : Hp} {a : Addr} {ns : List Int} (hn : ns.length ≤ 63) (hP : H (PtA K) = some (.tbl #[])) (h : SqL K H a (ns.map V.int)) : spP K (ecA K) 1 F_law [.ref a] H (fun v _ => v = .bl true) fun _ _ _ => False := by
  refine ⟨fun _ => False, [.list (ns.map PyData.int)], .ok (.bool true), fun p hp => ?_, fun a f => f.elim, .cons (rd_script h) .nil, rfl, pl ns hn, fun v H' _ rd => ?_⟩
  · have e : p = (PtA K, ("_law_refused_right.<locals>.<lambda>" : Str)) := by simpa [ecA] using hp
    rw [e]
    exact TabS.nil hP
  · cases rd
    rfl
theorem walkG (pl : Plain) {q : Program} {loose : List Str} {XP : (Str → Option Value) → Heap → Prop} {d : DefRec} (hn : (PySem.Challenge.rw_anyserve_k79_tables_of_days).most = some 63) (hp : (PySem.Challenge.rw_anyserve_k79_tables_of_days).prog = P79) (hdf : d.params.defaults = []) (hd : d.name = ("law" : Str)) :
    PySem.W.WalkO q loose XP hk.says (PySem.Challenge.rw_anyserve_k79_tables_of_days).row.toRowW d [] (fun f vs => PySem.call f vs) := by
  refine Att.attach_callB hn hdf fun w s₀ s₁ mg mb fa' o pm cd doc a vs ns Gr Y ho hdd hcd hmg hobj hints hlen hbits hg => ?_
  obtain ⟨K, KX, c⟩ := Y
  rw [hd] at hmg
  have hlaw : mg "law" = some (.ref (He.ga K "law")) := glo_of KX Gr.T.g c (by unfold faG; simp)
  have e : fa' = He.ga K "law" := by
    have z := hmg.symm.trans hlaw
    cases z
    rfl
  subst e
  rw [hp]
  refine law_callG (K := K) (x := "script") (k := 33) (c := coA K) (Pt := PtA K) (sp := spP K (ecA K) 1 F_law) KX Gr.T.g Gr.T.b Gr.T.builtins Gr.T.nolimit hg c.empty c.out (PySem.W.codeHd_of_K KX c.hd) Gr.T.bmain hobj hints (Nat.le_trans hlen (by decide)) ⟨rfl, by decide, by decide⟩ (fun base bK bG tb => ?_) fun H hP hS => law_sp pl hlen hP hS
  obtain ⟨f, fd, Fo, hm, hk2, hb, _⟩ := (law_gd KX Gr.T.g c bK bG tb).at_
  have ef : f = He.ga K "law" := by
    have z := hm.symm.trans hlaw
    cases z
    rfl
  subst ef
  exact ⟨fd, Fo, fun s u hs => hb s [u] hs rfl⟩
end K79
end

section
set_option Elab.async false
set_option linter.all false
set_option maxRecDepth 100000
/-! EvS: the meanings, unfolded by simp. -/
namespace EV
open PySem PySem.Spec PyProof.Rows L2
section
variable {α β : Type} {m ma mb me mk : M PyData} {mo a b c : M Opd} {mas : M (List Opd)} {n na nb : M Bool} {fr : Fr} {f : α → M β} {x : α} {ma' : M α} {s1 s2 : MS} {i j : Nat} {p p' : PyData → PyData → Option PyData} {q : List PyData → Option PyData} {g : G}
@[simp] theorem u_pure : M.pure x fr = some (.ok x, fr) := rfl
@[simp] theorem u_bind : M.bind ma' f fr = (match ma' fr with | some (.ok a, fr1) => f a fr1 | some (.error x, fr1) => some (.error x, fr1) | none => none) := rfl
@[simp] theorem u_C {d : PyData} : mC d = M.pure d := rfl
@[simp] theorem u_Var : mVar i fr = (match fr[i]? with | some (.fz d) => some (.ok d, fr) | some (.ow false d) => some (.ok d, fr.set i (.fz d)) | _ => none) := rfl
@[simp] theorem u_rsv1 {d : PyData} : rsv fr (.inl d) = some d := rfl
@[simp] theorem u_rsv2 : rsv fr (.inr i) = (match fr[i]? with | some (.fz d) => some d | some (.ow _ d) => some d | _ => none) := rfl
@[simp] theorem u_Slot : mSlot i fr = (match rsv fr (.inr i) with | some _ => some (.ok (.inr i), fr) | none => none) := rfl
@[simp] theorem u_Val : mVal m = m.bind fun d => M.pure (.inl d) := rfl
@[simp] theorem u_Nil : mNil = M.pure [] := rfl
@[simp] theorem u_Cons {mr : M (List Opd)} : mCons a mr = a.bind fun x => mr.bind fun y => M.pure (x :: y) := rfl
@[simp] theorem u_rsvs0 : rsvs fr [] = some [] := rfl
@[simp] theorem u_rsvs1 {o : Opd} {os : List Opd} : rsvs fr (o :: os) = (match rsv fr o with | some d => (match rsvs fr os with | some ds => some (d :: ds) | none => none) | none => none) := rfl
@[simp] theorem u_inls0 : inls [] = some [] := rfl
@[simp] theorem u_inls1 {d : PyData} {os : List Opd} : inls (.inl d :: os) = (match inls os with | some ds => some (d :: ds) | none => none) := by
  first
    | rfl
    | (unfold inls; cases inls os <;> rfl)
@[simp] theorem u_P2 : mP2 p a b = a.bind fun x => b.bind fun y => fun fr => match rsv fr x, rsv fr y with
  | some dx, some dy => (match p dx dy with
    | some d => some (.ok d, fr)
    | none => none)
  | _, _ => none := rfl
@[simp] theorem u_PN : mPN q mas = mas.bind fun xs => fun fr => match rsvs fr xs with
  | some ds => (match q ds with
    | some d => some (.ok d, fr)
    | none => none)
  | none => none := rfl
@[simp] theorem u_asB : asB m = m.bind fun d => fun fr => match d with
  | .bool b => some (.ok b, fr)
  | _ => none := rfl
@[simp] theorem u_And : mAnd ma mb = (asB ma).bind fun x => match x with
  | true => mb
  | false => M.pure (.bool false) := rfl
@[simp] theorem u_Or : mOr ma mb = (asB ma).bind fun x => match x with
  | true => M.pure (.bool true)
  | false => mb := rfl
@[simp] theorem u_Not : mNot ma = (asB ma).bind fun x => M.pure (.bool (!x)) := rfl
@[simp] theorem u_nAnd : nAnd na nb = na.bind fun x => match x with
  | true => nb
  | false => M.pure false := rfl
@[simp] theorem u_nOr : nOr na nb = na.bind fun x => match x with
  | true => M.pure true
  | false => nb := rfl
@[simp] theorem u_nNot : nNot na = na.bind fun x => M.pure (!x) := rfl
@[simp] theorem u_If {x y : M α} : mIf n x y = n.bind fun b => match b with
  | true => x
  | false => y := rfl
@[simp] theorem u_Seq : sSeq s1 s2 = s1.bind fun f => match f with
  | .nx => s2
  | f => M.pure f := rfl
@[simp] theorem u_Ret : sRet m = m.bind fun d => M.pure (.rt d) := rfl
@[simp] theorem u_Asg : sAsg m g = m.bind fun d => fun fr => match g d fr with
  | some fr' => some (.ok .nx, fr')
  | none => none := rfl
@[simp] theorem u_gN {d : PyData} : gN i d fr = some (fr.set i (.fz d)) := rfl
@[simp] theorem u_gT {k : Nat} {gs : Gs} {ds : List PyData} : gT k gs (.tuple ds) fr = if ds.length = k then gs ds fr else none := rfl
@[simp] theorem u_gs0 : gsNil [] fr = some fr := rfl
@[simp] theorem u_gs1 {gs : Gs} {d : PyData} {ds : List PyData} : gsCons g gs (d :: ds) fr = (match g d fr with | some fr1 => gs ds fr1 | none => none) := rfl
@[simp] theorem u_Tup : mTup mas = mas.bind fun xs => fun fr => match inls xs with
  | some ds => if ds.length ≤ sizeLine then some (.ok (.tuple ds), fr) else none
  | none => none := rfl
@[simp] theorem u_Lst : mLst mas = mas.bind fun xs => fun fr => match inls xs with
  | some ds => if ds.length ≤ sizeLine then some (.ok (.list ds), fr) else none
  | none => none := rfl
@[simp] theorem u_Call {F : List PyData → Option (Except Xn PyData)} : mCall F mas = mas.bind fun xs => fun fr => match inls xs with
  | some ds => (match F ds with
    | some r => some (r, fr)
    | none => none)
  | none => none := rfl
@[simp] theorem u_Isi {T : String} : mIsi T mo = mo.bind fun o => fun fr => match rsv fr o with
  | some d => some (.ok (.bool (isT T d)), fr)
  | none => none := rfl
@[simp] theorem u_Part : mPart m = m.bind fun d => fun fr => match d with
  | .int i => some (.ok (some i), fr)
  | _ => none := rfl
@[simp] theorem u_Sl {ml mh : M (Option Int)} : mSl mo ml mh = mo.bind fun o => ml.bind fun l => mh.bind fun h => fun fr => match rsv fr o with
  | some (.list ds) => some (.ok (.list (cutD ds l h)), fr)
  | some (.tuple ds) => some (.ok (.tuple (cutD ds l h)), fr)
  | _ => none := rfl
@[simp] theorem u_Neg : mNeg m = m.bind fun d => fun fr => match d with
  | .int i => some (.ok (.int (-i)), fr)
  | _ => none := rfl
@[simp] theorem u_Chain : mChain p p' a b c = a.bind fun x => b.bind fun y => fun fr => match rsv fr x, rsv fr y with
  | some dx, some dy => (match p dx dy with
    | some (.bool true) => M.bind c (fun z => fun fr => match rsv fr y, rsv fr z with
      | some dy, some dz => (match p' dy dz with
        | some d => some (.ok d, fr)
        | none => none)
      | _, _ => none) fr
    | some (.bool false) => some (.ok (.bool false), fr)
    | _ => none)
  | _, _ => none := rfl
@[simp] theorem u_pI {f : Int → Int → PyData} {k l : Int} : pI f (.int k) (.int l) = some (f k l) := rfl
@[simp] theorem u_pIc {cc : Int → Int → Bool} {f : Int → Int → PyData} {k l : Int} : pIc cc f (.int k) (.int l) = if cc k l then some (f k l) else none := rfl
@[simp] theorem u_pAdd {k l : Int} : pAdd (.int k) (.int l) = some (.int (k + l)) := rfl
@[simp] theorem u_pGe {k l : Int} : pGe (.int k) (.int l) = some (.bool (decide (l ≤ k))) := rfl
@[simp] theorem u_pEqI {k l : Int} : pEq (.int k) (.int l) = some (.bool (k == l)) := rfl
@[simp] theorem u_pEqS {k l : Str} : pEq (.str k) (.str l) = some (.bool (decide (k = l))) := rfl
@[simp] theorem u_pNeI {k l : Int} : pNe (.int k) (.int l) = some (.bool (!(k == l))) := rfl
@[simp] theorem u_pNeS {k l : Str} : pNe (.str k) (.str l) = some (.bool (!decide (k = l))) := rfl
@[simp] theorem u_pIsN {d : PyData} : pIsN d .none = some (.bool (isNone d)) := rfl
@[simp] theorem u_pNotN {d : PyData} : pNotN d .none = some (.bool (!isNone d)) := rfl
@[simp] theorem u_isNone1 : isNone .none = true := rfl
@[simp] theorem u_isNone2 {k : Int} : isNone (.int k) = false := rfl
@[simp] theorem u_ixL {ds : List PyData} {k : Int} : pIx (.list ds) (.int k) = L2.atI ds k := rfl
@[simp] theorem u_ixT {ds : List PyData} {k : Int} : pIx (.tuple ds) (.int k) = L2.atI ds k := rfl
@[simp] theorem u_at0 {x0 : PyData} {l : List PyData} : L2.atI (x0 :: l) 0 = some x0 := L2.atI_nat (j := 0) rfl
@[simp] theorem u_at1 {x0 x1 : PyData} {l : List PyData} : L2.atI (x0 :: x1 :: l) 1 = some x1 := L2.atI_nat (j := 1) rfl
@[simp] theorem u_at2 {x0 x1 x2 : PyData} {l : List PyData} : L2.atI (x0 :: x1 :: x2 :: l) 2 = some x2 := L2.atI_nat (j := 2) rfl
@[simp] theorem u_at3 {x0 x1 x2 x3 : PyData} {l : List PyData} : L2.atI (x0 :: x1 :: x2 :: x3 :: l) 3 = some x3 := L2.atI_nat (j := 3) rfl
@[simp] theorem u_at4 {x0 x1 x2 x3 x4 : PyData} {l : List PyData} : L2.atI (x0 :: x1 :: x2 :: x3 :: x4 :: l) 4 = some x4 := L2.atI_nat (j := 4) rfl
@[simp] theorem u_at5 {x0 x1 x2 x3 x4 x5 : PyData} {l : List PyData} : L2.atI (x0 :: x1 :: x2 :: x3 :: x4 :: x5 :: l) 5 = some x5 := L2.atI_nat (j := 5) rfl
@[simp] theorem u_at6 {x0 x1 x2 x3 x4 x5 x6 : PyData} {l : List PyData} : L2.atI (x0 :: x1 :: x2 :: x3 :: x4 :: x5 :: x6 :: l) 6 = some x6 := L2.atI_nat (j := 6) rfl
@[simp] theorem u_max {k l : Int} : pMaxT [.tuple [.int k, .int l]] = some (.int (max k l)) := rfl
@[simp] theorem u_min {k l : Int} : pMinT [.tuple [.int k, .int l]] = some (.int (min k l)) := rfl
@[simp] theorem u_abs {k : Int} : pAbs [.int k] = some (.int (if k < 0 then -k else k)) := rfl
@[simp] theorem u_lenL {ds : List PyData} : pLen [.list ds] = some (.int ds.length) := rfl
@[simp] theorem u_lenT {ds : List PyData} : pLen [.tuple ds] = some (.int ds.length) := rfl
@[simp] theorem u_runP {k N : Nat} {ms : MS} {ds : List PyData} : runP k N ms ds = if ds.length = k then (match ms (ds.map SD.fz ++ List.replicate (N - k) .no) with
  | some (.ok (.rt d), _) => some (.ok d)
  | some (.ok .nx, _) => some (.ok .none)
  | some (.error x, _) => some (.error x)
  | _ => none) else none := rfl
end
/-- a comprehension over one name, its test and its value without effect -/
theorem lc_filter {i : Nat} {n : M Bool} {m : M PyData} {fr : Fr} {T : PyData → Bool} {f : PyData → PyData} (hi : fr[i]? = some .no) : ∀ (ds acc : List PyData), (∀ d ∈ ds, n (fr.set i (.fz d)) = some (.ok (T d), fr.set i (.fz d)) ∧ (T d = true → m (fr.set i (.fz d)) = some (.ok (f d), fr.set i (.fz d)))) →
    acc.length + ds.length ≤ sizeLine → lcL [i] (gN i) n m ds acc fr = some (.ok (.list (acc ++ (ds.filter T).map f)), fr)
  | [], acc, _, _ => by simp [lcL]
  | d :: ds, acc, h, hz => by
    obtain ⟨h1, h2⟩ := h d List.mem_cons_self
    rw [List.length_cons] at hz
    have w : wipeF (fr.set i (.fz d)) [i] = fr := by
      show (fr.set i (.fz d)).set i .no = fr
      rw [List.set_set]
      refine List.ext_getElem? fun j => ?_
      by_cases e : i = j
      · subst e
        have hl : i < fr.length := (List.getElem?_eq_some_iff.mp hi).1
        rw [List.getElem?_set_self hl, hi]
      · rw [List.getElem?_set_ne e]
    unfold lcL
    rw [show gN i d fr = some (fr.set i (.fz d)) from rfl]
    simp only []
    rw [h1]
    cases hT : T d with
    | true =>
      simp only []
      rw [h2 hT]
      simp only []
      rw [if_pos (by omega), w, lc_filter hi ds (acc ++ [f d]) (fun d' hd => h d' (List.mem_cons_of_mem _ hd)) (by rw [List.length_append, List.length_singleton]; omega)]
      simp [hT]
    | false =>
      simp only []
      rw [w, lc_filter hi ds acc (fun d' hd => h d' (List.mem_cons_of_mem _ hd)) (by omega)]
      simp [hT]
end EV
end

section
set_option Elab.async false
set_option linter.all false
set_option maxRecDepth 100000
/-! EvT: steps of meanings, one by one; what has a short repr (the general part of L56h, j, k, n, o, p). -/
namespace EV
open PySem PySem.Spec PyProof.Rows L2
/-! from L56h -/
theorem seq_nx {s1 s2 : MS} {fr fr1 : Fr} {r : Option (Except Xn Fl × Fr)} (h1 : s1 fr = some (.ok .nx, fr1)) (h2 : s2 fr1 = r) : sSeq s1 s2 fr = r := by
  unfold sSeq
  rw [u_bind, h1]
  exact h2
theorem seq_rt {s1 s2 : MS} {fr fr1 : Fr} {d : PySem.PyData} (h1 : s1 fr = some (.ok (.rt d), fr1)) : sSeq s1 s2 fr = some (.ok (.rt d), fr1) := by
  unfold sSeq
  rw [u_bind, h1]
  rfl
theorem seq_er {s1 s2 : MS} {fr fr1 : Fr} {x : Xn} (h1 : s1 fr = some (.error x, fr1)) : sSeq s1 s2 fr = some (.error x, fr1) := by
  unfold sSeq
  rw [u_bind, h1]
theorem for_go {items : M (List PySem.PyData)} {g : G} {body : MS} {fr fr1 : Fr} {ds : List PySem.PyData} {r : Option (Except Xn Fl × Fr)} (h1 : items fr = some (.ok ds, fr1)) (h2 : forL g body ds fr1 = r) : sFor items g body fr = r := by
  unfold sFor
  rw [u_bind, h1]
  exact h2
theorem forL_cons {g : G} {body : MS} {d : PySem.PyData} {ds : List PySem.PyData} {fr fr1 fr2 : Fr} {r : Option (Except Xn Fl × Fr)} (h1 : g d fr = some fr1) (h2 : body fr1 = some (.ok .nx, fr2)) (h3 : forL g body ds fr2 = r) : forL g body (d :: ds) fr = r := by
  unfold forL
  rw [h1]
  simp only []
  rw [h2]
  exact h3
theorem ret_go {m : M PySem.PyData} {fr fr1 : Fr} {d : PySem.PyData} (h : m fr = some (.ok d, fr1)) : sRet m fr = some (.ok (.rt d), fr1) := by
  unfold sRet
  rw [u_bind, h]
  rfl
theorem asg_go {m : M PySem.PyData} {g : G} {fr fr1 fr2 : Fr} {d : PySem.PyData} (h : m fr = some (.ok d, fr1)) (hg : g d fr1 = some fr2) : sAsg m g fr = some (.ok .nx, fr2) := by
  unfold sAsg
  rw [u_bind, h]
  simp only [hg]
theorem if_go {α : Type} {n : M Bool} {x y : M α} {fr fr1 : Fr} {b : Bool} {r : Option (Except Xn α × Fr)} (h : n fr = some (.ok b, fr1)) (h2 : (if b = true then x else y) fr1 = r) : mIf n x y fr = r := by
  unfold mIf
  rw [u_bind, h]
  cases b <;> exact h2
theorem runP_rt {k N : Nat} {ms : MS} {ds : List PySem.PyData} {d : PySem.PyData} {fr : Fr} (hk : ds.length = k) (h : ms (ds.map SD.fz ++ List.replicate (N - k) .no) = some (.ok (.rt d), fr)) : runP k N ms ds = some (.ok d) := by
  rw [u_runP, if_pos hk, h]
theorem runL_rt {k N : Nat} {ms : MS} {g g' ds : List PySem.PyData} {d : PySem.PyData} {fr : Fr} (hk : ds.length = k) (h : ms ((SD.ow true (.list g) :: (ds.map SD.fz ++ List.replicate (N - k - 1) SD.no) : Fr)) = some (.ok (.rt d), SD.ow true (.list g') :: fr)) : runL k N ms g ds = some (.ok d, g') := by
  unfold runL
  rw [if_pos hk, h]
  rfl
theorem rng1_go {as : M (List Opd)} {fr fr1 : Fr} {xs : List Opd} {j : Int} (h : as fr = some (.ok xs, fr1)) (hx : rsvs fr1 xs = some [.int j]) (h0 : -1000000 ≤ j) (h1 : j ≤ 1000000) : mRng1 as fr = some (.ok (rngD 0 j.toNat), fr1) := by
  unfold mRng1
  rw [u_bind, h]
  simp only [hx]
  rw [if_pos (by constructor <;> omega)]
theorem rng2_go {as : M (List Opd)} {fr fr1 : Fr} {xs : List Opd} {i j : Int} (h : as fr = some (.ok xs, fr1)) (hx : rsvs fr1 xs = some [.int i, .int j]) (hi0 : -1000000 ≤ i) (hi1 : i ≤ 1000000) (h0 : -1000000 ≤ j) (h1 : j ≤ 1000000) : mRng2 as fr = some (.ok (rngD i (j - i).toNat), fr1) := by
  unfold mRng2
  rw [u_bind, h]
  simp only [hx]
  rw [if_pos (by refine ⟨?_, ?_, ?_, ?_⟩ <;> omega)]
theorem val_go {m : M PySem.PyData} {fr fr1 : Fr} {d : PySem.PyData} (h : m fr = some (.ok d, fr1)) : mVal m fr = some (.ok (.inl d), fr1) := by
  unfold mVal
  rw [u_bind, h]
  rfl
theorem cons_go {a : M Opd} {b : M (List Opd)} {fr fr1 fr2 : Fr} {x : Opd} {y : List Opd} (h1 : a fr = some (.ok x, fr1)) (h2 : b fr1 = some (.ok y, fr2)) : mCons a b fr = some (.ok (x :: y), fr2) := by
  unfold mCons
  rw [u_bind, h1]
  simp only [u_bind]
  rw [h2]
  rfl
theorem p2_go {p : PySem.PyData → PySem.PyData → Option PySem.PyData} {a b : M Opd} {fr fr1 fr2 : Fr} {x y : Opd} {dx dy d : PySem.PyData} (h1 : a fr = some (.ok x, fr1)) (h2 : b fr1 = some (.ok y, fr2)) (h3 : rsv fr2 x = some dx) (h4 : rsv fr2 y = some dy) (h5 : p dx dy = some d) : mP2 p a b fr = some (.ok d, fr2) := by
  unfold mP2
  rw [u_bind, h1]
  simp only [u_bind]
  rw [h2]
  simp only [h3, h4, h5]
theorem pn_go {q : List PySem.PyData → Option PySem.PyData} {as : M (List Opd)} {fr fr1 : Fr} {xs : List Opd} {ds : List PySem.PyData} {d : PySem.PyData} (h1 : as fr = some (.ok xs, fr1)) (h2 : rsvs fr1 xs = some ds) (h3 : q ds = some d) : mPN q as fr = some (.ok d, fr1) := by
  unfold mPN
  rw [u_bind, h1]
  simp only [h2, h3]
theorem call_go {F : List PySem.PyData → Option (Except Xn PySem.PyData)} {as : M (List Opd)} {fr fr1 : Fr} {xs : List Opd} {ds : List PySem.PyData} {r : Except Xn PySem.PyData} (h1 : as fr = some (.ok xs, fr1)) (h2 : inls xs = some ds) (h3 : F ds = some r) : mCall F as fr = some (r, fr1) := by
  unfold mCall
  rw [u_bind, h1]
  simp only [h2, h3]
theorem callL_go {F : FL} {as : M (List Opd)} {fr fr1 fr2 : Fr} {i : Nat} {l : Bool} {g g' : List PySem.PyData} {rest : List Opd} {ds : List PySem.PyData} {r : Except Xn PySem.PyData} (h1 : as fr = some (.ok (.inr i :: rest), fr1)) (h2 : fr1[i]? = some (.ow l (.list g))) (h3 : inls rest = some ds) (h4 : F g ds = some (r, g')) (h5 : fr1.set i (.ow l (.list g')) = fr2) : mCallL F as fr = some (r, fr2) := by
  subst h5
  unfold mCallL
  rw [u_bind, h1]
  simp only [h2, h3, h4]
theorem par_go {i j : Nat} {ma mb : M PySem.PyData} {fr fr1 fr2 fr3 : Fr} {x y : PySem.PyData} (h1 : ma fr = some (.ok x, fr1)) (h2 : mb fr1 = some (.ok y, fr2)) (h3 : (fr2.set i (.fz x)).set j (.fz y) = fr3) : sPar i j ma mb fr = some (.ok .nx, fr3) := by
  subst h3
  unfold sPar
  rw [u_bind, h1]
  simp only [u_bind]
  rw [h2]

/-! from L56j -/
open PySem PySem.Spec PyProof.Rows L2
@[simp] theorem u_CallL {F : FL} {as : M (List Opd)} : mCallL F as = as.bind fun xs => fun fr => match xs with
  | .inr i :: rest => (match fr[i]?, inls rest with
    | some (.ow l (.list g)), some ds => (match F g ds with
      | some (r, g') => some (r, fr.set i (.ow l (.list g')))
      | none => none)
    | _, _ => none)
  | _ => none := rfl
@[simp] theorem u_Store {i : Nat} {me mk : M PyData} : sStore i me mk = me.bind fun d => chk i (mk.bind fun k => fun fr => match fr[i]?, k with
  | some (.ow l (.list ds)), .int z => (match ixN ds.length z with
    | some j => some (.ok .nx, fr.set i (.ow l (.list (ds.set j d))))
    | none => none)
  | _, _ => none) := rfl
@[simp] theorem u_chk' {α : Type} {i : Nat} {m : M α} {fr : Fr} : chk i m fr = (match rsv fr (.inr i) with
  | some _ => m fr
  | none => none) := rfl
@[simp] theorem u_Bits {m : M PyData} : mBits m = m.bind fun d => fun fr => match d with
  | .int i => some (.ok (.int (bitsI i : Nat)), fr)
  | _ => none := rfl
@[simp] theorem u_pInt {i : Int} : pInt [.int i] = some (.int i) := rfl
@[simp] theorem u_pMax2 {i j : Int} : pMax2 [.int i, .int j] = some (.int (if j > i then j else i)) := rfl

/-! from L56k -/
open PySem PySem.Spec PyProof.Rows L2
@[simp] theorem u_Append {i : Nat} {me : M PyData} {fr : Fr} : sAppend i me fr = (match fr[i]? with
  | some (.ow _ (.list _)) => (match rsv fr (.inr i) with
    | some _ => (me.bind fun d => fun fr => match fr[i]? with
      | some (.ow l (.list ds)) => if ds.length < sizeLine then some (.ok .nx, fr.set i (.ow l (.list (ds ++ [d])))) else none
      | _ => none) fr
    | none => none)
  | _ => none) := rfl

/-! from L56n -/
open PySem PySem.Spec PyProof.Rows L2
/-- data of a weight and a depth whose text is short -/
structure Nice (n e : Nat) (d : PyData) : Prop where
  lay : d.canLay0 = true
  short : d.leavesShort 1921 = true
  shw : d.showable = true
  w : d.weight ≤ n
  dp : d.depth ≤ e
structure Nices (n e : Nat) (ds : List PyData) : Prop where
  lay : PyData.canLayAll0 ds = true
  short : PyData.leavesShortAll 1921 ds = true
  shw : PyData.showableAll ds = true
  w : PyData.weightAll ds ≤ n
  dp : PyData.depthAll ds ≤ e
theorem Nice.mono {n e m f : Nat} {d : PyData} (h : Nice n e d) (h1 : n ≤ m) (h2 : e ≤ f) : Nice m f d := ⟨h.lay, h.short, h.shw, Nat.le_trans h.w h1, Nat.le_trans h.dp h2⟩
theorem Nices.mono {n e m f : Nat} {d : List PyData} (h : Nices n e d) (h1 : n ≤ m) (h2 : e ≤ f) : Nices m f d := ⟨h.lay, h.short, h.shw, Nat.le_trans h.w h1, Nat.le_trans h.dp h2⟩
theorem Nices.nil {n e : Nat} : Nices n e [] := ⟨by simp only [PyData.canLayAll0], by simp only [PyData.leavesShortAll], by simp only [PyData.showableAll], by simp only [PyData.weightAll]; omega, by simp only [PyData.depthAll]; omega⟩
theorem Nices.cons {n m k e : Nat} {d : PyData} {ds : List PyData} (h : Nice n e d) (t : Nices m e ds) (hk : n + 1 + m ≤ k) : Nices k e (d :: ds) := by
  refine ⟨?_, ?_, ?_, ?_, ?_⟩
  · simp only [PyData.canLayAll0, h.lay, t.lay, Bool.and_self]
  · simp only [PyData.leavesShortAll, h.short, t.short, Bool.and_self]
  · simp only [PyData.showableAll, h.shw, t.shw, Bool.and_self]
  · simp only [PyData.weightAll]; have := h.w; have := t.w; omega
  · simp only [PyData.depthAll]; have := h.dp; have := t.dp; omega
theorem Nices.tup {n e : Nat} {ds : List PyData} (h : Nices n e ds) : Nice n (e + 1) (.tuple ds) := by
  refine ⟨?_, ?_, ?_, ?_, ?_⟩
  · simp only [PyData.canLay0, h.lay]
  · simp only [PyData.leavesShort, h.short]
  · simp only [PyData.showable, h.shw]
  · simp only [PyData.weight]; exact h.w
  · simp only [PyData.depth]; have := h.dp; omega
theorem Nices.lst {n e : Nat} {ds : List PyData} (h : Nices n e ds) : Nice n (e + 1) (.list ds) := by
  refine ⟨?_, ?_, ?_, ?_, ?_⟩
  · simp only [PyData.canLay0, h.lay]
  · simp only [PyData.leavesShort, h.short]
  · simp only [PyData.showable, h.shw]
  · simp only [PyData.weight]; exact h.w
  · simp only [PyData.depth]; have := h.dp; omega
theorem nice_int {i : Int} {k e : Nat} (h : i.natAbs < 2 ^ k) (hk : k ≤ 1900) : Nice k e (.int i) := by
  have hl : i.natAbs.log2 < 1920 := by
    by_cases h0 : i.natAbs = 0
    · rw [h0]; decide
    · have := (Nat.log2_lt h0).mpr h
      omega
  refine ⟨by simp only [PyData.canLay0], ?_, ?_, ?_, ?_⟩
  · simp only [PyData.leavesShort, decide_eq_true_eq]
    exact int_text_len_1921 hl
  · simp only [PyData.showable]; exact decide_eq_true hl
  · simp only [PyData.weight]
    split
    · omega
    · rename_i h0
      have h0' : i.natAbs ≠ 0 := by
        intro z
        exact h0 (by rw [Int.natAbs_eq_zero] at z; rw [z]; rfl)
      have := (Nat.log2_lt h0').mpr h
      omega
  · simp only [PyData.depth]; omega
theorem nice_none {n e : Nat} : Nice n e .none := ⟨by simp only [PyData.canLay0], by simp only [PyData.leavesShort], by simp only [PyData.showable], by simp only [PyData.weight]; omega, by simp only [PyData.depth]; omega⟩
theorem nice_bool {n e : Nat} (b : Bool) : Nice n e (.bool b) := ⟨by simp only [PyData.canLay0], by simp only [PyData.leavesShort], by simp only [PyData.showable], by simp only [PyData.weight]; omega, by simp only [PyData.depth]; omega⟩
theorem Nice.show {n e : Nat} {d : PyData} (h : Nice n e d) (hn : n ≤ 8000) (he : e ≤ 64) : showOk d = true := by
  have l := PyData.shown_le 1921 (by decide) d h.short
  have := h.w
  have hs : sizeLine = 16777216 := by decide
  have := h.dp
  unfold showOk
  rw [h.lay, h.shw, decide_eq_true (show d.depth ≤ 64 by omega), decide_eq_true (show d.shown.length ≤ sizeLine by omega)]
  rfl
theorem Nice.repr {n e : Nat} {d : PyData} (h : Nice n e d) (hn : n ≤ 8000) (he : e ≤ 64) : pRepr [d] = some (.str d.shown) := by
  have := h.show hn he
  unfold pRepr
  split
  · rename_i e; cases e; rfl
  · rename_i e
    cases e
    rw [if_pos this]
  · rename_i q
    exact absurd rfl (q d)

/-! from L56o -/
open PySem PySem.Spec PyProof.Rows L2
@[simp] theorem u_pAddL {a b : List PyData} : pAdd (.list a) (.list b) = if a.length + b.length ≤ sizeLine then some (.list (a ++ b)) else none := rfl
@[simp] theorem u_pIsB {a b : Bool} : pIsB (.bool a) (.bool b) = some (.bool (a == b)) := rfl
theorem repr_bool (b : Bool) : pRepr [.bool b] = some (.str (PyData.bool b).shown) := (nice_bool (n := 0) (e := 0) b).repr (by decide) (by decide)
theorem ne_self (s : Str) : pNe (.str s) (.str s) = some (.bool false) := by simp

/-! from L56p -/
open PySem PySem.Spec PyProof.Rows L2
theorem append_go {i : Nat} {me : M PyData} {fr fr1 fr2 : Fr} {l l' : Bool} {ds ds' : List PyData} {d : PyData} (h1 : fr[i]? = some (.ow l (.list ds))) (h2 : me fr = some (.ok d, fr1)) (h3 : fr1[i]? = some (.ow l' (.list ds'))) (hl : ds'.length < sizeLine) (h4 : fr1.set i (.ow l' (.list (ds' ++ [d]))) = fr2) : sAppend i me fr = some (.ok .nx, fr2) := by
  subst h4
  have h5 : rsv fr (.inr i) = some (.list ds) := by simp [h1]
  rw [u_Append]
  simp only [h1, h5, u_bind, h2, h3, if_pos hl]
theorem own_go {i : Nat} {me : M PyData} {fr fr1 fr2 : Fr} {d : PyData} (h2 : me fr = some (.ok d, fr1)) (h3 : i < fr1.length) (h4 : fr1.set i (.ow false d) = fr2) : sOwn me i fr = some (.ok .nx, fr2) := by
  subst h4
  unfold sOwn
  rw [u_bind, h2]
  simp only [if_pos h3]
theorem asL_go {m : M PyData} {fr fr1 : Fr} {ds : List PyData} (h : m fr = some (.ok (.list ds), fr1)) : asL m fr = some (.ok ds, fr1) := by
  unfold asL
  rw [u_bind, h]
theorem Nices.all {n e : Nat} : ∀ {ds : List PyData}, (∀ d ∈ ds, Nice n e d) → Nices (ds.length * (n + 1)) e ds
  | [], _ => Nices.nil
  | d :: ds, h => by
    refine Nices.cons (h d List.mem_cons_self) (Nices.all fun z hz => h z (List.mem_cons_of_mem _ hz)) ?_
    rw [List.length_cons, Nat.succ_mul]
    omega
theorem asB_go {m : M PyData} {fr fr1 : Fr} {d : Bool} (h : m fr = some (.ok (.bool d), fr1)) : asB m fr = some (.ok d, fr1) := by
  unfold asB
  rw [u_bind, h]
theorem nnot_go {n : M Bool} {fr fr1 : Fr} {b : Bool} (h : n fr = some (.ok b, fr1)) : nNot n fr = some (.ok (!b), fr1) := by
  unfold nNot
  rw [u_bind, h]
  rfl
theorem nor_go {n m : M Bool} {fr fr1 : Fr} {b : Bool} {r : Option (Except Xn Bool × Fr)} (h : n fr = some (.ok b, fr1)) (h2 : (if b = true then M.pure true else m) fr1 = r) : nOr n m fr = r := by
  unfold nOr
  rw [u_bind, h]
  cases b <;> exact h2
theorem nand_go {n m : M Bool} {fr fr1 : Fr} {b : Bool} {r : Option (Except Xn Bool × Fr)} (h : n fr = some (.ok b, fr1)) (h2 : (if b = true then m else M.pure false) fr1 = r) : nAnd n m fr = r := by
  unfold nAnd
  rw [u_bind, h]
  cases b <;> exact h2
/-! the new meanings -/
@[simp] theorem u_pSumT2 {i j : Int} : pSumT [.tuple [.int i, .int j]] = some (.int (i + j)) := by
  show some (PyData.int (List.sum [i, j])) = _
  simp
@[simp] theorem u_mIxS {md : M PyData} {mk : M Opd} : mIxS md mk = md.bind fun d => mk.bind fun k => fun fr => match d, rsv fr k with
  | .dict ds, some (.str s) => (match dLookS ds s with
    | some x => some (.ok x, fr)
    | none => none)
  | _, _ => none := rfl
@[simp] theorem u_mAll0 : mAll [] = M.pure [] := rfl
@[simp] theorem u_mAll1 {m : M PyData} {ms : List (M PyData)} : mAll (m :: ms) = m.bind fun d => (mAll ms).bind fun ds => M.pure (d :: ds) := rfl
@[simp] theorem u_mDispK {ss : List Str} {ms : List (M PyData)} : mDispK ss ms = (mAll ms).bind fun ds => fun fr => if ss ≠ [] ∧ ss.length ≤ 15 ∧ ss.Nodup ∧ ds.length = ss.length then some (.ok (.dict (zipK ss ds)), fr) else none := rfl
theorem enum_go {m : M PyData} {fr fr1 : Fr} {ds : List PyData} (h : m fr = some (.ok (.list ds), fr1)) : mEnum m fr = some (.ok (enumD 0 ds), fr1) := by
  unfold mEnum
  rw [u_bind, h]
theorem forL_rt {g : G} {body : MS} {d d' : PyData} {ds : List PyData} {fr fr1 fr2 : Fr} (h1 : g d fr = some fr1) (h2 : body fr1 = some (.ok (.rt d'), fr2)) : forL g body (d :: ds) fr = some (.ok (.rt d'), fr2) := by
  unfold forL
  rw [h1]
  simp only []
  rw [h2]
theorem seqD_nx {s1 s2 : MS} {fr fr1 : Fr} {r : Option (Except Xn Fl × Fr)} (h1 : s1 fr = some (.ok .nx, fr1)) (h2 : s2 fr1 = r) : sSeqD s1 s2 fr = r := by
  unfold sSeqD
  rw [u_bind, h1]
  exact h2
theorem seqD_er {s1 s2 : MS} {fr fr1 : Fr} {x : Xn} (h1 : s1 fr = some (.error x, fr1)) : sSeqD s1 s2 fr = some (.error x, fr1) := by
  unfold sSeqD
  rw [u_bind, h1]
theorem runP_er {k N : Nat} {ms : MS} {ds : List PyData} {x : Xn} {fr : Fr} (hk : ds.length = k) (h : ms (ds.map SD.fz ++ List.replicate (N - k) .no) = some (.error x, fr)) : runP k N ms ds = some (.error x) := by
  rw [u_runP, if_pos hk, h]
end EV
end

section
set_option Elab.async false
set_option linter.all false
set_option maxRecDepth 100000
/-! L79a: rules and draws: what the defs answer (turned from k56 by wip/turn56.py). -/
namespace K79
open PySem PySem.Spec PyProof.Rows L2 EV
def isWhole : PyData → Bool
  | .int _ => true
  | _ => false
theorem a_is_whole (v : PyData) : F_is_whole [v] = some (.ok (.bool (isWhole v))) := by
  cases v <;> rfl
def isCount : PyData → Bool
  | .int i => decide (0 ≤ i)
  | _ => false
theorem a_is_count (v : PyData) : F_is_count [v] = some (.ok (.bool (isCount v))) := by
  cases v <;> simp [F_is_count, m_is_count, a_is_whole, isWhole, isCount]
def isBetween (v : PyData) (lo hi : Int) : Bool := match v with
  | .int i => decide (lo ≤ i ∧ i ≤ hi)
  | _ => false
theorem a_is_between (v : PyData) (lo hi : Int) : F_is_between [v, .int lo, .int hi] = some (.ok (.bool (isBetween v lo hi))) := by
  cases v <;> simp [F_is_between, m_is_between, a_is_whole, isWhole, isBetween]
  rename_i i
  by_cases h : lo ≤ i <;> simp [h]
theorem a_is_side (v : PyData) : F_is_side [v] = some (.ok (.bool (isBetween v 0 1))) := by
  simp [F_is_side, m_is_side, a_is_between]
/-- the tuple of a score -/
abbrev sc (x y : Int) : PyData := .tuple [.int x, .int y]
def capD : Option Int → PyData
  | some c => .int c
  | none => .none
/-- a race -/
def race (need lead : Int) (cap : Option Int) (order unit : PyData) (specials : List PyData) : PyData := .tuple [.str "race", .int need, .int lead, capD cap, order, unit, .list specials]
theorem cut14 (a b c d e f g : PyData) : EV.cutD [a, b, c, d, e, f, g] (some 1) (some 4) = [b, c, d] := rfl
/-- won: by the cap, or by need and lead -/
def wonI (need lead : Int) (cap : Option Int) (x y : Int) : Bool := (match cap with | some c => decide (c ≤ max x y) | none => false) || (decide (need ≤ max x y) && decide (lead ≤ (if x - y < 0 then -(x - y) else x - y)))
theorem a_is_won (need lead : Int) (cap : Option Int) (o u : PyData) (sp : List PyData) (x y : Int) : F_is_won [race need lead cap o u sp, sc x y] = some (.ok (.bool (wonI need lead cap x y))) := by
  cases cap with
  | none =>
    simp [F_is_won, m_is_won, race, capD, cut14, wonI]
    by_cases h : need ≤ max x y <;> simp [h]
  | some c =>
    simp [F_is_won, m_is_won, race, capD, cut14, wonI]
    by_cases h0 : c ≤ max x y <;> by_cases h : need ≤ max x y <;> simp [h, h0]
def isWord (v : PyData) (w : Str) : Bool := match v with
  | .tuple [.str x] => decide (x = w)
  | _ => false
theorem a_is_word (v : PyData) (w : Str) : F_is_word [v, .str w] = some (.ok (.bool (isWord v w))) := by
  have no : ∀ u : PyData, isT "tuple" u = false → (∀ ds, u ≠ .tuple ds) := fun u h ds e => by rw [e] at h; simp [isT, tyN] at h
  cases v with
  | tuple ds =>
    match ds with
    | [] => simp [F_is_word, m_is_word, isWord, isT, tyN]
    | [x] => cases x <;> simp [F_is_word, m_is_word, isWord, isT, tyN]
    | x :: y :: r =>
      have h : ((r.length : Int) + 1 + 1 == 1) = false := by
        rw [beq_eq_false_iff_ne]
        omega
      simp [F_is_word, m_is_word, isWord, isT, tyN, h]
  | _ => simp [F_is_word, m_is_word, isWord, isT, tyN]
def isScore : PyData → Bool
  | .tuple [x, y] => isCount x && isCount y
  | _ => false
theorem a_is_score (v : PyData) : F_is_score [v] = some (.ok (.bool (isScore v))) := by
  cases v with
  | tuple ds =>
    match ds with
    | [] => simp [F_is_score, m_is_score, isScore, isT, tyN]
    | [x] => simp [F_is_score, m_is_score, isScore, isT, tyN]
    | [x, y] => cases h : isCount x <;> simp [F_is_score, m_is_score, isScore, isT, tyN, a_is_count, h]
    | x :: y :: z :: r =>
      have h : ((r.length : Int) + 1 + 1 + 1 == 2) = false := by
        rw [beq_eq_false_iff_ne]
        omega
      simp [F_is_score, m_is_score, isScore, isT, tyN, h]
  | _ => simp [F_is_score, m_is_score, isScore, isT, tyN]
def okNums (need lead cap : PyData) : Bool := match need with
  | .int n => decide (1 ≤ n ∧ n ≤ 30) && (isBetween lead 1 3 && (isNone cap || isBetween cap n 40))
  | _ => false
theorem a_numbers (need lead cap : PyData) : F_are_numbers_of_race [need, lead, cap] = some (.ok (.bool (okNums need lead cap))) := by
  have b : ∀ v, (F_is_between [v, .int 1, .int 30]) = some (.ok (.bool (isBetween v 1 30))) := fun v => a_is_between v 1 30
  have b2 : ∀ v, (F_is_between [v, .int 1, .int 3]) = some (.ok (.bool (isBetween v 1 3))) := fun v => a_is_between v 1 3
  cases h : isBetween need 1 30 with
  | false =>
    have e : okNums need lead cap = false := by
      cases need <;> first | rfl | (simp [isBetween] at h; simp [okNums]; omega)
    simp [F_are_numbers_of_race, m_are_numbers_of_race, b, h, e]
  | true =>
    cases need with
    | int n =>
      have hn : decide (1 ≤ n ∧ n ≤ 30) = true := h
      cases h2 : isBetween lead 1 3 with
      | false => simp [F_are_numbers_of_race, m_are_numbers_of_race, b, b2, h, h2, okNums]
      | true =>
        have b3 : F_is_between [cap, .int n, .int 40] = some (.ok (.bool (isBetween cap n 40))) := a_is_between cap n 40
        have hn' : 1 ≤ n ∧ n ≤ 30 := of_decide_eq_true hn
        cases h3 : isNone cap <;> simp [F_are_numbers_of_race, m_are_numbers_of_race, b, b2, b3, h, h2, h3, okNums, hn']
    | _ => cases h

abbrev FP := List PyData → Option (Except Xn PyData)
/-- a tuple of seven that begins with a text -/
theorem irw_seven {Fi Fs : FP} {w : Str} {need lead cap order unit sp : PyData} {d : Int} {bo : Bool} (hd : (d == 0) = false) (ho : F_is_order [order] = some (.ok (.bool bo))) (h : (decide (w = "race") && (okNums need lead cap && bo)) = false) :
    runP 2 9 (m_is_rule_within Fi Fs) [.tuple [.str w, need, lead, cap, order, unit, sp], .int d] = some (.ok (.bool false)) := by
  by_cases e : w = "race"
  · subst e
    simp at h
    cases h2 : okNums need lead cap with
    | false => simp [m_is_rule_within, a_is_word, isWord, hd, isT, tyN, a_numbers, h2]
    | true =>
      have h3 : bo = false := h h2
      subst h3
      simp [m_is_rule_within, a_is_word, isWord, hd, isT, tyN, a_numbers, h2, ho]
  · simp [m_is_rule_within, a_is_word, isWord, hd, isT, tyN, e]
theorem irw_race {Fi Fs : FP} {need lead cap order unit sp : PyData} {d : Int} {b1 b2 : Bool} (hd : (d == 0) = false) (hn : okNums need lead cap = true) (ho : F_is_order [order] = some (.ok (.bool true))) (h1 : Fi [unit, .int (d - 1)] = some (.ok (.bool b1))) (h2 : b1 = true → Fs [sp, .int (d - 1)] = some (.ok (.bool b2))) :
    runP 2 9 (m_is_rule_within Fi Fs) [.tuple [.str "race", need, lead, cap, order, unit, sp], .int d] = some (.ok (.bool (b1 && b2))) := by
  cases b1 with
  | false => simp [m_is_rule_within, a_is_word, isWord, hd, isT, tyN, a_numbers, hn, ho, h1]
  | true => simp [m_is_rule_within, a_is_word, isWord, hd, isT, tyN, a_numbers, hn, ho, h1, h2 rfl]
theorem irw_word {Fi Fs : FP} {v : PyData} {d : Int} (h : (isWord v "rally" || isWord v "hand") = true) : runP 2 9 (m_is_rule_within Fi Fs) [v, .int d] = some (.ok (.bool true)) := by
  cases h1 : isWord v "rally" with
  | true => simp [m_is_rule_within, a_is_word, h1]
  | false =>
    rw [h1, Bool.false_or] at h
    simp [m_is_rule_within, a_is_word, h1, h]
theorem irw_zero {Fi Fs : FP} {v : PyData} (h : (isWord v "rally" || isWord v "hand") = false) : runP 2 9 (m_is_rule_within Fi Fs) [v, .int 0] = some (.ok (.bool false)) := by
  rw [Bool.or_eq_false_iff] at h
  simp [m_is_rule_within, a_is_word, h.1, h.2]
/-- no tuple of seven that begins with a text -/
def noSeven : PyData → Bool
  | .tuple ds => decide (ds.length ≠ 7) || (match ds with | .str _ :: _ => false | _ => true)
  | _ => true
theorem irw_odd {Fi Fs : FP} {v : PyData} {d : Int} (h : (isWord v "rally" || isWord v "hand") = false) (hv : noSeven v = true) : runP 2 9 (m_is_rule_within Fi Fs) [v, .int d] = some (.ok (.bool false)) := by
  rw [Bool.or_eq_false_iff] at h
  cases hd : d == 0 with
  | true =>
    have e : d = 0 := by simpa using hd
    subst e
    exact irw_zero (by rw [h.1, h.2]; rfl)
  | false =>
    cases v with
    | tuple ds =>
      by_cases hl : ds.length = 7
      · match ds, hl with
        | [x0, x1, x2, x3, x4, x5, x6], _ =>
          have : isT "str" x0 = false := by
            cases x0 <;> first | rfl | (simp [noSeven] at hv)
          simp [m_is_rule_within, a_is_word, h.1, h.2, hd, isT, tyN] at this ⊢
          cases x0 <;> simp_all [isT, tyN]
      · have hl2 : ((ds.length : Int) == 7) = false := by rw [beq_eq_false_iff_ne]; omega
        simp [m_is_rule_within, a_is_word, h.1, h.2, hd, isT, tyN, hl2]
    | _ => simp [m_is_rule_within, a_is_word, h.1, h.2, hd, isT, tyN]

/-- a score of 0 .. 40 each and a rule -/
theorem isp_yes {Fi : FP} {x y : Int} {r : PyData} {d : Int} {b : Bool} (hx : 0 ≤ x ∧ x ≤ 40) (hy : 0 ≤ y ∧ y ≤ 40) (hr : Fi [r, .int d] = some (.ok (.bool b))) :
    runP 2 2 (m_is_special Fi) [.tuple [sc x y, r], .int d] = some (.ok (.bool b)) := by
  have h1 : isScore (sc x y) = true := by simp [isScore, sc, isCount]; omega
  have h1' : isScore (.tuple [.int x, .int y]) = true := h1
  have h2 : decide (40 < max x y) = false := by rw [decide_eq_false_iff_not]; omega
  simp [m_is_special, a_is_score, sc, h1', isT, tyN, hr, h2]
theorem ne_nil : pNe (.list []) (.list []) = some (.bool false) := rfl
theorem eq_nil : pEq (.list []) (.list []) = some (.bool true) := rfl
theorem ne_one {a : PyData} (h : SeqAt.shaped (.list [a]) = true) : pNe (.list [a]) (.list []) = some (.bool true) := by
  show (if SeqAt.shaped (.list [a]) && SeqAt.shaped (.list []) then some (PyData.bool (!PyData.eqv (.list [a]) (.list []))) else none) = _
  rw [h]
  rfl
theorem asp_nil {Fs : FP} {d : Int} : runP 2 4 (m_are_specials Fs) [.list [], .int d] = some (.ok (.bool true)) := by
  simp [m_are_specials, isT, tyN, mLc, lcL, wipeF, restF, mRng2, rngD, asL, ne_nil, eq_nil]
theorem asp_one {Fs : FP} {d : Int} {a : PyData} {b : Bool} (hs : SeqAt.shaped (.list [a]) = true) (h : Fs [a, .int d] = some (.ok (.bool b))) : runP 2 4 (m_are_specials Fs) [.list [a], .int d] = some (.ok (.bool b)) := by
  cases b <;> simp [m_are_specials, isT, tyN, mLc, lcL, wipeF, restF, mRng2, rngD, asL, gN, h, sizeLine, ne_nil, eq_nil, ne_one hs]
theorem asp_oneT {Fs : FP} {d : Int} {a : PyData} (h : Fs [a, .int d] = some (.ok (.bool true))) : runP 2 4 (m_are_specials Fs) [.list [a], .int d] = some (.ok (.bool true)) := by
  simp [m_are_specials, isT, tyN, mLc, lcL, wipeF, restF, mRng2, rngD, asL, gN, h, sizeLine, ne_nil, eq_nil]
theorem ge_sc {i j k l : Int} : pGe (sc i j) (sc k l) = some (.bool (if i = k then decide (l ≤ j) else decide (k ≤ i))) := rfl
/-- two specials whose scores rise -/
theorem asp_two {Fs : FP} {x y k l d : Int} {r s : PyData} (h1 : Fs [.tuple [sc x y, r], .int d] = some (.ok (.bool true))) (h2 : Fs [.tuple [sc k l, s], .int d] = some (.ok (.bool true))) (hlt : x < k ∨ x = k ∧ y < l) :
    runP 2 4 (m_are_specials Fs) [.list [.tuple [sc x y, r], .tuple [sc k l, s]], .int d] = some (.ok (.bool true)) := by
  have hg : pGe (sc x y) (sc k l) = some (.bool false) := by
    rw [ge_sc]
    split
    · rw [decide_eq_false (by omega)]
    · rw [decide_eq_false (by omega)]
  have e : List.range 1 = [0] := rfl
  simp [m_are_specials, isT, tyN, mLc, lcL, wipeF, restF, mRng2, rngD, asL, gN, h1, h2, sizeLine, ne_nil, eq_nil, hg, e]

def rallyD : PyData := .tuple [.str "rally"]
def handD : PyData := .tuple [.str "hand"]
def rowD (ms : List Int) : PyData := .tuple [.str "row", .list (ms.map PyData.int)]
/-- the orders that the law draws -/
def ordL : List PyData := [rowD [0, 1], rowD [0, 1, 1, 0], rowD [1, 0], rowD [0, 0, 1, 1], rowD [1], rowD [0], rowD [0, 1, 1], rowD [1, 1, 0],
  .tuple [.str "on"], .tuple [.str "turns"], .tuple [.str "winner"], .tuple [.str "loser"]]
theorem a_ordL {o : PyData} (h : o ∈ ordL) : F_is_order [o] = some (.ok (.bool true)) := by
  simp only [ordL, List.mem_cons, List.not_mem_nil, or_false] at h
  rcases h with rfl | rfl | rfl | rfl | rfl | rfl | rfl | rfl | rfl | rfl | rfl | rfl <;> kernel_rfl
/-- none, one or two specials, whose scores rise -/
inductive SpOk (P : PyData → Prop) (need : Int) : List PyData → Prop
  | nil : SpOk P need []
  | one {x y : Int} {r : PyData} : 0 ≤ x → x ≤ need → 0 ≤ y → y ≤ need → P r → SpOk P need [.tuple [sc x y, r]]
  | two {x y k l : Int} {r s : PyData} : 0 ≤ x → x ≤ need → 0 ≤ y → y ≤ need → 0 ≤ k → k ≤ need → 0 ≤ l → l ≤ need → (x < k ∨ x = k ∧ y < l) → P r → P s → SpOk P need [.tuple [sc x y, r], .tuple [sc k l, s]]
def capOk (need : Int) : Option Int → Prop
  | none => True
  | some c => need ≤ c ∧ c ≤ 40
/-- a race with rules that keep P -/
def RaceOk (P : PyData → Prop) (v : PyData) : Prop := ∃ need lead cap o u sp, v = race need lead cap o u sp ∧ 1 ≤ need ∧ need ≤ 30 ∧ 1 ≤ lead ∧ lead ≤ 3 ∧ capOk need cap ∧ o ∈ ordL ∧ P u ∧ SpOk P need sp
def RuleOk : Nat → PyData → Prop
  | 0 => fun v => v = rallyD ∨ v = handD
  | n + 1 => fun v => (v = rallyD ∨ v = handD) ∨ RaceOk (RuleOk n) v
theorem okNums_race {need lead : Int} {cap : Option Int} (h1 : 1 ≤ need) (h2 : need ≤ 30) (h3 : 1 ≤ lead) (h4 : lead ≤ 3) (h5 : capOk need cap) : okNums (.int need) (.int lead) (capD cap) = true := by
  cases cap with
  | none => simp [okNums, isBetween, isNone, capD]; omega
  | some c =>
    have h5' : need ≤ c ∧ c ≤ 40 := h5
    simp [okNums, isBetween, isNone, capD]; omega
theorem irw_ok : ∀ (n d : Nat) (v : PyData), n ≤ d → RuleOk n v → F_is_rule_within (d + 1) [v, .int d] = some (.ok (.bool true)) := by
  have hw : ∀ (d : Nat) (v : PyData), (v = rallyD ∨ v = handD) → F_is_rule_within (d + 1) [v, .int d] = some (.ok (.bool true)) := by
    intro d v h
    refine irw_word ?_
    rcases h with rfl | rfl <;> decide
  intro n
  induction n with
  | zero => exact fun d v _ h => hw d v h
  | succ n ih =>
    intro d v hd h
    rcases h with h | ⟨need, lead, cap, o, u, sp, rfl, h1, h2, h3, h4, h5, ho, hu, hs⟩
    · exact hw d v h
    · obtain ⟨d, rfl⟩ : ∃ d', d = d' + 1 := ⟨d - 1, by omega⟩
      have hd' : n ≤ d := by omega
      have e : ((d + 1 : Nat) : Int) - 1 = (d : Int) := by omega
      have b := irw_race (Fi := F_is_rule_within (d + 1)) (Fs := F_are_specials (d + 1)) (sp := .list sp) (d := ((d + 1 : Nat) : Int)) (b1 := true) (b2 := true) (by rw [beq_eq_false_iff_ne]; omega) (okNums_race h1 h2 h3 h4 h5) (a_ordL ho)
        (by rw [e]; exact ih d u hd' hu)
        (fun _ => by
          rw [e]
          cases hs with
          | nil => exact asp_nil
          | one hx hx' hy hy' hr => 
            have q := isp_yes (Fi := F_is_rule_within (d + 1)) (b := true) ⟨hx, by omega⟩ ⟨hy, by omega⟩ (ih d _ hd' hr)
            exact asp_oneT q
          | two hx hx' hy hy' hk hk' hl hl' hlt hr hq =>
            exact asp_two (isp_yes ⟨hx, by omega⟩ ⟨hy, by omega⟩ (ih d _ hd' hr)) (isp_yes ⟨hk, by omega⟩ ⟨hl, by omega⟩ (ih d _ hd' hq)) hlt)
      exact b

@[simp] theorem u_Expr {m : M PyData} : sExpr m = m.bind fun _ => M.pure .nx := rfl
@[simp] theorem u_Raise {c : Nat} {m : M PyData} : sRaise c m = m.bind fun d => fun fr => some (.error (c, d), fr) := rfl
theorem a_is_rule {v : PyData} {b : Bool} (h : F_is_rule_within 5 [v, .int 4] = some (.ok (.bool b))) : F_is_rule [v] = some (.ok (.bool b)) := by
  simp [F_is_rule, m_is_rule, D_DEEPEST, h]
theorem a_rule_ok {n : Nat} {v : PyData} (hn : n ≤ 4) (h : RuleOk n v) : F_is_rule [v] = some (.ok (.bool true)) := a_is_rule (irw_ok n 4 v hn h)
theorem c_rule {v : PyData} (h : F_is_rule [v] = some (.ok (.bool true))) : F_check_rule [v] = some (.ok .none) := by
  simp [F_check_rule, m_check_rule, h]
theorem c_rule_no {v : PyData} (h : F_is_rule [v] = some (.ok (.bool false))) : F_check_rule [v] = some (.error (3, v)) := by
  simp [F_check_rule, m_check_rule, h]
theorem bits_sm {i : Int} {k : Nat} (h : i.natAbs < 2 ^ k) : bitsI i ≤ k := PySem.intBits_le_iff.mpr h
theorem mulb {i j : Int} (hi : i.natAbs < 2 ^ 100) (hj : j.natAbs < 2 ^ 100) : bitsI i + bitsI j ≤ 134217728 := by
  have a := bits_sm hi
  have b := bits_sm hj
  omega
def hash1 (s i : Int) : Int := (s * 1140671 + 27644437 * i * i + 131 * i + 19) % 2147483629
def hash2 (s i : Int) : Int := (hash1 s i * hash1 s i + 62089 * i + 32416187) % 2147483587
def hashI (s i : Int) : Int := hash2 s i * 48271 % 2147483647
theorem a_hash {s i : Int} (hs : 0 ≤ s) (hs2 : s < 2147483648) (hi : 0 ≤ i) (hi2 : i < 2199023255552) : F__law_hash [.int s, .int i] = some (.ok (.int (hashI s i))) := by
  have e1 : 0 ≤ hash1 s i ∧ hash1 s i < 2147483629 := ⟨Int.emod_nonneg _ (by decide), Int.emod_lt_of_pos _ (by decide)⟩
  have e2 : 0 ≤ hash2 s i ∧ hash2 s i < 2147483587 := ⟨Int.emod_nonneg _ (by decide), Int.emod_lt_of_pos _ (by decide)⟩
  have c1 : bitsI s + bitsI 1140671 ≤ 134217728 := mulb (by omega) (by decide)
  have c2 : bitsI 27644437 + bitsI i ≤ 134217728 := mulb (by decide) (by omega)
  have c3 : bitsI (27644437 * i) + bitsI i ≤ 134217728 := mulb (by omega) (by omega)
  have c4 : bitsI 131 + bitsI i ≤ 134217728 := mulb (by decide) (by omega)
  have c5 : bitsI (hash1 s i) + bitsI (hash1 s i) ≤ 134217728 := mulb (by omega) (by omega)
  have c6 : bitsI 62089 + bitsI i ≤ 134217728 := mulb (by decide) (by omega)
  have c7 : bitsI (hash2 s i) + bitsI 48271 ≤ 134217728 := mulb (by omega) (by decide)
  have a1 : (sAsg (mP2 pMod (mVal (mPN pInt (A1 (mVal (mP2 pAdd (mVal (mP2 pAdd (mVal (mP2 pAdd (mVal (mP2 pMulI (mSlot 0) (mVal (mC (.int 1140671))))) (mVal (mP2 pMulI (mVal (mP2 pMulI (mVal (mC (.int 27644437))) (mSlot 1))) (mSlot 1))))) (mVal (mP2 pMulI (mVal (mC (.int 131))) (mSlot 1))))) (mVal (mC (.int 19)))))))) (mVal (mC (.int 2147483629)))) (gN 2)) [.fz (.int s), .fz (.int i), .no] = some (.ok .nx, [.fz (.int s), .fz (.int i), .fz (.int (hash1 s i))]) := by
    simp [A1, c1, c2, c3, c4, hash1]
  have a2 : (sAsg (mP2 pMod (mVal (mPN pInt (A1 (mVal (mP2 pAdd (mVal (mP2 pAdd (mVal (mP2 pMulI (mSlot 2) (mSlot 2))) (mVal (mP2 pMulI (mVal (mC (.int 62089))) (mSlot 1))))) (mVal (mC (.int 32416187)))))))) (mVal (mC (.int 2147483587)))) (gN 2)) [.fz (.int s), .fz (.int i), .fz (.int (hash1 s i))] = some (.ok .nx, [.fz (.int s), .fz (.int i), .fz (.int (hash2 s i))]) := by
    simp [A1, c5, c6, hash2]
  refine runP_rt rfl (fr := [.fz (.int s), .fz (.int i), .fz (.int (hash2 s i))]) ?_
  refine seq_nx a1 (seq_nx a2 (ret_go ?_))
  simp [A1, c7, hashI]
/-- a generator that serves n further draws -/
def GenOk (n : Nat) (g : List PyData) : Prop := ∃ a b c : Int, g = [.int a, .int b, .int c] ∧ 0 ≤ b ∧ b < 2147483648 ∧ 0 ≤ c ∧ c + n ≤ 1099511627776
theorem GenOk.mono {n m : Nat} {g : List PyData} (h : GenOk n g) (hm : m ≤ n) : GenOk m g := by
  obtain ⟨a, b, c, e, h1, h2, h3, h4⟩ := h
  exact ⟨a, b, c, e, h1, h2, h3, by omega⟩
theorem a_random {n : Nat} {g : List PyData} {m : Int} (hg : GenOk (n + 1) g) (h0 : 1 ≤ m) (h1 : m ≤ 1000000) : ∃ r g', F__law_random g [.int m] = some (.ok (.int r), g') ∧ 0 ≤ r ∧ r < m ∧ GenOk n g' := by
  obtain ⟨a, b, c, rfl, hb, hb2, hc, hc2⟩ := hg
  have hp : 0 < m := by omega
  by_cases ha : 0 < a
  · have hl : m.natAbs.log2 < 9000 := by
      have : m.natAbs.log2 < 21 := (Nat.log2_lt (by omega)).mpr (by omega)
      omega
    refine ⟨a % m, [.int (a / m), .int b, .int c], ?_, Int.emod_nonneg _ (by omega), Int.emod_lt_of_pos _ hp, a / m, b, c, rfl, hb, hb2, hc, by omega⟩
    have ix : ixN 3 0 = some 0 := by decide
    simp [F__law_random, runL, m__law_random, A1, ha, hp, hl, ix]
  · have hB : bitsI m ≤ 21 := bits_sm (by omega)
    have hB2 : (1 : Int) + (bitsI m : Nat) / 30 = 1 := by omega
    have ix : ixN 3 2 = some 2 := by decide
    have hh := a_hash (s := b) (i := c + 1) hb hb2 (by omega) (by omega)
    have mb : bitsI 0 + bitsI 2147483587 ≤ 134217728 := mulb (by decide) (by decide)
    have l2 : Nat.log2 30 < 9000 := by decide
    refine ⟨hashI b (c + 1) % m, [.int a, .int b, .int (c + 1)], ?_, Int.emod_nonneg _ (by omega), Int.emod_lt_of_pos _ hp, a, b, c + 1, rfl, hb, hb2, by omega, by omega⟩
    refine runL_rt rfl (fr := [.fz (.int m), .fz (.int (hashI b (c + 1))), .fz (.int 0)]) ?_
    refine seq_nx (fr1 := [.ow true (.list [.int a, .int b, .int c]), .fz (.int m), .no, .no]) (by simp [ha]) ?_
    refine seq_nx (fr1 := [.ow true (.list [.int a, .int b, .int c]), .fz (.int m), .fz (.int 0), .no]) (by simp) ?_
    have r := rng1_go (as := mCons (mVal (mP2 pAdd (mVal (mC (.int 1))) (mVal (mP2 pDiv (mVal (mBits (mVar 1))) (mVal (mC (.int 30))))))) mNil) (fr := [.ow true (.list [.int a, .int b, .int c]), .fz (.int m), .fz (.int 0), .no]) (fr1 := [.ow true (.list [.int a, .int b, .int c]), .fz (.int m), .fz (.int 0), .no]) (xs := [.inl (.int (1 + ((bitsI m : Nat) : Int) / 30))]) (j := 1 + ((bitsI m : Nat) : Int) / 30) (by simp [l2]) rfl (by omega) (by omega)
    rw [hB2] at r
    refine seq_nx (for_go r (forL_cons (d := .int 0) (ds := []) rfl (fr2 := [.ow true (.list [.int a, .int b, .int (c + 1)]), .fz (.int m), .fz (.int (hashI b (c + 1))), .fz (.int 0)]) (by simp [ix, mb, hh]) rfl)) ?_
    refine ret_go ?_
    simp [A1, hp]
theorem a_pick {n : Nat} {g ds : List PyData} (hg : GenOk (n + 1) g) (h0 : 1 ≤ ds.length) (h1 : ds.length ≤ 1000000) : ∃ d g', F__law_pick g [.list ds] = some (.ok d, g') ∧ d ∈ ds ∧ GenOk n g' := by
  obtain ⟨r, g', q, hr, hr2, hg'⟩ := a_random (m := ds.length) hg (by omega) (by omega)
  obtain ⟨j, rfl⟩ := Int.eq_ofNat_of_zero_le hr
  have hj : j < ds.length := by omega
  refine ⟨ds[j], g', ?_, List.getElem_mem hj, hg'⟩
  have at_ : L2.atI ds (j : Int) = some ds[j] := L2.atI_nat (by simp [hj])
  simp [F__law_pick, runL, m__law_pick, A1, q, at_]
theorem a_order {n : Nat} {g : List PyData} (hg : GenOk (n + 2) g) : ∃ o g', F__law_order g [] = some (.ok o, g') ∧ o ∈ ordL ∧ GenOk n g' := by
  have two : (2 : Nat) ≤ sizeLine := by decide
  have one : (1 : Nat) ≤ sizeLine := by decide
  have four : (4 : Nat) ≤ sizeLine := by decide
  have three : (3 : Nat) ≤ sizeLine := by decide
  have eight : (8 : Nat) ≤ sizeLine := by decide
  obtain ⟨r, g1, q1, _, _, hg1⟩ := a_random (m := 3) hg (by decide) (by decide)
  by_cases hr : r = 0
  · obtain ⟨d, g2, q2, hd, hg2⟩ := a_pick (ds := [.list [.int 0, .int 1], .list [.int 0, .int 1, .int 1, .int 0], .list [.int 1, .int 0], .list [.int 0, .int 0, .int 1, .int 1], .list [.int 1], .list [.int 0], .list [.int 0, .int 1, .int 1], .list [.int 1, .int 1, .int 0]]) hg1 (by decide) (by decide)
    refine ⟨.tuple [.str "row", d], g2, ?_, ?_, hg2⟩
    · subst hr
      simp [F__law_order, runL, m__law_order, q1, one, two, three, four, eight, q2]
    · simp only [List.mem_cons, List.not_mem_nil, or_false] at hd
      rcases hd with rfl | rfl | rfl | rfl | rfl | rfl | rfl | rfl <;> simp [ordL, rowD]
  · obtain ⟨d, g2, q2, hd, hg2⟩ := a_pick (ds := [.str "on", .str "turns", .str "winner", .str "loser"]) hg1 (by decide) (by decide)
    refine ⟨.tuple [d], g2, ?_, ?_, hg2⟩
    · have hr' : (r == 0) = false := by simpa using hr
      simp [F__law_order, runL, m__law_order, q1, hr', one, four, q2]
    · simp only [List.mem_cons, List.not_mem_nil, or_false] at hd
      rcases hd with rfl | rfl | rfl | rfl <;> simp [ordL, rowD]

theorem nice_word {w : Str} (h1 : PyData.strOk w = true) (h2 : (PyData.str w).leavesShort 1921 = true) (h3 : w.cps.size ≤ 8) {e : Nat} : Nice 8 e (.str w) := ⟨by simp only [PyData.canLay0, h1], h2, by simp only [PyData.showable], by simp only [PyData.weight]; exact h3, by simp only [PyData.depth]; omega⟩
theorem nice_race_w {e : Nat} : Nice 8 e (.str "race") := nice_word (by decide +kernel) (by decide +kernel) (by decide +kernel)
theorem nice_sc {x y : Int} {e : Nat} (hx : 0 ≤ x ∧ x ≤ 40) (hy : 0 ≤ y ∧ y ≤ 40) : Nice 14 (e + 1) (sc x y) :=
  (Nices.cons (nice_int (k := 6) (by omega) (by decide)) (Nices.cons (nice_int (k := 6) (by omega) (by decide)) (Nices.nil (n := 0)) (Nat.le_refl _)) (by decide)).tup
theorem nice_ord {o : PyData} (h : o ∈ ordL) {e : Nat} : Nice 40 (e + 3) o := by
  have z : Nice 40 3 o := by
    simp only [ordL, List.mem_cons, List.not_mem_nil, or_false] at h
    rcases h with rfl | rfl | rfl | rfl | rfl | rfl | rfl | rfl | rfl | rfl | rfl | rfl <;> exact ⟨by decide +kernel, by decide +kernel, by decide +kernel, by decide +kernel, by decide +kernel⟩
  exact z.mono (Nat.le_refl _) (by omega)
theorem nice_cap {need : Int} {cap : Option Int} (h : capOk need cap) (hn : 1 ≤ need) {e : Nat} : Nice 6 e (capD cap) := by
  cases cap with
  | none => exact nice_none
  | some c =>
    have : need ≤ c ∧ c ≤ 40 := h
    exact nice_int (by omega) (by decide)
theorem nice_sp {P : PyData → Prop} {need : Int} {sp : List PyData} {w e : Nat} (hP : ∀ v, P v → Nice w (e + 1) v) (hn : need ≤ 30) (h : SpOk P need sp) : Nice (2 * w + 40) (e + 3) (.list sp) := by
  cases h with
  | nil => exact (Nices.nil (e := e + 2)).lst
  | one hx hx2 hy hy2 hr =>
    exact (Nices.cons (Nices.cons (nice_sc ⟨hx, by omega⟩ ⟨hy, by omega⟩) (Nices.cons (hP _ hr) (Nices.nil (n := 0)) (Nat.le_refl _)) (Nat.le_refl _)).tup (Nices.nil (n := 0)) (by omega)).lst
  | two hx hx2 hy hy2 hk hk2 hl hl2 hlt hr hs =>
    exact (Nices.cons (Nices.cons (nice_sc ⟨hx, by omega⟩ ⟨hy, by omega⟩) (Nices.cons (hP _ hr) (Nices.nil (n := 0)) (Nat.le_refl _)) (Nat.le_refl _)).tup
      (Nices.cons (Nices.cons (nice_sc ⟨hk, by omega⟩ ⟨hl, by omega⟩) (Nices.cons (hP _ hs) (Nices.nil (n := 0)) (Nat.le_refl _)) (Nat.le_refl _)).tup (Nices.nil (n := 0)) (Nat.le_refl _)) (by omega)).lst
theorem nice_seven {w0 w1 w2 w3 w4 w5 w6 e k : Nat} {d0 d1 d2 d3 d4 d5 d6 : PyData} (h0 : Nice w0 e d0) (h1 : Nice w1 e d1) (h2 : Nice w2 e d2) (h3 : Nice w3 e d3) (h4 : Nice w4 e d4) (h5 : Nice w5 e d5) (h6 : Nice w6 e d6) (hk : w0 + w1 + w2 + w3 + w4 + w5 + w6 + 7 ≤ k) : Nices k e [d0, d1, d2, d3, d4, d5, d6] :=
  Nices.cons h0 (Nices.cons h1 (Nices.cons h2 (Nices.cons h3 (Nices.cons h4 (Nices.cons h5 (Nices.cons h6 (Nices.nil (n := 0)) (Nat.le_refl _)) (Nat.le_refl _)) (Nat.le_refl _)) (Nat.le_refl _)) (Nat.le_refl _)) (Nat.le_refl _)) (by omega)
theorem nice_race {P : PyData → Prop} {v : PyData} {w e : Nat} (hP : ∀ v, P v → Nice w (e + 1) v) (h : RaceOk P v) : Nice (3 * w + 150) (e + 4) v := by
  obtain ⟨need, lead, cap, o, u, sp, rfl, h1, h2, h3, h4, h5, h6, h7, h8⟩ := h
  have a1 : Nice 6 (e + 3) (.int need) := nice_int (by omega) (by decide)
  have a2 : Nice 6 (e + 3) (.int lead) := nice_int (by omega) (by decide)
  have a3 : Nice 6 (e + 3) (capD cap) := nice_cap h5 h1
  have a4 : Nice 40 (e + 3) o := nice_ord h6
  have a5 : Nice w (e + 3) u := (hP _ h7).mono (Nat.le_refl _) (by omega)
  have a6 : Nice (2 * w + 40) (e + 3) (.list sp) := nice_sp hP h2 h8
  have a := nice_seven (k := 3 * w + 150) nice_race_w a1 a2 a3 a4 a5 a6 (by omega)
  exact a.tup
theorem nice_w0 {v : PyData} (h : v = rallyD ∨ v = handD) : Nice 10 1 v := by
  rcases h with rfl | rfl <;> exact ⟨by decide +kernel, by decide +kernel, by decide +kernel, by decide +kernel, by decide +kernel⟩
theorem nice_r0 (v : PyData) (h : RuleOk 0 v) : Nice 10 1 v := nice_w0 h
theorem nice_r1 (v : PyData) (h : RuleOk 1 v) : Nice 180 4 v := by
  rcases h with h | h
  · exact (nice_w0 h).mono (by decide) (by decide)
  · exact nice_race (w := 10) (e := 0) nice_r0 h
theorem nice_race1 {v : PyData} (h : RaceOk (RuleOk 1) v) : Nice 690 7 v := nice_race (w := 180) (e := 3) nice_r1 h

end K79
end

section
set_option Elab.async false
set_option linter.all false
set_option maxRecDepth 100000
/-! L79b: units, beginnings, one rally: play and the law's play fit (plain Lean). -/
namespace K79
open PySem PySem.Spec PyProof.Rows L2 EV
theorem eq_sc {i j k l : Int} : pEq (sc i j) (sc k l) = some (.bool (decide (i = k ∧ j = l))) := by
  show (if SeqAt.shaped (sc i j) && SeqAt.shaped (sc k l) then some (PyData.bool (PyData.eqv (sc i j) (sc k l))) else none) = _
  have e : PyData.eqv (sc i j) (sc k l) = decide (i = k ∧ j = l) := by
    rw [Bool.eq_iff_iff]
    simp [sc, PyData.eqv, PyData.eqvAll]
  rw [e]
  have s1 : SeqAt.shaped (sc i j) = true := by
    simp [SeqAt.shaped, sc, PyData.canLay0, PyData.canLayAll0, PyData.depth, PyData.depthAll]
  have s2 : SeqAt.shaped (sc k l) = true := by
    simp [SeqAt.shaped, sc, PyData.canLay0, PyData.canLayAll0, PyData.depth, PyData.depthAll]
  rw [s1, s2]
  rfl
/-- a value that can be compared -/
def Cmp (e : Nat) (v : PyData) : Prop := v.canLay0 = true ∧ v.depth ≤ e
theorem cmp_of {n e : Nat} {v : PyData} (h : Nice n e v) : Cmp e v := ⟨h.lay, h.dp⟩
theorem shaped_one {v : PyData} {e : Nat} (h : Cmp e v) (he : e ≤ 60) : SeqAt.shaped (.list [v]) = true := by
  have a := h.1
  have b := h.2
  simp [SeqAt.shaped, PyData.canLay0, PyData.canLayAll0, PyData.depth, PyData.depthAll, a]
  omega
theorem shaped_two {v w : PyData} {e : Nat} (h : Cmp e v) (h2 : Cmp e w) (he : e ≤ 60) : SeqAt.shaped (.list [v, w]) = true := by
  have a := h.1
  have b := h.2
  have a2 := h2.1
  have b2 := h2.2
  simp [SeqAt.shaped, PyData.canLay0, PyData.canLayAll0, PyData.depth, PyData.depthAll, a, a2]
  omega
theorem ne_two {a b : PyData} (h : SeqAt.shaped (.list [a, b]) = true) : pNe (.list [a, b]) (.list []) = some (.bool true) := by
  show (if SeqAt.shaped (.list [a, b]) && SeqAt.shaped (.list []) then some (PyData.bool (!PyData.eqv (.list [a, b]) (.list []))) else none) = _
  rw [h]
  rfl
/-- the unit behind a score, told twice alike -/
theorem a_unit {P : PyData → Prop} {need lead : Int} {cap : Option Int} {o u : PyData} {sp : List PyData} {x y : Int} {e : Nat} (hP : ∀ v, P v → Cmp e v) (he : e ≤ 60) (hu : P u) (hs : SpOk P need sp) :
    ∃ r, P r ∧ F_unit_of [race need lead cap o u sp, sc x y] = some (.ok r) ∧ F__law_unit [race need lead cap o u sp, sc x y] = some (.ok r) := by
  have z1 : (1 : Nat) ≤ sizeLine := by decide
  have z0 : (0 : Nat) < sizeLine := by decide
  have z2 : (1 : Nat) < sizeLine := by decide
  cases hs with
  | nil =>
    refine ⟨u, hu, ?_, ?_⟩
    · simp [F_unit_of, m_unit_of, race, asL, sFor, forL]
    · simp [F__law_unit, m__law_unit, race, asL, mLc, lcL, wipeF, restF, sOwn, ne_nil]
  | @one i j r hx hx2 hy hy2 hr =>
    have hq := ne_one (shaped_one (hP r hr) he)
    by_cases h : i = x ∧ j = y
    · refine ⟨r, hr, ?_, ?_⟩
      · simp [F_unit_of, m_unit_of, race, asL, sFor, forL, eq_sc, h]
      · simp [F__law_unit, m__law_unit, race, asL, mLc, lcL, wipeF, restF, sOwn, eq_sc, h, hq, z0, gT, gN, z1, z2]
    · refine ⟨u, hu, ?_, ?_⟩
      · simp [F_unit_of, m_unit_of, race, asL, sFor, forL, eq_sc, h]
      · simp [F__law_unit, m__law_unit, race, asL, mLc, lcL, wipeF, restF, sOwn, eq_sc, h, ne_nil, z0, gT, gN, z1, z2]
  | @two i j k l r s hx hx2 hy hy2 hk hk2 hl hl2 hlt hr hs =>
    have hq := ne_one (shaped_one (hP r hr) he)
    have hq2 := ne_one (shaped_one (hP s hs) he)
    by_cases h : i = x ∧ j = y
    · have h2 : ¬ (k = x ∧ l = y) := by omega
      refine ⟨r, hr, ?_, ?_⟩
      · simp [F_unit_of, m_unit_of, race, asL, sFor, forL, eq_sc, h]
      · simp [F__law_unit, m__law_unit, race, asL, mLc, lcL, wipeF, restF, sOwn, eq_sc, h, h2, hq, z0, gT, gN, z1, z2]
    · by_cases h2 : k = x ∧ l = y
      · refine ⟨s, hs, ?_, ?_⟩
        · simp [F_unit_of, m_unit_of, race, asL, sFor, forL, eq_sc, h, h2]
        · simp [F__law_unit, m__law_unit, race, asL, mLc, lcL, wipeF, restF, sOwn, eq_sc, h, h2, hq2, z0, gT, gN, z1, z2]
      · refine ⟨u, hu, ?_, ?_⟩
        · simp [F_unit_of, m_unit_of, race, asL, sFor, forL, eq_sc, h, h2]
        · simp [F__law_unit, m__law_unit, race, asL, mLc, lcL, wipeF, restF, sOwn, eq_sc, h, h2, ne_nil, z0, gT, gN, z1, z2]
end K79
end

section
set_option Elab.async false
set_option linter.all false
set_option maxRecDepth 100000
/-! L79c: beginnings and rallies: play and the law's play fit (plain Lean). -/
namespace K79
open PySem PySem.Spec PyProof.Rows L2 EV
theorem cmp_r1 (v : PyData) (h : RuleOk 1 v) : Cmp 20 v := cmp_of ((nice_r1 v h).mono (Nat.le_refl _) (by decide))
theorem cmp_r0 (v : PyData) (h : RuleOk 0 v) : Cmp 20 v := cmp_of ((nice_r0 v h).mono (Nat.le_refl _) (by decide))
theorem nice_ruleOk : ∀ (n : Nat) (v : PyData), n ≤ 4 → RuleOk n v → Nice (200 * 4 ^ n) (4 * n + 1) v
  | 0, v, _, h => (nice_r0 v h).mono (by decide) (by decide)
  | n + 1, v, hn, h => by
    rcases h with h | h
    · exact (nice_w0 h).mono (by have : 0 < 4 ^ (n + 1) := Nat.pow_pos (by decide); omega) (by omega)
    · refine (nice_race (w := 200 * 4 ^ n) (e := 4 * n) (fun v z => nice_ruleOk n v (by omega) z) h).mono ?_ (by omega)
      have : 0 < 4 ^ n := Nat.pow_pos (by decide)
      rw [Nat.pow_succ]
      omega
theorem cmp_ruleOk {n : Nat} (hn : n ≤ 4) (v : PyData) (h : RuleOk n v) : Cmp 20 v := cmp_of ((nice_ruleOk n v hn h).mono (Nat.le_refl _) (by omega))
def side (s : Int) : Prop := s = 0 ∨ s = 1
theorem side_flip {s : Int} (h : side s) : side (1 - s) := by
  rcases h with rfl | rfl
  · exact .inr rfl
  · exact .inl rfl
/-- a state of play and the law's -/
def St : Nat → PyData → PyData → PyData → Prop
  | 0, _, a, b => ∃ s, side s ∧ a = .tuple [.int s] ∧ b = .list [.int s]
  | n + 1, r, a, b => ((r = rallyD ∨ r = handD) ∧ ∃ s, side s ∧ a = .tuple [.int s] ∧ b = .list [.int s]) ∨
    ∃ x y f t a' b' r', side f ∧ side t ∧ 0 ≤ x ∧ 0 ≤ y ∧ a = .tuple [.int x, .int y, .int f, .int t, a'] ∧ b = .list [.int x, .int y, .int f, .int t, b'] ∧ RaceOk (RuleOk n) r ∧ RuleOk n r' ∧
      F_unit_of [r, sc x y] = some (.ok r') ∧ F__law_unit [r, sc x y] = some (.ok r') ∧ St n r' a' b'
/-- who serves first of a race -/
def ordF (o : PyData) (s : Int) : Int := match o with
  | .tuple [.str _, .list (.int m :: _)] => if m = 1 then 1 - s else s
  | _ => s
theorem ordF_side {o : PyData} {s : Int} (h : side s) : side (ordF o s) := by
  unfold ordF
  split
  · split
    · exact side_flip h
    · exact h
  · exact h
theorem begin_turn {o : PyData} (ho : o ∈ ordL) {need lead : Int} {cap : Option Int} {u : PyData} {sp : List PyData} {s : Int} (hs : side s) :
    F__law_first_turn [race need lead cap o u sp, .int s] = some (.ok (.int (ordF o s))) := by
  simp only [ordL, List.mem_cons, List.not_mem_nil, or_false] at ho
  rcases hs with rfl | rfl <;> rcases ho with rfl | rfl | rfl | rfl | rfl | rfl | rfl | rfl | rfl | rfl | rfl | rfl <;> kernel_rfl
abbrev bgS (F : FP) : MS := (sSeq (sAsg (mVar 1) (gN 2)) (sSeq (mIf (nAnd (asB (mP2 pEq (mVal (mP2 pIx (mVal (mP2 pIx (mSlot 0) (mVal (mC (.int 4))))) (mVal (mC (.int 0))))) (mVal (mC (.str "row"))))) (asB (mP2 pEq (mVal (mP2 pIx (mVal (mP2 pIx (mVal (mP2 pIx (mSlot 0) (mVal (mC (.int 4))))) (mVal (mC (.int 1))))) (mVal (mC (.int 0))))) (mVal (mC (.int 1)))))) (sAsg (mP2 pSub (mVal (mC (.int 1))) (mSlot 1)) (gN 2)) (M.pure .nx)) (M.pure .nx)))
theorem bg_turn {o : PyData} (ho : o ∈ ordL) {need lead : Int} {cap : Option Int} {u : PyData} {sp : List PyData} {s : Int} (hs : side s) :
    (mIf (nAnd (asB (mP2 pEq (mVal (mP2 pIx (mVal (mP2 pIx (mSlot 0) (mVal (mC (.int 4))))) (mVal (mC (.int 0))))) (mVal (mC (.str "row"))))) (asB (mP2 pEq (mVal (mP2 pIx (mVal (mP2 pIx (mVal (mP2 pIx (mSlot 0) (mVal (mC (.int 4))))) (mVal (mC (.int 1))))) (mVal (mC (.int 0))))) (mVal (mC (.int 1)))))) (sAsg (mP2 pSub (mVal (mC (.int 1))) (mSlot 1)) (gN 2)) (M.pure .nx)) [.fz (race need lead cap o u sp), .fz (.int s), .fz (.int s)] = some (.ok .nx, [.fz (race need lead cap o u sp), .fz (.int s), .fz (.int (ordF o s))]) := by
  simp only [ordL, List.mem_cons, List.not_mem_nil, or_false] at ho
  rcases hs with rfl | rfl <;> rcases ho with rfl | rfl | rfl | rfl | rfl | rfl | rfl | rfl | rfl | rfl | rfl | rfl <;> kernel_rfl
theorem a_begun : ∀ (n N : Nat) (r : PyData) (s : Int), n < N → N ≤ 5 → RuleOk n r → side s → ∃ a b, F_begun N [r, .int s] = some (.ok a) ∧ F__law_start N [r, .int s] = some (.ok b) ∧ St n r a b := by
  have leaf : ∀ (N : Nat) (r : PyData) (s : Int), 0 < N → (r = rallyD ∨ r = handD) → F_begun N [r, .int s] = some (.ok (.tuple [.int s])) ∧ F__law_start N [r, .int s] = some (.ok (.list [.int s])) := by
    intro N r s hN hr
    obtain ⟨N, rfl⟩ : ∃ M, N = M + 1 := ⟨N - 1, by omega⟩
    have z1 : (1 : Nat) ≤ sizeLine := by decide
    rcases hr with rfl | rfl
    · exact ⟨by kernel_rfl, by kernel_rfl⟩
    · exact ⟨by kernel_rfl, by kernel_rfl⟩
  intro n
  induction n with
  | zero =>
    intro N r s hN _ hr hs
    obtain ⟨q1, q2⟩ := leaf N r s hN hr
    exact ⟨_, _, q1, q2, s, hs, rfl, rfl⟩
  | succ n ih =>
    intro N r s hN hN5 hr hs
    rcases hr with hr | hrc
    · obtain ⟨q1, q2⟩ := leaf N r s (by omega) hr
      exact ⟨_, _, q1, q2, .inl ⟨hr, s, hs, rfl, rfl⟩⟩
    · have hrc' := hrc
      obtain ⟨need, lead, cap, o, u, sp, rfl, h1, h2, h3, h4, h5, ho, hu, hsp⟩ := hrc
      obtain ⟨N, rfl⟩ : ∃ M, N = M + 1 := ⟨N - 1, by omega⟩
      obtain ⟨r', hr', u1, u2⟩ := a_unit (need := need) (lead := lead) (cap := cap) (o := o) (x := 0) (y := 0) (cmp_ruleOk (n := n) (by omega)) (by decide) hu hsp
      have ht := ordF_side (o := o) hs
      obtain ⟨a', b', q1, q2, hst⟩ := ih N r' (ordF o s) (by omega) (by omega) hr' ht
      have t1 := bg_turn (need := need) (lead := lead) (cap := cap) (u := u) (sp := sp) ho hs
      have t2 := begin_turn (need := need) (lead := lead) (cap := cap) (u := u) (sp := sp) ho hs
      have n1 : (sAsg (mVar 1) (gN 2)) [.fz (race need lead cap o u sp), .fz (.int s), .no] = some (.ok .nx, [.fz (race need lead cap o u sp), .fz (.int s), .fz (.int s)]) := rfl
      have n0 : (mIf (asB (mP2 pNe (mVal (mP2 pIx (mSlot 0) (mVal (mC (.int 0))))) (mVal (mC (.str "race"))))) (sRet (mTup (mCons (mVal (mVar 1)) mNil))) (M.pure .nx)) [.fz (race need lead cap o u sp), .fz (.int s), .no] = some (.ok .nx, [.fz (race need lead cap o u sp), .fz (.int s), .no]) := by kernel_rfl
      have n0' : (mIf (asB (mP2 pNe (mVal (mP2 pIx (mSlot 0) (mVal (mC (.int 0))))) (mVal (mC (.str "race"))))) (sRet (mLst (mCons (mVal (mVar 1)) mNil))) (M.pure .nx)) [.fz (race need lead cap o u sp), .fz (.int s), .no] = some (.ok .nx, [.fz (race need lead cap o u sp), .fz (.int s), .no]) := by kernel_rfl
      generalize race need lead cap o u sp = r at *
      generalize ordF o s = t at *
      refine ⟨.tuple [.int 0, .int 0, .int s, .int t, a'], .list [.int 0, .int 0, .int s, .int t, b'], ?_, ?_, .inr ⟨0, 0, s, t, a', b', r', hs, ht, by decide, by decide, rfl, rfl, hrc', hr', u1, u2, hst⟩⟩
      · refine runP_rt rfl (fr := [.fz r, .fz (.int s), .fz (.int t)]) ?_
        refine seq_nx n0 (seq_nx n1 (seq_nx t1 (ret_go ?_)))
        have z5 : (5 : Nat) ≤ sizeLine := by decide
        have z2 : (2 : Nat) ≤ sizeLine := by decide
        simp [u1, q1, z5, z2]
      · refine runP_rt rfl (fr := [.fz r, .fz (.int s), .fz (.int t)]) ?_
        refine seq_nx n0' (seq_nx (fr1 := [.fz r, .fz (.int s), .fz (.int t)]) (by simp [t2]) (ret_go ?_))
        have z5 : (5 : Nat) ≤ sizeLine := by decide
        have z2 : (2 : Nat) ≤ sizeLine := by decide
        simp [u2, q2, z5, z2]
end K79
end

section
set_option Elab.async false
set_option linter.all false
set_option maxRecDepth 100000
/-! L79d: who serves next; won (plain Lean). -/
namespace K79
open PySem PySem.Spec PyProof.Rows L2 EV
theorem a_over (need lead : Int) (cap : Option Int) (o u : PyData) (sp : List PyData) (x y : Int) : F__law_over [race need lead cap o u sp, sc x y] = some (.ok (.bool (wonI need lead cap x y))) := by
  have e : decide (lead ≤ max x y - min x y) = decide (lead ≤ (if x - y < 0 then -(x - y) else x - y)) := by
    have : max x y - min x y = (if x - y < 0 then -(x - y) else x - y) := by split <;> omega
    rw [this]
  cases cap with
  | none =>
    by_cases h : need ≤ max x y <;> simp [F__law_over, m__law_over, race, capD, wonI, h, e]
  | some c =>
    by_cases h0 : c ≤ max x y <;> by_cases h : need ≤ max x y <;> simp [F__law_over, m__law_over, race, capD, wonI, h, h0, e]
theorem ord_cases {o : PyData} (h : o ∈ ordL) : (o = .tuple [.str "on"] ∨ o = .tuple [.str "turns"] ∨ o = .tuple [.str "winner"] ∨ o = .tuple [.str "loser"]) ∨ ∃ ms : List Int, o = rowD ms ∧ ms ≠ [] ∧ ∀ m ∈ ms, side m := by
  simp only [ordL, List.mem_cons, List.not_mem_nil, or_false] at h
  rcases h with rfl | rfl | rfl | rfl | rfl | rfl | rfl | rfl | rfl | rfl | rfl | rfl
  · exact .inr ⟨_, rfl, by decide, by unfold side; decide⟩
  · exact .inr ⟨_, rfl, by decide, by unfold side; decide⟩
  · exact .inr ⟨_, rfl, by decide, by unfold side; decide⟩
  · exact .inr ⟨_, rfl, by decide, by unfold side; decide⟩
  · exact .inr ⟨_, rfl, by decide, by unfold side; decide⟩
  · exact .inr ⟨_, rfl, by decide, by unfold side; decide⟩
  · exact .inr ⟨_, rfl, by decide, by unfold side; decide⟩
  · exact .inr ⟨_, rfl, by decide, by unfold side; decide⟩
  · exact .inl (.inl rfl)
  · exact .inl (.inr (.inl rfl))
  · exact .inl (.inr (.inr (.inl rfl)))
  · exact .inl (.inr (.inr (.inr rfl)))
theorem row_at {ms : List Int} (h : ms ≠ []) (hs : ∀ m ∈ ms, side m) (z : Int) : 0 < (ms.length : Int) ∧ ∃ m, side m ∧ L2.atI (ms.map PyData.int) (z % (ms.length : Int)) = some (.int m) := by
  have h0 : 0 < ms.length := List.length_pos_iff.mpr h
  have h1 : (0 : Int) < ms.length := by omega
  refine ⟨h1, ?_⟩
  have a := Int.emod_nonneg z (b := ms.length) (by omega)
  have b := Int.emod_lt_of_pos z h1
  obtain ⟨j, hj⟩ := Int.eq_ofNat_of_zero_le a
  have hl : j < ms.length := by omega
  refine ⟨ms[j], hs _ (List.getElem_mem hl), ?_⟩
  rw [hj]
  exact L2.atI_nat (by simp [hl])
/-- the three statements of _law_step that tell who serves next -/
def sA5 : MS := (sAsg (mP2 pIx (mVal (mP2 pIx (mSlot 0) (mVal (mC (.int 4))))) (mVal (mC (.int 0)))) (gN 5))
def sA6 : MS := (sAsg (mIxS (mDispK ["on", "turns", "winner", "loser", "row"] [(mP2 pIx (mSlot 3) (mVal (mC (.int 2)))), (mP2 pSub (mVal (mC (.int 1))) (mVal (mP2 pIx (mSlot 1) (mVal (mC (.int 3)))))), (mP2 pIx (mSlot 3) (mVal (mC (.int 1)))), (mP2 pSub (mVal (mC (.int 1))) (mVal (mP2 pIx (mSlot 3) (mVal (mC (.int 1)))))), (mC (.int 0))]) (mSlot 5)) (gN 6))
def sA7 : MS := (mIf (asB (mP2 pEq (mSlot 5) (mVal (mC (.str "row"))))) (sAsg (mIf (asB (mP2 pEq (mVal (mP2 pIx (mVal (mP2 pIx (mVal (mP2 pIx (mSlot 0) (mVal (mC (.int 4))))) (mVal (mC (.int 1))))) (mVal (mP2 pMod (mVal (mPN pSumT (A1 (mSlot 4)))) (mVal (mPN pLen (A1 (mVal (mP2 pIx (mVal (mP2 pIx (mSlot 0) (mVal (mC (.int 4))))) (mVal (mC (.int 1)))))))))))) (mVal (mC (.int 0))))) (mP2 pIx (mSlot 1) (mVal (mC (.int 2)))) (mP2 pSub (mVal (mC (.int 1))) (mVal (mP2 pIx (mSlot 1) (mVal (mC (.int 2))))))) (gN 6)) (M.pure .nx))
theorem next_fits {need lead : Int} {cap : Option Int} {o u : PyData} {sp : List PyData} (ho : o ∈ ordL) {x0 y0 f t x y w v h : Int} {a' b' : PyData} (hf : side f) (ht : side t) (hv : side v) (hh : side h) :
    ∃ nt s5, side nt ∧ F_next_turn [race need lead cap o u sp, .tuple [.int x0, .int y0, .int f, .int t, a'], sc x y, .int v, .int h] = some (.ok (.int nt)) ∧
      sA5 [.fz (race need lead cap o u sp), .fz (.list [.int x0, .int y0, .int f, .int t, b']), .fz (.int w), .fz (.tuple [.str "over", .int v, .int h]), .fz (sc x y), .no, .no] = some (.ok .nx, [.fz (race need lead cap o u sp), .fz (.list [.int x0, .int y0, .int f, .int t, b']), .fz (.int w), .fz (.tuple [.str "over", .int v, .int h]), .fz (sc x y), s5, .no]) ∧
      ∃ s6, sA6 [.fz (race need lead cap o u sp), .fz (.list [.int x0, .int y0, .int f, .int t, b']), .fz (.int w), .fz (.tuple [.str "over", .int v, .int h]), .fz (sc x y), s5, .no] = some (.ok .nx, [.fz (race need lead cap o u sp), .fz (.list [.int x0, .int y0, .int f, .int t, b']), .fz (.int w), .fz (.tuple [.str "over", .int v, .int h]), .fz (sc x y), s5, s6]) ∧
      sA7 [.fz (race need lead cap o u sp), .fz (.list [.int x0, .int y0, .int f, .int t, b']), .fz (.int w), .fz (.tuple [.str "over", .int v, .int h]), .fz (sc x y), s5, s6] = some (.ok .nx, [.fz (race need lead cap o u sp), .fz (.list [.int x0, .int y0, .int f, .int t, b']), .fz (.int w), .fz (.tuple [.str "over", .int v, .int h]), .fz (sc x y), s5, .fz (.int nt)]) := by
  rcases ord_cases ho with (rfl | rfl | rfl | rfl) | ⟨ms, rfl, hm0, hms⟩
  · exact ⟨h, .fz (.str "on"), hh, by kernel_rfl, by kernel_rfl, .fz (.int h), by kernel_rfl, by kernel_rfl⟩
  · exact ⟨1 - t, .fz (.str "turns"), side_flip ht, by kernel_rfl, by kernel_rfl, .fz (.int (1 - t)), by kernel_rfl, by kernel_rfl⟩
  · exact ⟨v, .fz (.str "winner"), hv, by kernel_rfl, by kernel_rfl, .fz (.int v), by kernel_rfl, by kernel_rfl⟩
  · exact ⟨1 - v, .fz (.str "loser"), side_flip hv, by kernel_rfl, by kernel_rfl, .fz (.int (1 - v)), by kernel_rfl, by kernel_rfl⟩
  · obtain ⟨hl, m, hm, hat⟩ := row_at hm0 hms (x + y)
    have hln : 0 < ms.length := by omega
    have n5 : ∀ w : Int, sA5 [.fz (race need lead cap (rowD ms) u sp), .fz (.list [.int x0, .int y0, .int f, .int t, b']), .fz (.int w), .fz (.tuple [.str "over", .int v, .int h]), .fz (sc x y), .no, .no] = some (.ok .nx, [.fz (race need lead cap (rowD ms) u sp), .fz (.list [.int x0, .int y0, .int f, .int t, b']), .fz (.int w), .fz (.tuple [.str "over", .int v, .int h]), .fz (sc x y), .fz (.str "row"), .no]) := fun w => by kernel_rfl
    have n6 : ∀ w : Int, sA6 [.fz (race need lead cap (rowD ms) u sp), .fz (.list [.int x0, .int y0, .int f, .int t, b']), .fz (.int w), .fz (.tuple [.str "over", .int v, .int h]), .fz (sc x y), .fz (.str "row"), .no] = some (.ok .nx, [.fz (race need lead cap (rowD ms) u sp), .fz (.list [.int x0, .int y0, .int f, .int t, b']), .fz (.int w), .fz (.tuple [.str "over", .int v, .int h]), .fz (sc x y), .fz (.str "row"), .fz (.int 0)]) := fun w => by kernel_rfl
    refine ⟨if m = 0 then f else 1 - f, .fz (.str "row"), ?_, ?_, n5 w, .fz (.int 0), n6 w, ?_⟩
    · split
      · exact hf
      · exact side_flip hf
    · have d1 : (Str.ofString "row" = Str.ofString "on") = False := eq_false (by decide)
      have d2 : (Str.ofString "row" = Str.ofString "turns") = False := eq_false (by decide)
      have d3 : (Str.ofString "row" = Str.ofString "winner") = False := eq_false (by decide)
      have d4 : (Str.ofString "row" = Str.ofString "loser") = False := eq_false (by decide)
      by_cases hm0 : m = 0
      · simp [F_next_turn, m_next_turn, race, rowD, A1, sc, hln, hat, hm0, d1, d2, d3, d4]
      · have hm1 : (m == 0) = false := by simpa using hm0
        simp [F_next_turn, m_next_turn, race, rowD, A1, sc, hln, hat, hm0, hm1, d1, d2, d3, d4]
    · by_cases hm0 : m = 0
      · simp [sA7, race, rowD, A1, sc, hln, hat, hm0]
      · have hm1 : (m == 0) = false := by simpa using hm0
        simp [sA7, race, rowD, A1, sc, hln, hat, hm0, hm1]
end K79
end

section
set_option Elab.async false
set_option linter.all false
set_option maxRecDepth 100000
/-! L79e: one rally: led and _law_step fit (plain Lean). -/
namespace K79
open PySem PySem.Spec PyProof.Rows L2 EV
/-- both go on, or both are over -/
def Fit (n : Nat) (r : PyData) (ra rb : Option (Except Xn PyData)) : Prop :=
  (∃ a' b', ra = some (.ok (.tuple [a', .none, .none])) ∧ rb = some (.ok (.tuple [.str "on", b', .none])) ∧ isNone a' = false ∧ St n r a' b') ∨
  ∃ v h, side v ∧ side h ∧ ra = some (.ok (.tuple [.none, .int v, .int h])) ∧ rb = some (.ok (.tuple [.str "over", .int v, .int h]))
theorem pAddTT {a b : List PyData} : pAdd (.tuple a) (.tuple b) = if a.length + b.length ≤ sizeLine then some (.tuple (a ++ b)) else none := rfl
theorem leaf_fit {N : Nat} {r : PyData} {s w : Int} (hr : r = rallyD ∨ r = handD) (hs : side s) (hw : side w) :
    (∃ u, side u ∧ F_led (N + 1) [r, .tuple [.int s], .int w] = some (.ok (.tuple [.tuple [.int u], .none, .none])) ∧ F__law_step (N + 1) [r, .list [.int s], .int w] = some (.ok (.tuple [.str "on", .list [.int u], .none]))) ∨
    ∃ v h, side v ∧ side h ∧ F_led (N + 1) [r, .tuple [.int s], .int w] = some (.ok (.tuple [.none, .int v, .int h])) ∧ F__law_step (N + 1) [r, .list [.int s], .int w] = some (.ok (.tuple [.str "over", .int v, .int h])) := by
  rcases hr with rfl | rfl
  · exact .inr ⟨w, s, hw, hs, by kernel_rfl, by kernel_rfl⟩
  · by_cases e : w = s
    · subst e
      rcases hw with rfl | rfl
      · exact .inr ⟨0, 0, .inl rfl, .inl rfl, by kernel_rfl, by kernel_rfl⟩
      · exact .inr ⟨1, 1, .inr rfl, .inr rfl, by kernel_rfl, by kernel_rfl⟩
    · rcases hw with rfl | rfl <;> rcases hs with rfl | rfl
      · exact absurd rfl e
      · exact .inl ⟨0, .inl rfl, by kernel_rfl, by kernel_rfl⟩
      · exact .inl ⟨1, .inr rfl, by kernel_rfl, by kernel_rfl⟩
      · exact absurd rfl e
abbrev ldFr (r a : PyData) (w : Int) (s3 s4 s5 s6 s7 : SD) : Fr := [.fz r, .fz a, .fz (.int w), s3, s4, s5, s6, s7]
abbrev lwFr (r a : PyData) (w : Int) (s3 s4 s5 s6 : SD) : Fr := [.fz r, .fz a, .fz (.int w), s3, s4, s5, s6]
theorem fit_race {n k : Nat} (hn : n < k) (hk : k ≤ 4) {r r' a' b' : PyData} {x y f t w : Int} (hw : side w) (hf : side f) (ht : side t) (hx : 0 ≤ x) (hy : 0 ≤ y) (hr : RaceOk (RuleOk n) r)
    (u1 : F_unit_of [r, sc x y] = some (.ok r')) (u2 : F__law_unit [r, sc x y] = some (.ok r')) (hr' : RuleOk n r') (ih : Fit n r' (F_led k [r', a', .int w]) (F__law_step k [r', b', .int w])) :
    Fit (n + 1) r (F_led (k + 1) [r, .tuple [.int x, .int y, .int f, .int t, a'], .int w]) (F__law_step (k + 1) [r, .list [.int x, .int y, .int f, .int t, b'], .int w]) := by
  have hr0 := hr
  obtain ⟨need, lead, cap, o, u, sp, rfl, h1, h2, h3, h4, h5, ho, hu, hsp⟩ := hr
  have z1 : (1 : Nat) ≤ sizeLine := by decide
  have z2 : (2 : Nat) ≤ sizeLine := by decide
  have z3 : (3 : Nat) ≤ sizeLine := by decide
  have z5 : (5 : Nat) ≤ sizeLine := by decide
  have c0 : (asB (mP2 pEq (mVal (mP2 pIx (mSlot 0) (mVal (mC (.int 0))))) (mVal (mC (.str "race"))))) [.fz (race need lead cap o u sp), .fz (.tuple [.int x, .int y, .int f, .int t, a']), .fz (.int w)] = some (.ok true, [.fz (race need lead cap o u sp), .fz (.tuple [.int x, .int y, .int f, .int t, a']), .fz (.int w)]) := by kernel_rfl
  have led_of : ∀ {d : PyData}, runP 3 8 (m_led_race (F_led k)) [race need lead cap o u sp, .tuple [.int x, .int y, .int f, .int t, a'], .int w] = some (.ok d) → F_led (k + 1) [race need lead cap o u sp, .tuple [.int x, .int y, .int f, .int t, a'], .int w] = some (.ok d) := fun {d} h => by
    refine runP_rt rfl (fr := [.fz (race need lead cap o u sp), .fz (.tuple [.int x, .int y, .int f, .int t, a']), .fz (.int w)]) (seq_rt (if_go c0 (ret_go (call_go (ds := [race need lead cap o u sp, .tuple [.int x, .int y, .int f, .int t, a'], .int w]) (cons_go rfl (cons_go rfl (cons_go rfl rfl))) rfl h))))
  have l0 : (mIf (nOr (asB (mP2 pEq (mVal (mP2 pIx (mSlot 0) (mVal (mC (.int 0))))) (mVal (mC (.str "rally"))))) (nAnd (asB (mP2 pEq (mVal (mP2 pIx (mSlot 0) (mVal (mC (.int 0))))) (mVal (mC (.str "hand"))))) (asB (mP2 pEq (mSlot 2) (mVal (mP2 pIx (mSlot 1) (mVal (mC (.int 0))))))))) (sRet (mTup (mCons (mVal (mC (.str "over"))) (mCons (mVal (mVar 2)) (mCons (mVal (mP2 pIx (mSlot 1) (mVal (mC (.int 0))))) mNil))))) (M.pure .nx)) (lwFr (race need lead cap o u sp) (.list [.int x, .int y, .int f, .int t, b']) w .no .no .no .no) = some (.ok .nx, lwFr (race need lead cap o u sp) (.list [.int x, .int y, .int f, .int t, b']) w .no .no .no .no) := by kernel_rfl
  have l1 : (mIf (asB (mP2 pEq (mVal (mP2 pIx (mSlot 0) (mVal (mC (.int 0))))) (mVal (mC (.str "hand"))))) (sRet (mTup (mCons (mVal (mC (.str "on"))) (mCons (mVal (mLst (mCons (mVal (mVar 2)) mNil))) (mCons (mVal (mC .none)) mNil))))) (M.pure .nx)) (lwFr (race need lead cap o u sp) (.list [.int x, .int y, .int f, .int t, b']) w .no .no .no .no) = some (.ok .nx, lwFr (race need lead cap o u sp) (.list [.int x, .int y, .int f, .int t, b']) w .no .no .no .no) := by kernel_rfl
  rcases ih with ⟨a2, b2, q1, q2, hno, hst⟩ | ⟨v, h, hv, hh, q1, q2⟩
  · left
    refine ⟨.tuple [.int x, .int y, .int f, .int t, a2], .list [.int x, .int y, .int f, .int t, b2], ?_, ?_, rfl, .inr ⟨x, y, f, t, a2, b2, r', hf, ht, hx, hy, rfl, rfl, hr0, hr', u1, u2, hst⟩⟩
    · refine led_of ?_
      clear led_of l0 l1 c0 hr0
      generalize race need lead cap o u sp = r at *
      refine runP_rt rfl (fr := ldFr r (.tuple [.int x, .int y, .int f, .int t, a']) w (.fz (sc x y)) (.fz a2) (.fz .none) (.fz .none) .no) ?_
      refine seq_nx (fr1 := ldFr r (.tuple [.int x, .int y, .int f, .int t, a']) w (.fz (sc x y)) .no .no .no .no) (by kernel_rfl) ?_
      refine seq_nx (fr1 := ldFr r (.tuple [.int x, .int y, .int f, .int t, a']) w (.fz (sc x y)) (.fz a2) (.fz .none) (.fz .none) .no) (by simp [u1, q1]) ?_
      refine seq_rt (if_go (b := true) (fr1 := ldFr r (.tuple [.int x, .int y, .int f, .int t, a']) w (.fz (sc x y)) (.fz a2) (.fz .none) (.fz .none) .no) (by simp [hno]) (ret_go ?_))
      kernel_rfl
    · clear led_of c0 hr0
      generalize race need lead cap o u sp = r at *
      refine runP_rt rfl (fr := lwFr r (.list [.int x, .int y, .int f, .int t, b']) w (.fz (.tuple [.str "on", b2, .none])) .no .no .no) ?_
      refine seq_nx l0 (seq_nx l1 ?_)
      refine seq_nx (fr1 := lwFr r (.list [.int x, .int y, .int f, .int t, b']) w (.fz (.tuple [.str "on", b2, .none])) .no .no .no) (by simp [u2, q2, z2]) ?_
      refine seq_rt (if_go (b := true) (fr1 := lwFr r (.list [.int x, .int y, .int f, .int t, b']) w (.fz (.tuple [.str "on", b2, .none])) .no .no .no) (by kernel_rfl) (ret_go ?_))
      kernel_rfl
  · obtain ⟨nt, s5, hnt, nx1, n5, s6, n6, n7⟩ := next_fits (need := need) (lead := lead) (cap := cap) (u := u) (sp := sp) (x0 := x) (y0 := y) (x := x + (1 - v)) (y := y + v) (w := w) (a' := a') (b' := b') ho hf ht hv hh
    have hwon := a_is_won need lead cap o u sp (x + (1 - v)) (y + v)
    have hovr := a_over need lead cap o u sp (x + (1 - v)) (y + v)
    obtain ⟨r2, hr2, v1, v2⟩ := a_unit (need := need) (lead := lead) (cap := cap) (o := o) (x := x + (1 - v)) (y := y + v) (cmp_ruleOk (n := n) (by omega)) (by decide) hu hsp
    obtain ⟨a3, b3, q3, q4, hst⟩ := a_begun n 5 r2 nt (by omega) (by decide) hr2 hnt
    have ex : x + 1 - v = x + (1 - v) := by omega
    have hv0 : 0 ≤ v ∧ v ≤ 1 := by rcases hv with rfl | rfl <;> decide
    have k4 : (sAsg (mTup (mCons (mVal (mP2 pAdd (mVal (mP2 pIx (mSlot 1) (mVal (mC (.int 0))))) (mVal (mIf (asB (mP2 pEq (mVal (mP2 pIx (mSlot 3) (mVal (mC (.int 1))))) (mVal (mC (.int 0))))) (mC (.int 1)) (mC (.int 0)))))) (mCons (mVal (mP2 pAdd (mVal (mP2 pIx (mSlot 1) (mVal (mC (.int 1))))) (mVal (mIf (asB (mP2 pEq (mVal (mP2 pIx (mSlot 3) (mVal (mC (.int 1))))) (mVal (mC (.int 1))))) (mC (.int 1)) (mC (.int 0)))))) mNil))) (gN 4)) (lwFr (race need lead cap o u sp) (.list [.int x, .int y, .int f, .int t, b']) w (.fz (.tuple [.str "over", .int v, .int h])) .no .no .no) = some (.ok .nx, lwFr (race need lead cap o u sp) (.list [.int x, .int y, .int f, .int t, b']) w (.fz (.tuple [.str "over", .int v, .int h])) (.fz (sc (x + (1 - v)) (y + v))) .no .no) := by
      rcases hv with rfl | rfl <;> kernel_rfl
    have hX : 0 ≤ x + (1 - v) := by omega
    have hY : 0 ≤ y + v := by omega
    have hS : SpOk (RuleOk n) need sp := hsp
    generalize hW : (if x + (1 - v) > y + v then (0 : Int) else 1) = win
    have hwin : side win := by
      subst hW
      split
      · exact .inl rfl
      · exact .inr rfl
    cases hwo : wonI need lead cap (x + (1 - v)) (y + v) with
    | true =>
      rw [hwo] at hwon hovr
      right
      refine ⟨win, nt, hwin, hnt, ?_, ?_⟩
      · refine led_of ?_
        clear led_of l0 l1 c0 hr0 n5 n6 n7 k4
        generalize race need lead cap o u sp = r at *
        refine runP_rt rfl (fr := ldFr r (.tuple [.int x, .int y, .int f, .int t, a']) w (.fz (sc (x + (1 - v)) (y + v))) (.fz .none) (.fz (.int v)) (.fz (.int h)) (.fz (.int nt))) ?_
        refine seq_nx (fr1 := ldFr r (.tuple [.int x, .int y, .int f, .int t, a']) w (.fz (sc x y)) .no .no .no .no) (by kernel_rfl) ?_
        refine seq_nx (fr1 := ldFr r (.tuple [.int x, .int y, .int f, .int t, a']) w (.fz (sc x y)) (.fz .none) (.fz (.int v)) (.fz (.int h)) .no) (by simp [u1, q1]) ?_
        refine seq_nx (fr1 := ldFr r (.tuple [.int x, .int y, .int f, .int t, a']) w (.fz (sc x y)) (.fz .none) (.fz (.int v)) (.fz (.int h)) .no) (by kernel_rfl) ?_
        refine seq_nx (fr1 := ldFr r (.tuple [.int x, .int y, .int f, .int t, a']) w (.fz (sc (x + (1 - v)) (y + v))) (.fz .none) (.fz (.int v)) (.fz (.int h)) .no) (by rw [← ex]; kernel_rfl) ?_
        refine seq_nx (fr1 := ldFr r (.tuple [.int x, .int y, .int f, .int t, a']) w (.fz (sc (x + (1 - v)) (y + v))) (.fz .none) (.fz (.int v)) (.fz (.int h)) (.fz (.int nt))) (asg_go (call_go (ds := [r, .tuple [.int x, .int y, .int f, .int t, a'], sc (x + (1 - v)) (y + v), .int v, .int h]) (cons_go rfl (cons_go rfl (cons_go rfl (cons_go rfl (cons_go rfl rfl))))) rfl nx1) rfl) ?_
        refine seq_rt (if_go (b := true) (fr1 := ldFr r (.tuple [.int x, .int y, .int f, .int t, a']) w (.fz (sc (x + (1 - v)) (y + v))) (.fz .none) (.fz (.int v)) (.fz (.int h)) (.fz (.int nt))) (asB_go (call_go (ds := [r, sc (x + (1 - v)) (y + v)]) (cons_go rfl (cons_go rfl rfl)) rfl hwon)) (ret_go ?_))
        subst hW
        by_cases hg : y + v < x + (1 - v) <;> simp [hg, z3]
      · clear led_of c0 hr0
        generalize race need lead cap o u sp = r at *
        refine runP_rt rfl (fr := lwFr r (.list [.int x, .int y, .int f, .int t, b']) w (.fz (.tuple [.str "over", .int v, .int h])) (.fz (sc (x + (1 - v)) (y + v))) s5 (.fz (.int nt))) ?_
        refine seq_nx l0 (seq_nx l1 ?_)
        refine seq_nx (fr1 := lwFr r (.list [.int x, .int y, .int f, .int t, b']) w (.fz (.tuple [.str "over", .int v, .int h])) .no .no .no) (by simp [u2, q2, z2]) ?_
        refine seq_nx (fr1 := lwFr r (.list [.int x, .int y, .int f, .int t, b']) w (.fz (.tuple [.str "over", .int v, .int h])) .no .no .no) (by kernel_rfl) ?_
        refine seq_nx k4 (seq_nx n5 (seq_nx n6 (seq_nx n7 ?_)))
        refine seq_rt (if_go (b := true) (fr1 := lwFr r (.list [.int x, .int y, .int f, .int t, b']) w (.fz (.tuple [.str "over", .int v, .int h])) (.fz (sc (x + (1 - v)) (y + v))) s5 (.fz (.int nt))) (asB_go (call_go (ds := [r, sc (x + (1 - v)) (y + v)]) (cons_go rfl (cons_go rfl rfl)) rfl hovr)) (ret_go ?_))
        subst hW
        by_cases hg : y + v < x + (1 - v) <;> simp [hg, z3]
    | false =>
      rw [hwo] at hwon hovr
      left
      refine ⟨.tuple [.int (x + (1 - v)), .int (y + v), .int f, .int nt, a3], .list [.int (x + (1 - v)), .int (y + v), .int f, .int nt, b3], ?_, ?_, rfl, .inr ⟨_, _, f, nt, a3, b3, r2, hf, hnt, hX, hY, rfl, rfl, hr0, hr2, v1, v2, hst⟩⟩
      · refine led_of ?_
        clear led_of l0 l1 c0 hr0 n5 n6 n7 k4
        generalize race need lead cap o u sp = r at *
        refine runP_rt rfl (fr := ldFr r (.tuple [.int x, .int y, .int f, .int t, a']) w (.fz (sc (x + (1 - v)) (y + v))) (.fz .none) (.fz (.int v)) (.fz (.int h)) (.fz (.int nt))) ?_
        refine seq_nx (fr1 := ldFr r (.tuple [.int x, .int y, .int f, .int t, a']) w (.fz (sc x y)) .no .no .no .no) (by kernel_rfl) ?_
        refine seq_nx (fr1 := ldFr r (.tuple [.int x, .int y, .int f, .int t, a']) w (.fz (sc x y)) (.fz .none) (.fz (.int v)) (.fz (.int h)) .no) (by simp [u1, q1]) ?_
        refine seq_nx (fr1 := ldFr r (.tuple [.int x, .int y, .int f, .int t, a']) w (.fz (sc x y)) (.fz .none) (.fz (.int v)) (.fz (.int h)) .no) (by kernel_rfl) ?_
        refine seq_nx (fr1 := ldFr r (.tuple [.int x, .int y, .int f, .int t, a']) w (.fz (sc (x + (1 - v)) (y + v))) (.fz .none) (.fz (.int v)) (.fz (.int h)) .no) (by rw [← ex]; kernel_rfl) ?_
        refine seq_nx (fr1 := ldFr r (.tuple [.int x, .int y, .int f, .int t, a']) w (.fz (sc (x + (1 - v)) (y + v))) (.fz .none) (.fz (.int v)) (.fz (.int h)) (.fz (.int nt))) (asg_go (call_go (ds := [r, .tuple [.int x, .int y, .int f, .int t, a'], sc (x + (1 - v)) (y + v), .int v, .int h]) (cons_go rfl (cons_go rfl (cons_go rfl (cons_go rfl (cons_go rfl rfl))))) rfl nx1) rfl) ?_
        refine seq_nx (if_go (b := false) (fr1 := ldFr r (.tuple [.int x, .int y, .int f, .int t, a']) w (.fz (sc (x + (1 - v)) (y + v))) (.fz .none) (.fz (.int v)) (.fz (.int h)) (.fz (.int nt))) (asB_go (call_go (ds := [r, sc (x + (1 - v)) (y + v)]) (cons_go rfl (cons_go rfl rfl)) rfl hwon)) rfl) (ret_go ?_)
        simp [v1, q3, z3, pAddTT, z5]
      · clear led_of c0 hr0
        generalize race need lead cap o u sp = r at *
        refine runP_rt rfl (fr := lwFr r (.list [.int x, .int y, .int f, .int t, b']) w (.fz (.tuple [.str "over", .int v, .int h])) (.fz (sc (x + (1 - v)) (y + v))) s5 (.fz (.int nt))) ?_
        refine seq_nx l0 (seq_nx l1 ?_)
        refine seq_nx (fr1 := lwFr r (.list [.int x, .int y, .int f, .int t, b']) w (.fz (.tuple [.str "over", .int v, .int h])) .no .no .no) (by simp [u2, q2, z2]) ?_
        refine seq_nx (fr1 := lwFr r (.list [.int x, .int y, .int f, .int t, b']) w (.fz (.tuple [.str "over", .int v, .int h])) .no .no .no) (by kernel_rfl) ?_
        refine seq_nx k4 (seq_nx n5 (seq_nx n6 (seq_nx n7 ?_)))
        refine seq_nx (if_go (b := false) (fr1 := lwFr r (.list [.int x, .int y, .int f, .int t, b']) w (.fz (.tuple [.str "over", .int v, .int h])) (.fz (sc (x + (1 - v)) (y + v))) s5 (.fz (.int nt))) (asB_go (call_go (ds := [r, sc (x + (1 - v)) (y + v)]) (cons_go rfl (cons_go rfl rfl)) rfl hovr)) rfl) (ret_go ?_)
        simp [v2, q4, z3, z5]
theorem a_fit : ∀ (n N : Nat) (r a b : PyData) (w : Int), n < N → N ≤ 5 → RuleOk n r → St n r a b → side w → Fit n r (F_led N [r, a, .int w]) (F__law_step N [r, b, .int w]) := by
  intro n
  induction n with
  | zero =>
    intro N r a b w hN _ hr hst hw
    obtain ⟨s, hs, rfl, rfl⟩ := hst
    obtain ⟨N, rfl⟩ : ∃ M, N = M + 1 := ⟨N - 1, by omega⟩
    rcases leaf_fit (N := N) hr hs hw with ⟨u, hu, q1, q2⟩ | ⟨v, h, hv, hh, q1, q2⟩
    · exact .inl ⟨_, _, q1, q2, rfl, u, hu, rfl, rfl⟩
    · exact .inr ⟨v, h, hv, hh, q1, q2⟩
  | succ n ih =>
    intro N r a b w hN hN5 hr hst hw
    obtain ⟨N, rfl⟩ : ∃ M, N = M + 1 := ⟨N - 1, by omega⟩
    rcases hst with ⟨hl, s, hs, rfl, rfl⟩ | ⟨x, y, f, t, a', b', r', hf, ht, hx, hy, rfl, rfl, hrc, hr', u1, u2, hst'⟩
    · rcases leaf_fit (N := N) hl hs hw with ⟨u, hu, q1, q2⟩ | ⟨v, h, hv, hh, q1, q2⟩
      · exact .inl ⟨_, _, q1, q2, rfl, .inl ⟨hl, u, hu, rfl, rfl⟩⟩
      · exact .inr ⟨v, h, hv, hh, q1, q2⟩
    · exact fit_race (by omega) (by omega) hw hf ht hx hy hrc u1 u2 hr' (ih N r' a' b' w (by omega) (by omega) hr' hst' hw)
end K79
end

section
set_option Elab.async false
set_option linter.all false
set_option maxRecDepth 100000
/-! L79f: rows of rallies: led_by and _law_played fit; the drawn matches (plain Lean). -/
namespace EV
open PySem PySem.Spec PyProof.Rows L2
theorem forL_app {g : G} {body : MS} {ys : List PyData} {fr1 : Fr} {r : Option (Except Xn Fl × Fr)} : ∀ {xs : List PyData} {fr : Fr}, (forL g body xs fr = some (.ok .nx, fr1)) → (∀ fr fr2, body fr ≠ some (.ok .bk, fr2)) → forL g body ys fr1 = r → forL g body (xs ++ ys) fr = r
  | [], fr, h, _, h2 => by
    cases h
    exact h2
  | d :: ds, fr, h, nb, h2 => by
    show forL g body (d :: (ds ++ ys)) fr = r
    unfold forL at h ⊢
    cases hg : g d fr with
    | none => rw [hg] at h; cases h
    | some f1 =>
      rw [hg] at h
      simp only at h ⊢
      cases hb : body f1 with
      | none => rw [hb] at h; cases h
      | some z =>
        obtain ⟨e, f2⟩ := z
        rw [hb] at h
        cases e with
        | error x => simp only at h; cases h
        | ok fl =>
          cases fl with
          | nx => simp only at h ⊢; exact forL_app h nb h2
          | ct => simp only at h ⊢; exact forL_app h nb h2
          | bk => exact absurd hb (nb f1 f2)
          | rt d' => simp only at h; cases h
theorem enumD_snoc : ∀ (ds : List PyData) (i : Nat) (d : PyData), enumD i (ds ++ [d]) = enumD i ds ++ [.tuple [.int (i + ds.length : Nat), d]]
  | [], i, d => rfl
  | x :: ds, i, d => by
    show .tuple [.int i, x] :: enumD (i + 1) (ds ++ [d]) = _
    rw [enumD_snoc ds (i + 1) d]
    have e : i + 1 + ds.length = i + (x :: ds).length := by rw [List.length_cons]; omega
    rw [e]
    rfl
theorem while_nx {c : M Bool} {body : MS} {n : Nat} {fr fr1 fr2 : Fr} {r : Option (Except Xn Fl × Fr)} (h1 : c fr = some (.ok true, fr1)) (h2 : body fr1 = some (.ok .nx, fr2)) (h3 : whileL c body n fr2 = r) : whileL c body (n + 1) fr = r := by
  unfold whileL
  rw [u_bind, h1]
  simp only []
  rw [h2]
  exact h3
theorem while_rt {c : M Bool} {body : MS} {n : Nat} {fr fr1 fr2 : Fr} {d : PyData} (h1 : c fr = some (.ok true, fr1)) (h2 : body fr1 = some (.ok (.rt d), fr2)) : whileL c body (n + 1) fr = some (.ok (.rt d), fr2) := by
  unfold whileL
  rw [u_bind, h1]
  simp only []
  rw [h2]
theorem while_no {c : M Bool} {body : MS} {n : Nat} {fr fr1 : Fr} (h1 : c fr = some (.ok false, fr1)) : whileL c body (n + 1) fr = some (.ok .nx, fr1) := by
  unfold whileL
  rw [u_bind, h1]
  rfl
end EV
namespace K79
open PySem PySem.Spec PyProof.Rows L2 EV
/-- the rallies go on from a state to a state -/
inductive Goes (r a0 b0 : PyData) : List Int → PyData → PyData → Prop
  | nil : Goes r a0 b0 [] a0 b0
  | snoc {ws : List Int} {a b a' b' : PyData} {w : Int} : Goes r a0 b0 ws a b → side w → F_led 5 [r, a, .int w] = some (.ok (.tuple [a', .none, .none])) → F__law_step 5 [r, b, .int w] = some (.ok (.tuple [.str "on", b', .none])) → isNone a' = false → St 2 r a' b' → Goes r a0 b0 (ws ++ [w]) a' b'
/-- the last rally ends the match -/
def Ends (r a0 b0 : PyData) (ws : List Int) (v : Int) : Prop := ∃ us w a b h, ws = us ++ [w] ∧ Goes r a0 b0 us a b ∧ side w ∧ side v ∧ F_led 5 [r, a, .int w] = some (.ok (.tuple [.none, .int v, .int h])) ∧ F__law_step 5 [r, b, .int w] = some (.ok (.tuple [.str "over", .int v, .int h]))
theorem Goes.sides {r a0 b0 : PyData} {ws : List Int} {a b : PyData} (h : Goes r a0 b0 ws a b) : ∀ w ∈ ws, side w := by
  induction h with
  | nil => intro w hw; cases hw
  | snoc h hw _ _ _ _ ih =>
    intro w' hw'
    rw [List.mem_append, List.mem_singleton] at hw'
    rcases hw' with z | rfl
    · exact ih w' z
    · exact hw
theorem Goes.st {r a0 b0 : PyData} {ws : List Int} {a b : PyData} (h : Goes r a0 b0 ws a b) (h0 : St 2 r a0 b0) : St 2 r a b := by
  cases h with
  | nil => exact h0
  | snoc _ _ _ _ _ q => exact q
abbrev lbFr (r : PyData) (s : Int) (W : List PyData) (a : PyData) (t4 t5 t6 t7 : SD) : Fr := [.fz r, .fz (.int s), .fz (.list W), .fz a, t4, t5, t6, t7]
abbrev lpFr (r : PyData) (s : Int) (W : List PyData) (b : PyData) (t4 t5 t6 : SD) : Fr := [.fz r, .fz (.int s), .fz (.list W), .fz b, t4, t5, t6]
def lbB : MS := (sSeq (sAsg (mCall (F_led 5) (mCons (mVal (mVar 0)) (mCons (mVal (mVar 3)) (mCons (mVal (mVar 5)) mNil)))) (gT 3 (gsCons (gN 3) (gsCons (gN 6) (gsCons (gN 7) gsNil))))) (mIf (asB (mP2 pIsN (mSlot 3) (mVal (mC .none)))) (sRet (mTup (mCons (mVal (mC .none)) (mCons (mVal (mVar 6)) (mCons (mVal (mP2 pAdd (mSlot 4) (mVal (mC (.int 1))))) mNil))))) (M.pure .nx)))
def lpB : MS := (sSeq (sAsg (mCall (F__law_step 5) (mCons (mVal (mVar 0)) (mCons (mVal (mVar 3)) (mCons (mVal (mVar 5)) mNil)))) (gN 6)) (sSeq (mIf (asB (mP2 pEq (mVal (mP2 pIx (mSlot 6) (mVal (mC (.int 0))))) (mVal (mC (.str "over"))))) (sRet (mTup (mCons (mVal (mC (.str "over"))) (mCons (mVal (mP2 pIx (mSlot 6) (mVal (mC (.int 1))))) (mCons (mVal (mP2 pAdd (mSlot 4) (mVal (mC (.int 1))))) mNil))))) (M.pure .nx)) (sAsg (mP2 pIx (mSlot 6) (mVal (mC (.int 1)))) (gN 3))))
abbrev gIx : G := gT 2 (gsCons (gN 4) (gsCons (gN 5) gsNil))
theorem lb_eq : m_led_by = sSeq (sAsg (mCall (F_begun 5) (mCons (mVal (mVar 0)) (mCons (mVal (mVar 1)) mNil))) (gN 3)) (sSeq (sFor (mEnum (mVar 2)) gIx lbB) (sRet (mTup (mCons (mVal (mVar 3)) (mCons (mVal (mC .none)) (mCons (mVal (mPN pLen (A1 (mSlot 2)))) mNil)))))) := rfl
theorem lp_eq : m__law_played = sSeq (sAsg (mCall (F__law_start 5) (mCons (mVal (mVar 0)) (mCons (mVal (mVar 1)) mNil))) (gN 3)) (sSeq (sFor (mEnum (mVar 2)) gIx lpB) (sRet (mTup (mCons (mVal (mC (.str "on"))) (mCons (mVal (mVar 3)) (mCons (mVal (mPN pLen (A1 (mSlot 2)))) mNil)))))) := rfl
theorem ifnb {n : M Bool} {m : M PyData} {fr fr2 : Fr} : mIf n (sRet m) (M.pure .nx) fr ≠ some (.ok .bk, fr2) := by
  unfold mIf sRet
  rw [u_bind]
  intro h
  cases hn : n fr with
  | none => rw [hn] at h; cases h
  | some z =>
    obtain ⟨e, f1⟩ := z
    rw [hn] at h
    cases e with
    | error x => cases h
    | ok b =>
      cases b with
      | false => cases h
      | true =>
        simp only [u_bind] at h
        cases hm : m f1 with
        | none => rw [hm] at h; cases h
        | some z =>
          obtain ⟨e, f1⟩ := z
          rw [hm] at h
          cases e <;> cases h
theorem asgnb {m : M PyData} {g : G} {fr fr2 : Fr} {fl : Fl} (hf : fl ≠ .nx) : sAsg m g fr ≠ some (.ok fl, fr2) := by
  unfold sAsg
  rw [u_bind]
  intro h
  cases hm : m fr with
  | none => rw [hm] at h; cases h
  | some z =>
    obtain ⟨e, f1⟩ := z
    rw [hm] at h
    cases e with
    | error x => cases h
    | ok d =>
      simp only at h
      cases hg : g d f1 with
      | none => rw [hg] at h; cases h
      | some f2 =>
        rw [hg] at h
        cases h
        exact hf rfl
theorem seqnb {s1 s2 : MS} (h1 : ∀ fr fr2, s1 fr ≠ some (.ok .bk, fr2)) (h2 : ∀ fr fr2, s2 fr ≠ some (.ok .bk, fr2)) {fr fr2 : Fr} : sSeq s1 s2 fr ≠ some (.ok .bk, fr2) := by
  unfold sSeq
  rw [u_bind]
  intro h
  cases hm : s1 fr with
  | none => rw [hm] at h; cases h
  | some z =>
    obtain ⟨e, f1⟩ := z
    rw [hm] at h
    cases e with
    | error x => cases h
    | ok fl =>
      cases fl with
      | nx => exact h2 _ _ h
      | bk => exact h1 _ _ hm
      | ct => cases h
      | rt d => cases h
theorem lb_nb (fr fr2 : Fr) : lbB fr ≠ some (.ok .bk, fr2) := seqnb (fun _ _ => asgnb (by intro z; cases z)) (fun _ _ => ifnb)
theorem lp_nb (fr fr2 : Fr) : lpB fr ≠ some (.ok .bk, fr2) := seqnb (fun _ _ => asgnb (by intro z; cases z)) (fun _ _ => seqnb (fun _ _ => ifnb) (fun _ _ => asgnb (by intro z; cases z)))
theorem lb_on {r a a' : PyData} {s w : Int} {W : List PyData} {i : Int} {t6 t7 : SD} (q : F_led 5 [r, a, .int w] = some (.ok (.tuple [a', .none, .none]))) (hn : isNone a' = false) : lbB (lbFr r s W a (.fz (.int i)) (.fz (.int w)) t6 t7) = some (.ok .nx, lbFr r s W a' (.fz (.int i)) (.fz (.int w)) (.fz .none) (.fz .none)) := by
  simp [lbB, q, hn]
theorem lb_over {r a : PyData} {s w v h : Int} {W : List PyData} {i : Int} {t6 t7 : SD} (q : F_led 5 [r, a, .int w] = some (.ok (.tuple [.none, .int v, .int h]))) : lbB (lbFr r s W a (.fz (.int i)) (.fz (.int w)) t6 t7) = some (.ok (.rt (.tuple [.none, .int v, .int (i + 1)])), lbFr r s W .none (.fz (.int i)) (.fz (.int w)) (.fz (.int v)) (.fz (.int h))) := by
  have z3 : (3 : Nat) ≤ sizeLine := by decide
  simp [lbB, q, z3]
theorem lp_on {r b b' : PyData} {s w : Int} {W : List PyData} {i : Int} {t6 : SD} (q : F__law_step 5 [r, b, .int w] = some (.ok (.tuple [.str "on", b', .none]))) : lpB (lpFr r s W b (.fz (.int i)) (.fz (.int w)) t6) = some (.ok .nx, lpFr r s W b' (.fz (.int i)) (.fz (.int w)) (.fz (.tuple [.str "on", b', .none]))) := by
  have d : (Str.ofString "on" = Str.ofString "over") = False := eq_false (by decide)
  simp [lpB, q, d]
theorem lp_over {r b : PyData} {s w v h : Int} {W : List PyData} {i : Int} {t6 : SD} (q : F__law_step 5 [r, b, .int w] = some (.ok (.tuple [.str "over", .int v, .int h]))) : lpB (lpFr r s W b (.fz (.int i)) (.fz (.int w)) t6) = some (.ok (.rt (.tuple [.str "over", .int v, .int (i + 1)])), lpFr r s W b (.fz (.int i)) (.fz (.int w)) (.fz (.tuple [.str "over", .int v, .int h]))) := by
  have z3 : (3 : Nat) ≤ sizeLine := by decide
  simp [lpB, q, z3]
theorem lb_goes {r a0 b0 : PyData} {s : Int} {W : List PyData} {ws : List Int} {a b : PyData} (h : Goes r a0 b0 ws a b) : ∀ t4 t5 t6 t7, ∃ u4 u5 u6 u7, forL gIx lbB (enumD 0 (ws.map PyData.int)) (lbFr r s W a0 t4 t5 t6 t7) = some (.ok .nx, lbFr r s W a u4 u5 u6 u7) := by
  induction h with
  | nil => exact fun t4 t5 t6 t7 => ⟨t4, t5, t6, t7, rfl⟩
  | snoc h hw q1 q2 hn _ ih =>
    intro t4 t5 t6 t7
    obtain ⟨u4, u5, u6, u7, q⟩ := ih t4 t5 t6 t7
    rw [List.map_append, List.map_cons, List.map_nil, enumD_snoc]
    exact ⟨_, _, _, _, forL_app q lb_nb (forL_cons rfl (lb_on q1 hn) rfl)⟩
theorem lp_goes {r a0 b0 : PyData} {s : Int} {W : List PyData} {ws : List Int} {a b : PyData} (h : Goes r a0 b0 ws a b) : ∀ t4 t5 t6, ∃ u4 u5 u6, forL gIx lpB (enumD 0 (ws.map PyData.int)) (lpFr r s W b0 t4 t5 t6) = some (.ok .nx, lpFr r s W b u4 u5 u6) := by
  induction h with
  | nil => exact fun t4 t5 t6 => ⟨t4, t5, t6, rfl⟩
  | snoc h hw q1 q2 hn _ ih =>
    intro t4 t5 t6
    obtain ⟨u4, u5, u6, q⟩ := ih t4 t5 t6
    rw [List.map_append, List.map_cons, List.map_nil, enumD_snoc]
    exact ⟨_, _, _, forL_app q lp_nb (forL_cons rfl (lp_on q2) rfl)⟩
theorem by_goes {r a0 b0 : PyData} {s : Int} {ws : List Int} {a b : PyData} (q0 : F_begun 5 [r, .int s] = some (.ok a0)) (q1 : F__law_start 5 [r, .int s] = some (.ok b0)) (h : Goes r a0 b0 ws a b) :
    F_led_by [r, .int s, .list (ws.map PyData.int)] = some (.ok (.tuple [a, .none, .int ws.length])) ∧ F__law_played [r, .int s, .list (ws.map PyData.int)] = some (.ok (.tuple [.str "on", b, .int ws.length])) := by
  have z3 : (3 : Nat) ≤ sizeLine := by decide
  obtain ⟨u4, u5, u6, u7, l1⟩ := lb_goes (s := s) (W := ws.map PyData.int) h .no .no .no .no
  obtain ⟨v4, v5, v6, l2⟩ := lp_goes (s := s) (W := ws.map PyData.int) h .no .no .no
  constructor
  · refine runP_rt rfl (fr := lbFr r s (ws.map PyData.int) a u4 u5 u6 u7) ?_
    rw [lb_eq]
    refine seq_nx (fr1 := lbFr r s (ws.map PyData.int) a0 .no .no .no .no) (asg_go (call_go (ds := [r, .int s]) (cons_go rfl (cons_go rfl rfl)) rfl q0) rfl) (seq_nx (for_go (enum_go rfl) l1) (ret_go ?_))
    simp [A1, z3]
  · refine runP_rt rfl (fr := lpFr r s (ws.map PyData.int) b v4 v5 v6) ?_
    rw [lp_eq]
    refine seq_nx (fr1 := lpFr r s (ws.map PyData.int) b0 .no .no .no) (asg_go (call_go (ds := [r, .int s]) (cons_go rfl (cons_go rfl rfl)) rfl q1) rfl) (seq_nx (for_go (enum_go rfl) l2) (ret_go ?_))
    simp [A1, z3]
theorem by_ends {r a0 b0 : PyData} {s v : Int} {ws : List Int} (q0 : F_begun 5 [r, .int s] = some (.ok a0)) (q1 : F__law_start 5 [r, .int s] = some (.ok b0)) (h : Ends r a0 b0 ws v) :
    F_led_by [r, .int s, .list (ws.map PyData.int)] = some (.ok (.tuple [.none, .int v, .int ws.length])) ∧ F__law_played [r, .int s, .list (ws.map PyData.int)] = some (.ok (.tuple [.str "over", .int v, .int ws.length])) := by
  obtain ⟨us, w, a, b, h, rfl, hg, hw, hv, e1, e2⟩ := h
  obtain ⟨u4, u5, u6, u7, l1⟩ := lb_goes (s := s) (W := (us ++ [w]).map PyData.int) hg .no .no .no .no
  obtain ⟨v4, v5, v6, l2⟩ := lp_goes (s := s) (W := (us ++ [w]).map PyData.int) hg .no .no .no
  have el : (((us ++ [w]).length : Nat) : Int) = ((0 + (us.map PyData.int).length : Nat) : Int) + 1 := by simp
  constructor
  · refine runP_rt rfl (fr := lbFr r s ((us ++ [w]).map PyData.int) .none (.fz (.int ((0 + (us.map PyData.int).length : Nat) : Int))) (.fz (.int w)) (.fz (.int v)) (.fz (.int h))) ?_
    rw [lb_eq]
    refine seq_nx (fr1 := lbFr r s ((us ++ [w]).map PyData.int) a0 .no .no .no .no) (asg_go (call_go (ds := [r, .int s]) (cons_go rfl (cons_go rfl rfl)) rfl q0) rfl) (seq_rt (for_go (enum_go rfl) ?_))
    rw [el]
    have em : enumD 0 ((us ++ [w]).map PyData.int) = enumD 0 (us.map PyData.int) ++ [.tuple [.int ((0 + (us.map PyData.int).length : Nat) : Int), .int w]] := by rw [List.map_append, List.map_cons, List.map_nil, enumD_snoc]
    rw [em]
    exact forL_app l1 lb_nb (forL_rt rfl (lb_over e1))
  · refine runP_rt rfl (fr := lpFr r s ((us ++ [w]).map PyData.int) b (.fz (.int ((0 + (us.map PyData.int).length : Nat) : Int))) (.fz (.int w)) (.fz (.tuple [.str "over", .int v, .int h]))) ?_
    rw [lp_eq]
    refine seq_nx (fr1 := lpFr r s ((us ++ [w]).map PyData.int) b0 .no .no .no) (asg_go (call_go (ds := [r, .int s]) (cons_go rfl (cons_go rfl rfl)) rfl q1) rfl) (seq_rt (for_go (enum_go rfl) ?_))
    rw [el]
    have em : enumD 0 ((us ++ [w]).map PyData.int) = enumD 0 (us.map PyData.int) ++ [.tuple [.int ((0 + (us.map PyData.int).length : Nat) : Int), .int w]] := by rw [List.map_append, List.map_cons, List.map_nil, enumD_snoc]
    rw [em]
    exact forL_app l2 lp_nb (forL_rt rfl (lp_over e2))
end K79
end

section
set_option Elab.async false
set_option linter.all false
set_option maxRecDepth 100000
/-! L79g: drawn matches (plain Lean). -/
namespace K79
open PySem PySem.Spec PyProof.Rows L2 EV
/-- rallies of a match, none behind its end -/
def Led (r : PyData) (s : Int) (ws : List Int) : Prop := ∃ a0 b0, F_begun 5 [r, .int s] = some (.ok a0) ∧ F__law_start 5 [r, .int s] = some (.ok b0) ∧ ((∃ a b, Goes r a0 b0 ws a b) ∨ ∃ v, Ends r a0 b0 ws v)
theorem led_fits {r : PyData} {s : Int} {ws : List Int} (h : Led r s ws) :
    (∃ a b, F_led_by [r, .int s, .list (ws.map PyData.int)] = some (.ok (.tuple [a, .none, .int ws.length])) ∧ F__law_played [r, .int s, .list (ws.map PyData.int)] = some (.ok (.tuple [.str "on", b, .int ws.length]))) ∨
    ∃ v, side v ∧ F_led_by [r, .int s, .list (ws.map PyData.int)] = some (.ok (.tuple [.none, .int v, .int ws.length])) ∧ F__law_played [r, .int s, .list (ws.map PyData.int)] = some (.ok (.tuple [.str "over", .int v, .int ws.length])) := by
  obtain ⟨a0, b0, q0, q1, ⟨a, b, hg⟩ | ⟨v, he⟩⟩ := h
  · exact .inl ⟨a, b, by_goes q0 q1 hg⟩
  · have hv : side v := by
      obtain ⟨_, _, _, _, _, _, _, _, hv, _⟩ := he
      exact hv
    exact .inr ⟨v, hv, by_ends q0 q1 he⟩
abbrev mtFr (g : List PyData) (r : PyData) (s m : Int) (b : PyData) (ws : List Int) (k : Int) (t7 t8 : SD) : Fr := [.ow true (.list g), .fz r, .fz (.int s), .fz (.int m), .fz b, .ow false (.list (ws.map PyData.int)), .fz (.int k), t7, t8]
def mtD : M PyData := (mIf (asB (mP2 pLt (mSlot 6) (mVal (mC (.int 2))))) (mCallL F__law_random (mCons (mSlot 0) (mCons (mVal (mC (.int 2))) mNil))) (mCallL F__law_pick (mCons (mSlot 0) (mCons (mVal (mLst (mCons (mVal (mP2 pSub (mSlot 6) (mVal (mC (.int 2))))) (mCons (mVal (mP2 pSub (mSlot 6) (mVal (mC (.int 2))))) (mCons (mVal (mP2 pSub (mSlot 6) (mVal (mC (.int 2))))) (mCons (mVal (mP2 pSub (mVal (mC (.int 3))) (mSlot 6))) mNil)))))) mNil))))
def mtB : MS := (sSeq (sAsg mtD (gN 7)) (sSeq (sAppend 5 (mVar 7)) (sSeq (sAsg (mCall (F__law_step 5) (mCons (mVal (mVar 1)) (mCons (mVal (mVar 4)) (mCons (mVal (mVar 7)) mNil)))) (gN 8)) (sSeq (mIf (asB (mP2 pEq (mVal (mP2 pIx (mSlot 8) (mVal (mC (.int 0))))) (mVal (mC (.str "over"))))) (sRet (mTup (mCons (mVal (mVar 5)) (mCons (mVal (mP2 pIx (mSlot 8) (mVal (mC (.int 1))))) mNil)))) (M.pure .nx)) (sAsg (mP2 pIx (mSlot 8) (mVal (mC (.int 1)))) (gN 4))))))
def mtC : M Bool := (asB (mP2 pLt (mVal (mPN pLen (A1 (mSlot 5)))) (mSlot 3)))
theorem mt_eq : m__law_match = sSeq (sParEN 4 5 (mCall (F__law_start 5) (mCons (mVal (mVar 1)) (mCons (mVal (mVar 2)) mNil))) (mLst mNil)) (sSeq (sAsg (mCallL F__law_random (mCons (mSlot 0) (mCons (mVal (mC (.int 4))) mNil))) (gN 6)) (sSeq (whileL mtC mtB 30) (sRet (mTup (mCons (mVal (mVar 5)) (mCons (mVal (mC .none)) mNil)))))) := rfl
theorem mt_draw {g : List PyData} {r : PyData} {s m k : Int} {b : PyData} {ws : List Int} {t7 t8 : SD} {j : Nat} (hk : 0 ≤ k ∧ k < 4) (hg : GenOk (j + 1) g) : ∃ w g', side w ∧ mtD (mtFr g r s m b ws k t7 t8) = some (.ok (.int w), mtFr g' r s m b ws k t7 t8) ∧ GenOk j g' := by
  by_cases h : k < 2
  · obtain ⟨w, g', q, h0, h1, hg'⟩ := a_random (m := 2) hg (by decide) (by decide)
    refine ⟨w, g', by unfold side; omega, if_go (b := true) (fr1 := mtFr g r s m b ws k t7 t8) (by simp [h]) (callL_go (cons_go rfl (cons_go rfl rfl)) rfl rfl q rfl), hg'⟩
  · obtain ⟨d, g', q, hd, hg'⟩ := a_pick (ds := [.int (k - 2), .int (k - 2), .int (k - 2), .int (3 - k)]) hg (by simp) (by simp)
    have hd2 : d = .int (k - 2) ∨ d = .int (3 - k) := by
      simp only [List.mem_cons, List.not_mem_nil, or_false] at hd
      rcases hd with h | h | h | h
      · exact .inl h
      · exact .inl h
      · exact .inl h
      · exact .inr h
    obtain ⟨w, rfl, hw⟩ : ∃ w, d = .int w ∧ side w := by
      rcases hd2 with rfl | rfl
      · exact ⟨_, rfl, by unfold side; omega⟩
      · exact ⟨_, rfl, by unfold side; omega⟩
    refine ⟨w, g', hw, if_go (b := false) (fr1 := mtFr g r s m b ws k t7 t8) (by simp [h]) (callL_go (fr1 := mtFr g r s m b ws k t7 t8) (i := 0) (rest := [.inl (.list [.int (k - 2), .int (k - 2), .int (k - 2), .int (3 - k)])]) (ds := [.list [.int (k - 2), .int (k - 2), .int (k - 2), .int (3 - k)]]) (by kernel_rfl) rfl rfl q rfl), hg'⟩
theorem mt_one {g : List PyData} {r a0 b0 : PyData} {s m k : Int} {a b : PyData} {ws : List Int} {t7 t8 : SD} {j : Nat} (hr : RuleOk 2 r) (h0 : St 2 r a0 b0) (h : Goes r a0 b0 ws a b) (hk : 0 ≤ k ∧ k < 4) (hl : ws.length < 100) (hg : GenOk (j + 1) g) :
    ∃ w g', GenOk j g' ∧ ((∃ a' b' u7 u8, Goes r a0 b0 (ws ++ [w]) a' b' ∧ mtB (mtFr g r s m b ws k t7 t8) = some (.ok .nx, mtFr g' r s m b' (ws ++ [w]) k u7 u8)) ∨
      ∃ v fr, Ends r a0 b0 (ws ++ [w]) v ∧ mtB (mtFr g r s m b ws k t7 t8) = some (.ok (.rt (.tuple [.list ((ws ++ [w]).map PyData.int), .int v])), .ow true (.list g') :: fr)) := by
  obtain ⟨w, g', hw, q, hg'⟩ := mt_draw (r := r) (s := s) (m := m) (b := b) (ws := ws) (t7 := t7) (t8 := t8) hk hg
  have z2 : (2 : Nat) ≤ sizeLine := by decide
  have hz : (ws.map PyData.int).length < sizeLine := by
    rw [List.length_map]
    exact Nat.lt_trans hl (by decide)
  have em : (ws ++ [w]).map PyData.int = ws.map PyData.int ++ [.int w] := by rw [List.map_append]; rfl
  have p1 : (sAsg mtD (gN 7)) (mtFr g r s m b ws k t7 t8) = some (.ok .nx, mtFr g' r s m b ws k (.fz (.int w)) t8) := asg_go q rfl
  have p2 : (sAppend 5 (mVar 7)) (mtFr g' r s m b ws k (.fz (.int w)) t8) = some (.ok .nx, mtFr g' r s m b (ws ++ [w]) k (.fz (.int w)) t8) := by
    refine append_go (d := .int w) rfl rfl rfl hz ?_
    unfold mtFr
    rw [em]
    rfl
  refine ⟨w, g', hg', ?_⟩
  rcases a_fit 2 5 r a b w (by decide) (by decide) hr (h.st h0) hw with ⟨a', b', q1, q2, hn, hst⟩ | ⟨v, hh, hv, hhh, q1, q2⟩
  · refine .inl ⟨a', b', .fz (.int w), .fz (.tuple [.str "on", b', .none]), .snoc h hw q1 q2 hn hst, ?_⟩
    refine seq_nx p1 (seq_nx p2 (seq_nx (fr1 := mtFr g' r s m b (ws ++ [w]) k (.fz (.int w)) (.fz (.tuple [.str "on", b', .none]))) (asg_go (call_go (ds := [r, b, .int w]) (cons_go rfl (cons_go rfl (cons_go rfl rfl))) rfl q2) rfl) (seq_nx (if_go (b := false) (fr1 := mtFr g' r s m b (ws ++ [w]) k (.fz (.int w)) (.fz (.tuple [.str "on", b', .none]))) (by kernel_rfl) rfl) (asg_go (d := b') (fr1 := mtFr g' r s m b (ws ++ [w]) k (.fz (.int w)) (.fz (.tuple [.str "on", b', .none]))) (by kernel_rfl) rfl))))
  · refine .inr ⟨v, [.fz r, .fz (.int s), .fz (.int m), .fz b, .fz (.list ((ws ++ [w]).map PyData.int)), .fz (.int k), .fz (.int w), .fz (.tuple [.str "over", .int v, .int hh])], ⟨ws, w, a, b, hh, rfl, h, hw, hv, q1, q2⟩, ?_⟩
    refine seq_nx p1 (seq_nx p2 (seq_nx (fr1 := mtFr g' r s m b (ws ++ [w]) k (.fz (.int w)) (.fz (.tuple [.str "over", .int v, .int hh]))) (asg_go (call_go (ds := [r, b, .int w]) (cons_go rfl (cons_go rfl (cons_go rfl rfl))) rfl q2) rfl) (seq_rt (if_go (b := true) (fr1 := mtFr g' r s m b (ws ++ [w]) k (.fz (.int w)) (.fz (.tuple [.str "over", .int v, .int hh]))) (by kernel_rfl) (ret_go ?_)))))
    simp [z2]
theorem mt_loop {r a0 b0 : PyData} {s m k : Int} (hr : RuleOk 2 r) (h0 : St 2 r a0 b0) (hk : 0 ≤ k ∧ k < 4) (hm : m < 100) : ∀ (n f : Nat) (g : List PyData) (ws : List Int) (a b : PyData) (t7 t8 : SD) (j : Nat), n < f → m = (ws.length : Int) + n → Goes r a0 b0 ws a b → GenOk (j + n) g →
    ∃ ws' g', GenOk j g' ∧ (ws'.length : Int) ≤ m ∧ ((∃ a' b' u7 u8, Goes r a0 b0 ws' a' b' ∧ whileL mtC mtB f (mtFr g r s m b ws k t7 t8) = some (.ok .nx, mtFr g' r s m b' ws' k u7 u8)) ∨
      ∃ v fr, Ends r a0 b0 ws' v ∧ whileL mtC mtB f (mtFr g r s m b ws k t7 t8) = some (.ok (.rt (.tuple [.list (ws'.map PyData.int), .int v])), .ow true (.list g') :: fr))
  | 0, f, g, ws, a, b, t7, t8, j, hf, he, h, hg => by
    obtain ⟨f, rfl⟩ : ∃ f', f = f' + 1 := ⟨f - 1, by omega⟩
    refine ⟨ws, g, hg, by omega, .inl ⟨a, b, t7, t8, h, while_no ?_⟩⟩
    have z : ¬ (ws.length : Int) < m := by omega
    simp [mtC, A1, z]
  | n + 1, f, g, ws, a, b, t7, t8, j, hf, he, h, hg => by
    obtain ⟨f, rfl⟩ : ∃ f', f = f' + 1 := ⟨f - 1, by omega⟩
    have z : (ws.length : Int) < m := by omega
    have c1 : mtC (mtFr g r s m b ws k t7 t8) = some (.ok true, mtFr g r s m b ws k t7 t8) := by simp [mtC, A1, z]
    obtain ⟨w, g1, hg1, ⟨a', b', u7, u8, h1, q⟩ | ⟨v, fr, he1, q⟩⟩ := mt_one (s := s) (m := m) (t7 := t7) (t8 := t8) (j := j + n) hr h0 h hk (by omega) hg
    · obtain ⟨ws', g', hg', hl, ⟨a2, b2, v7, v8, h2, q2⟩ | ⟨v, fr, he2, q2⟩⟩ := mt_loop hr h0 hk hm n f g1 (ws ++ [w]) a' b' u7 u8 j (by omega) (by rw [List.length_append, List.length_singleton]; omega) h1 hg1
      · exact ⟨ws', g', hg', hl, .inl ⟨a2, b2, v7, v8, h2, while_nx c1 q q2⟩⟩
      · exact ⟨ws', g', hg', hl, .inr ⟨v, fr, he2, while_nx c1 q q2⟩⟩
    · exact ⟨ws ++ [w], g1, hg1.mono (by omega), by rw [List.length_append, List.length_singleton]; omega, .inr ⟨v, fr, he1, while_rt c1 q⟩⟩
theorem Ends.sides {r a0 b0 : PyData} {ws : List Int} {v : Int} (h : Ends r a0 b0 ws v) : ∀ w ∈ ws, side w := by
  obtain ⟨us, w, a, b, h, rfl, hg, hw, _⟩ := h
  intro w' hw'
  rw [List.mem_append, List.mem_singleton] at hw'
  rcases hw' with z | rfl
  · exact hg.sides w' z
  · exact hw
theorem a_match {g : List PyData} {r : PyData} {s m : Int} {j : Nat} (hr : RuleOk 2 r) (hs : side s) (hm : 0 ≤ m ∧ m ≤ 25) (hg : GenOk (j + 26) g) :
    ∃ ws res g', F__law_match g [r, .int s, .int m] = some (.ok (.tuple [.list (ws.map PyData.int), res]), g') ∧ ws.length ≤ 25 ∧ (∀ w ∈ ws, side w) ∧ Led r s ws ∧ GenOk j g' := by
  obtain ⟨a0, b0, q0, q1, h0⟩ := a_begun 2 5 r s (by decide) (by decide) hr hs
  obtain ⟨k, g1, qk, hk0, hk1, hg1⟩ := a_random (n := j + 25) (m := 4) hg (by decide) (by decide)
  obtain ⟨n, rfl⟩ := Int.eq_ofNat_of_zero_le hm.1
  have hn : n ≤ 25 := by omega
  have z2 : (2 : Nat) ≤ sizeLine := by decide
  have hg2 : GenOk (j + (25 - n) + n) g1 := hg1.mono (by omega)
  obtain ⟨ws', g', hg', hl, hc⟩ := mt_loop (s := s) (m := (n : Int)) hr h0 ⟨hk0, hk1⟩ (by omega) n 30 g1 [] a0 b0 .no .no (j + (25 - n)) (by omega) (by simp) .nil hg2
  have p1 : (sParEN 4 5 (mCall (F__law_start 5) (mCons (mVal (mVar 1)) (mCons (mVal (mVar 2)) mNil))) (mLst mNil)) [.ow true (.list g), .fz r, .fz (.int s), .fz (.int n), .no, .no, .no, .no, .no] = some (.ok .nx, [.ow true (.list g), .fz r, .fz (.int s), .fz (.int n), .fz b0, .ow false (.list []), .no, .no, .no]) := by
    simp [sParEN, q1]
  have p2 : (sAsg (mCallL F__law_random (mCons (mSlot 0) (mCons (mVal (mC (.int 4))) mNil))) (gN 6)) [.ow true (.list g), .fz r, .fz (.int s), .fz (.int n), .fz b0, .ow false (.list []), .no, .no, .no] = some (.ok .nx, mtFr g1 r s n b0 [] k .no .no) := asg_go (callL_go (cons_go rfl (cons_go rfl rfl)) rfl rfl qk rfl) rfl
  rcases hc with ⟨a', b', u7, u8, h1, q⟩ | ⟨v, fr, he, q⟩
  · refine ⟨ws', .none, g', ?_, by omega, h1.sides, ⟨a0, b0, q0, q1, .inl ⟨a', b', h1⟩⟩, hg'.mono (by omega)⟩
    refine runL_rt rfl (fr := [.fz r, .fz (.int s), .fz (.int n), .fz b', .fz (.list (ws'.map PyData.int)), .fz (.int k), u7, u8]) ?_
    rw [mt_eq]
    refine seq_nx p1 (seq_nx p2 (seq_nx q (ret_go ?_)))
    simp [z2]
  · refine ⟨ws', .int v, g', ?_, by omega, he.sides, ⟨a0, b0, q0, q1, .inr ⟨v, he⟩⟩, hg'.mono (by omega)⟩
    refine runL_rt rfl (fr := fr) ?_
    rw [mt_eq]
    exact seq_nx p1 (seq_nx p2 (seq_rt q))
end K79
end

section
set_option Elab.async false
set_option linter.all false
set_option maxRecDepth 100000
/-! L79h: tables: table_of and _law_due_table fit (plain Lean). -/
namespace EV
open PySem PySem.Spec PyProof.Rows L2
theorem lc_go {i : Nat} {n : M Bool} {m : M PyData} {items : M (List PyData)} {fr : Fr} {ds : List PyData} {T : PyData → Bool} {f : PyData → PyData} (h : items fr = some (.ok ds, fr)) (hi : fr[i]? = some .no) (hd : ∀ d ∈ ds, n (fr.set i (.fz d)) = some (.ok (T d), fr.set i (.fz d)) ∧ (T d = true → m (fr.set i (.fz d)) = some (.ok (f d), fr.set i (.fz d)))) (hl : ds.length ≤ sizeLine) : mLc [i] items (gN i) n m fr = some (.ok (.list ((ds.filter T).map f)), fr) := by
  have w : fr.set i .no = fr := by
    refine List.ext_getElem? fun j => ?_
    by_cases e : i = j
    · subst e
      have hl : i < fr.length := (List.getElem?_eq_some_iff.mp hi).1
      rw [List.getElem?_set_self hl, hi]
    · rw [List.getElem?_set_ne e]
  unfold mLc
  rw [u_bind, h]
  simp only []
  have w1 : wipeF fr [i] = fr := w
  rw [w1, lc_filter hi ds [] hd (by simpa using hl)]
  simp only [List.nil_append]
  have w2 : restF fr fr [i] = fr := by
    show fr.set i (match fr[i]? with | some (.fz d) => .fz d | _ => .no) = fr
    rw [hi]
    exact w
  rw [w2]
theorem storeG {ko : M Opd} {x0 : Opd} {key : M PyData} {fr : Fr} {i j : Nat} {WD : List PyData} {x : Int} (h1 : fr[j]? = some (.ow false (.list WD))) (ho : ko fr = some (.ok x0, fr)) (hx : rsv fr x0 = some (.int i)) (h2 : key fr = some (.ok (.int i), fr)) (h3 : WD[i]? = some (.int x)) :
    sStore j (mP2 pAdd (mVal (mP2 pIx (mSlot j) ko)) (mVal (mC (.int 1)))) key fr = some (.ok .nx, fr.set j (.ow false (.list (WD.set i (.int (x + 1)))))) := by
  have s1 : rsv fr (.inr j) = some (.list WD) := by simp [h1]
  have s2 : mSlot j fr = some (.ok (.inr j), fr) := by rw [u_Slot, s1]
  have p : mP2 pAdd (mVal (mP2 pIx (mSlot j) ko)) (mVal (mC (.int 1))) fr = some (.ok (.int (x + 1)), fr) :=
    p2_go (val_go (p2_go s2 ho s1 hx (show pIx (.list WD) (.int i) = some (.int x) by rw [u_ixL]; exact L2.atI_nat h3))) (val_go rfl) rfl rfl rfl
  have hl : i < WD.length := (List.getElem?_eq_some_iff.mp h3).1
  have k : ixN WD.length (i : Int) = some i := by
    unfold ixN
    rw [if_pos (by omega), if_pos (by omega)]
    rfl
  rw [u_Store, u_bind, p]
  simp only [u_chk', s1, u_bind, h2, h1, k]
theorem store3 {key : M PyData} {fr : Fr} {i j : Nat} {WD : List PyData} {x : Int} (h1 : fr[j]? = some (.ow false (.list WD))) (h2 : key fr = some (.ok (.int i), fr)) (h3 : WD[i]? = some (.int x)) :
    sStore j (mP2 pAdd (mVal (mP2 pIx (mSlot j) (mVal key))) (mVal (mC (.int 1)))) key fr = some (.ok .nx, fr.set j (.ow false (.list (WD.set i (.int (x + 1)))))) := storeG h1 (val_go h2) rfl h2 h3
end EV
namespace K79
open PySem PySem.Spec PyProof.Rows L2 EV
/-- a match of a day -/
def mD (h g : Nat) (f : Int) (ws : List Int) : PyData := .tuple [.int h, .int g, .int f, .list (ws.map PyData.int)]
structure MOk (r : PyData) (T : Nat) (h g : Nat) (f : Int) (ws : List Int) : Prop where
  hh : h < T
  hg : g < T
  ne : h ≠ g
  hf : side f
  len : ws.length ≤ 25
  hw : ∀ w ∈ ws, side w
  led : Led r f ws
def DayOk (r : PyData) (T : Nat) (D : List PyData) : Prop := ∀ d ∈ D, ∃ h g f ws, d = mD h g f ws ∧ MOk r T h g f ws
theorem side_btw {s : Int} (h : side s) : isBetween (.int s) 0 1 = true := by
  rcases h with rfl | rfl <;> rfl
theorem rallies_ok {ws : List Int} (h : ∀ w ∈ ws, side w) (hl : ws.length ≤ 1000) : F_are_rallies [.list (ws.map PyData.int)] = some (.ok (.bool true)) := by
  have q : mLc [1] (asL (mVar 0)) (gN 1) (nNot (asB (mCall F_is_side (mCons (mVal (mVar 1)) mNil)))) (mVar 1) [.fz (.list (ws.map PyData.int)), .no] = some (.ok (.list []), [.fz (.list (ws.map PyData.int)), .no]) := by
    have e := lc_go (i := 1) (items := asL (mVar 0)) (n := nNot (asB (mCall F_is_side (mCons (mVal (mVar 1)) mNil)))) (m := mVar 1) (fr := [.fz (.list (ws.map PyData.int)), .no]) (ds := ws.map PyData.int) (T := fun _ => false) (f := id) (asL_go rfl) rfl (fun d hd => by
      obtain ⟨w, hw, rfl⟩ := List.mem_map.mp hd
      refine ⟨?_, fun z => by cases z⟩
      exact nnot_go (b := true) (asB_go (call_go (ds := [.int w]) (cons_go rfl rfl) rfl (by rw [a_is_side, side_btw (h w hw)])))) (by rw [List.length_map]; exact Nat.le_trans hl (by decide))
    rw [e]
    have f0 : (ws.map PyData.int).filter (fun _ => false) = [] := List.filter_eq_nil_iff.mpr fun a _ z => by cases z
    rw [f0]
    rfl
  refine runP_rt rfl (fr := [.fz (.list (ws.map PyData.int)), .no]) (ret_go ?_)
  generalize ws.map PyData.int = L at q ⊢
  have i1 : (asB (mIsi "list" (mSlot 0))) [.fz (.list L), .no] = some (.ok true, [.fz (.list L), .no]) := rfl
  show mAnd _ _ [.fz (.list L), .no] = _
  unfold mAnd
  rw [u_bind, i1]
  simp only []
  exact p2_go (val_go q) (val_go (by rfl)) rfl rfl eq_nil
theorem match_ok {r : PyData} {T : Nat} {h g : Nat} {f : Int} {ws : List Int} (H : MOk r T h g f ws) : F_is_match [.int T, mD h g f ws] = some (.ok (.bool true)) := by
  have a1 : F_is_count [.int (h : Int)] = some (.ok (.bool true)) := by rw [a_is_count]; simp [isCount]
  have a2 : F_is_count [.int (g : Int)] = some (.ok (.bool true)) := by rw [a_is_count]; simp [isCount]
  have a3 : F_is_side [.int f] = some (.ok (.bool true)) := by rw [a_is_side, side_btw H.hf]
  have a4 := rallies_ok H.hw (Nat.le_trans H.len (by decide))
  have c1 : ¬ ((T : Int) ≤ h) := by have := H.hh; omega
  have c2 : ¬ ((T : Int) ≤ g) := by have := H.hg; omega
  have c3 : ((h : Int) == (g : Int)) = false := by
    rw [beq_eq_false_iff_ne]
    have := H.ne
    omega
  unfold mD
  generalize ws.map PyData.int = L at a4 ⊢
  generalize (h : Int) = hI at *
  generalize (g : Int) = gI at *
  generalize (T : Int) = tI at *
  simp [F_is_match, m_is_match, isT, tyN, A1, a1, a2, a3, a4, c1, c2, c3]
abbrev tbF (r : PyData) (T : Int) (D WD LD : List PyData) (t5 t6 t7 t8 t9 t10 t11 t12 : SD) : Fr := [.fz r, .fz (.int T), .fz (.list D), .ow false (.list WD), .ow false (.list LD), t5, t6, t7, t8, t9, t10, t11, t12]
abbrev gM : G := gT 4 (gsCons (gN 5) (gsCons (gN 6) (gsCons (gN 7) (gsCons (gN 8) gsNil))))
def tbB : MS := (sSeq (sAsg (mCall F_led_by (mCons (mVal (mVar 0)) (mCons (mVal (mVar 7)) (mCons (mVal (mVar 8)) mNil)))) (gT 3 (gsCons (gN 9) (gsCons (gN 10) (gsCons (gN 11) gsNil))))) (sSeq (mIf (asB (mP2 pLt (mSlot 11) (mVal (mPN pLen (A1 (mSlot 8)))))) (sRaise 2 (mVar 2)) (M.pure .nx)) (mIf (asB (mP2 pIsN (mSlot 10) (mVal (mC .none)))) (sAppend 4 (mTup (mCons (mVal (mPN pMin2 (A2 (mSlot 5) (mSlot 6)))) (mCons (mVal (mPN pMax2 (A2 (mSlot 5) (mSlot 6)))) mNil)))) (sStore 3 (mP2 pAdd (mVal (mP2 pIx (mSlot 3) (mVal (mIf (asB (mP2 pEq (mSlot 10) (mVal (mC (.int 1))))) (mVar 6) (mVar 5))))) (mVal (mC (.int 1)))) (mIf (asB (mP2 pEq (mSlot 10) (mVal (mC (.int 1))))) (mVar 6) (mVar 5))))))
def duB : MS := (sSeq (sAsg (mCall F__law_played (mCons (mVal (mVar 0)) (mCons (mVal (mVar 7)) (mCons (mVal (mVar 8)) mNil)))) (gT 3 (gsCons (gN 9) (gsCons (gN 10) (gsCons (gN 11) gsNil))))) (mIf (asB (mP2 pEq (mSlot 9) (mVal (mC (.str "over"))))) (sSeq (sAsg (mP2 pIx (mVal (mLst (mCons (mVal (mVar 5)) (mCons (mVal (mVar 6)) mNil)))) (mSlot 10)) (gN 12)) (sStore 3 (mP2 pAdd (mVal (mP2 pIx (mSlot 3) (mSlot 12))) (mVal (mC (.int 1)))) (mVar 12))) (sAppend 4 (mTup (mCons (mVal (mPN pMin2 (A2 (mSlot 5) (mSlot 6)))) (mCons (mVal (mPN pMax2 (A2 (mSlot 5) (mSlot 6)))) mNil))))))
/-- the wins and what is left, behind so many matches -/
structure Inv (T n : Nat) (W : List Int) (L : List (Int × Int)) : Prop where
  len : W.length = T
  w : ∀ w ∈ W, 0 ≤ w ∧ w ≤ n
  ll : L.length ≤ n
  l : ∀ p ∈ L, 0 ≤ p.1 ∧ p.1 < T ∧ 0 ≤ p.2 ∧ p.2 < T
theorem min2 {i j : Int} : pMin2 [.int i, .int j] = some (.int (if j < i then j else i)) := rfl
theorem tb_one {r : PyData} {T : Nat} {D : List PyData} {W : List Int} {L : List (Int × Int)} {h g n : Nat} {f : Int} {ws : List Int} (H : MOk r T h g f ws) (I : Inv T n W L) (hn : n < 1000) :
    ∃ W' L', Inv T (n + 1) W' L' ∧
      (∀ t9 t10 t11 t12, ∃ u9 u10 u11 u12, tbB (tbF r T D (W.map PyData.int) (L.map EV.pairD) (.fz (.int h)) (.fz (.int g)) (.fz (.int f)) (.fz (.list (ws.map PyData.int))) t9 t10 t11 t12) = some (.ok .nx, tbF r T D (W'.map PyData.int) (L'.map EV.pairD) (.fz (.int h)) (.fz (.int g)) (.fz (.int f)) (.fz (.list (ws.map PyData.int))) u9 u10 u11 u12) ∧ u12 = t12) ∧
      ∀ t9 t10 t11 t12, ∃ u9 u10 u11 u12, duB (tbF r T D (W.map PyData.int) (L.map EV.pairD) (.fz (.int h)) (.fz (.int g)) (.fz (.int f)) (.fz (.list (ws.map PyData.int))) t9 t10 t11 t12) = some (.ok .nx, tbF r T D (W'.map PyData.int) (L'.map EV.pairD) (.fz (.int h)) (.fz (.int g)) (.fz (.int f)) (.fz (.list (ws.map PyData.int))) u9 u10 u11 u12) := by
  have hh := H.hh
  have hg := H.hg
  have z2 : (2 : Nat) ≤ sizeLine := by decide
  have zl : (L.map EV.pairD).length < sizeLine := by
    rw [List.length_map]
    have := I.ll
    exact Nat.lt_trans (show L.length < 2000 by omega) (by decide)
  have bump : ∀ i, i < T → ∃ x, (W.map PyData.int)[i]? = some (.int x) ∧ Inv T (n + 1) (W.set i (x + 1)) L ∧ (W.map PyData.int).set i (.int (x + 1)) = (W.set i (x + 1)).map PyData.int := by
    intro i hi
    have hiW : i < W.length := by rw [I.len]; exact hi
    refine ⟨W[i], by simp [hiW], ⟨by rw [List.length_set, I.len], fun w hw => ?_, by have := I.ll; omega, I.l⟩, by rw [List.map_set]⟩
    rcases List.mem_or_eq_of_mem_set hw with z | rfl
    · have := I.w w z
      omega
    · have := I.w W[i] (List.getElem_mem hiW)
      omega
  rcases led_fits H.led with ⟨a, b, q1, q2⟩ | ⟨v, hv, q1, q2⟩
  · refine ⟨W, L ++ [(if (g : Int) < h then (g : Int) else h, if (g : Int) > h then (g : Int) else h)], ⟨I.len, fun w hw => by have := I.w w hw; omega, by rw [List.length_append, List.length_singleton]; have := I.ll; omega, fun p hp => ?_⟩, fun t9 t10 t11 t12 => ⟨.fz a, .fz .none, .fz (.int ws.length), t12, ?_, rfl⟩, fun t9 t10 t11 t12 => ⟨.fz (.str "on"), .fz b, .fz (.int ws.length), t12, ?_⟩⟩
    · rw [List.mem_append, List.mem_singleton] at hp
      rcases hp with z | rfl
      · exact I.l p z
      · simp only
        split <;> split <;> omega
    · rw [List.map_append, List.map_cons, List.map_nil]
      have el : ((ws.length : Nat) : Int) = (((ws.map PyData.int).length : Nat) : Int) := by simp
      rw [el] at q1 ⊢
      clear q2 el bump
      generalize ws.map PyData.int = wd at *
      generalize W.map PyData.int = WD at *
      generalize L.map EV.pairD = LD at *
      refine seq_nx (fr1 := tbF r T D WD LD (.fz (.int h)) (.fz (.int g)) (.fz (.int f)) (.fz (.list wd)) (.fz a) (.fz .none) (.fz (.int wd.length)) t12) (asg_go (call_go (ds := [r, .int f, .list wd]) (cons_go rfl (cons_go rfl (cons_go rfl rfl))) rfl q1) rfl) ?_
      refine seq_nx (if_go (b := false) (fr1 := tbF r T D WD LD (.fz (.int h)) (.fz (.int g)) (.fz (.int f)) (.fz (.list wd)) (.fz a) (.fz .none) (.fz (.int wd.length)) t12) (by simp [A1]) rfl) ?_
      refine if_go (b := true) (fr1 := tbF r T D WD LD (.fz (.int h)) (.fz (.int g)) (.fz (.int f)) (.fz (.list wd)) (.fz a) (.fz .none) (.fz (.int wd.length)) t12) (by rfl) ?_
      exact append_go (i := 4) (me := mTup (mCons (mVal (mPN pMin2 (A2 (mSlot 5) (mSlot 6)))) (mCons (mVal (mPN pMax2 (A2 (mSlot 5) (mSlot 6)))) mNil))) (l := false) (ds := LD) (l' := false) (ds' := LD) (d := EV.pairD (if (g : Int) < h then (g : Int) else h, if (g : Int) > h then (g : Int) else h)) (fr := tbF r T D WD LD (.fz (.int h)) (.fz (.int g)) (.fz (.int f)) (.fz (.list wd)) (.fz a) (.fz .none) (.fz (.int wd.length)) t12) (fr1 := tbF r T D WD LD (.fz (.int h)) (.fz (.int g)) (.fz (.int f)) (.fz (.list wd)) (.fz a) (.fz .none) (.fz (.int wd.length)) t12) rfl (by kernel_rfl) rfl zl rfl
    · rw [List.map_append, List.map_cons, List.map_nil]
      have el : ((ws.length : Nat) : Int) = (((ws.map PyData.int).length : Nat) : Int) := by simp
      rw [el] at q2 ⊢
      clear q1 el bump
      generalize ws.map PyData.int = wd at *
      generalize W.map PyData.int = WD at *
      generalize L.map EV.pairD = LD at *
      refine seq_nx (fr1 := tbF r T D WD LD (.fz (.int h)) (.fz (.int g)) (.fz (.int f)) (.fz (.list wd)) (.fz (.str "on")) (.fz b) (.fz (.int wd.length)) t12) (asg_go (call_go (ds := [r, .int f, .list wd]) (cons_go rfl (cons_go rfl (cons_go rfl rfl))) rfl q2) rfl) ?_
      refine if_go (b := false) (fr1 := tbF r T D WD LD (.fz (.int h)) (.fz (.int g)) (.fz (.int f)) (.fz (.list wd)) (.fz (.str "on")) (.fz b) (.fz (.int wd.length)) t12) (by kernel_rfl) ?_
      exact append_go (i := 4) (me := mTup (mCons (mVal (mPN pMin2 (A2 (mSlot 5) (mSlot 6)))) (mCons (mVal (mPN pMax2 (A2 (mSlot 5) (mSlot 6)))) mNil))) (l := false) (ds := LD) (l' := false) (ds' := LD) (d := EV.pairD (if (g : Int) < h then (g : Int) else h, if (g : Int) > h then (g : Int) else h)) (fr := tbF r T D WD LD (.fz (.int h)) (.fz (.int g)) (.fz (.int f)) (.fz (.list wd)) (.fz (.str "on")) (.fz b) (.fz (.int wd.length)) t12) (fr1 := tbF r T D WD LD (.fz (.int h)) (.fz (.int g)) (.fz (.int f)) (.fz (.list wd)) (.fz (.str "on")) (.fz b) (.fz (.int wd.length)) t12) rfl (by kernel_rfl) rfl zl rfl
  · have hk : (if v = 1 then g else h) < T := by split <;> assumption
    obtain ⟨x, hx, I', em⟩ := bump _ hk
    refine ⟨W.set (if v = 1 then g else h) (x + 1), L, I', fun t9 t10 t11 t12 => ⟨.fz .none, .fz (.int v), .fz (.int ws.length), t12, ?_, rfl⟩, fun t9 t10 t11 t12 => ⟨.fz (.str "over"), .fz (.int v), .fz (.int ws.length), .fz (.int ((if v = 1 then g else h : Nat) : Int)), ?_⟩⟩
    · rw [← em]
      have el : ((ws.length : Nat) : Int) = (((ws.map PyData.int).length : Nat) : Int) := by simp
      rw [el] at q1 ⊢
      clear q2 el bump em I'
      generalize ws.map PyData.int = wd at *
      generalize W.map PyData.int = WD at *
      generalize L.map EV.pairD = LD at *
      refine seq_nx (fr1 := tbF r T D WD LD (.fz (.int h)) (.fz (.int g)) (.fz (.int f)) (.fz (.list wd)) (.fz .none) (.fz (.int v)) (.fz (.int wd.length)) t12) (asg_go (call_go (ds := [r, .int f, .list wd]) (cons_go rfl (cons_go rfl (cons_go rfl rfl))) rfl q1) rfl) ?_
      refine seq_nx (if_go (b := false) (fr1 := tbF r T D WD LD (.fz (.int h)) (.fz (.int g)) (.fz (.int f)) (.fz (.list wd)) (.fz .none) (.fz (.int v)) (.fz (.int wd.length)) t12) (by simp [A1]) rfl) ?_
      refine if_go (b := false) (fr1 := tbF r T D WD LD (.fz (.int h)) (.fz (.int g)) (.fz (.int f)) (.fz (.list wd)) (.fz .none) (.fz (.int v)) (.fz (.int wd.length)) t12) (by rfl) ?_
      refine store3 (j := 3) (fr := tbF r T D WD LD (.fz (.int h)) (.fz (.int g)) (.fz (.int f)) (.fz (.list wd)) (.fz .none) (.fz (.int v)) (.fz (.int wd.length)) t12) (key := (mIf (asB (mP2 pEq (mSlot 10) (mVal (mC (.int 1))))) (mVar 6) (mVar 5))) (WD := WD) rfl ?_ hx
      rcases hv with rfl | rfl <;> rfl
    · rw [← em]
      have el : ((ws.length : Nat) : Int) = (((ws.map PyData.int).length : Nat) : Int) := by simp
      rw [el] at q2 ⊢
      clear q1 el bump em I'
      generalize ws.map PyData.int = wd at *
      generalize W.map PyData.int = WD at *
      generalize L.map EV.pairD = LD at *
      refine seq_nx (fr1 := tbF r T D WD LD (.fz (.int h)) (.fz (.int g)) (.fz (.int f)) (.fz (.list wd)) (.fz (.str "over")) (.fz (.int v)) (.fz (.int wd.length)) t12) (asg_go (call_go (ds := [r, .int f, .list wd]) (cons_go rfl (cons_go rfl (cons_go rfl rfl))) rfl q2) rfl) ?_
      refine if_go (b := true) (fr1 := tbF r T D WD LD (.fz (.int h)) (.fz (.int g)) (.fz (.int f)) (.fz (.list wd)) (.fz (.str "over")) (.fz (.int v)) (.fz (.int wd.length)) t12) (by kernel_rfl) ?_
      refine seq_nx (fr1 := tbF r T D WD LD (.fz (.int h)) (.fz (.int g)) (.fz (.int f)) (.fz (.list wd)) (.fz (.str "over")) (.fz (.int v)) (.fz (.int wd.length)) (.fz (.int ((if v = 1 then g else h : Nat) : Int)))) ?_ ?_
      · rcases hv with rfl | rfl <;> simp [z2]
      · exact storeG (ko := mSlot 12) (x0 := .inr 12) (j := 3) (fr := tbF r T D WD LD (.fz (.int h)) (.fz (.int g)) (.fz (.int f)) (.fz (.list wd)) (.fz (.str "over")) (.fz (.int v)) (.fz (.int wd.length)) (.fz (.int ((if v = 1 then g else h : Nat) : Int)))) (key := mVar 12) (WD := WD) rfl rfl rfl rfl hx
end K79
end

section
set_option Elab.async false
set_option linter.all false
set_option maxRecDepth 100000
/-! L79i: the table of a day, told by both; drawn days (plain Lean). -/
namespace EV
open PySem PySem.Spec PyProof.Rows L2
theorem retD_go {i : Nat} {m2 : M PyData} {fr : Fr} {ds1 ds2 : List PyData} (h1 : fr[i]? = some (.ow false (.list ds1))) (h2 : m2 fr = some (.ok (.list ds2), fr)) (h3 : lfAll ds1 = true) (h4 : lfAll ds2 = true) : sRetD i m2 fr = some (.ok (.rt (.tuple [.list ds1, .list ds2])), fr.set i (.fz (.list ds1))) := by
  unfold sRetD
  rw [h1]
  simp only [u_bind, h2, h1, h3, h4, Bool.and_self, if_true]
theorem parNN_go {i j : Nat} {ma mb : M PyData} {fr fr1 fr2 fr3 : Fr} {x y : PyData} (h1 : ma fr = some (.ok x, fr1)) (h2 : mb fr1 = some (.ok y, fr2)) (hi : i < fr2.length) (hj : j < fr2.length) (h3 : (fr2.set i (.ow false x)).set j (.ow false y) = fr3) : sParNN i j ma mb fr = some (.ok .nx, fr3) := by
  subst h3
  unfold sParNN
  rw [u_bind, h1]
  simp only [u_bind, h2, if_pos (And.intro hi hj)]
theorem lf_ints : ∀ W : List Int, lfAll (W.map PyData.int) = true
  | [] => rfl
  | w :: W => by
    show (lf (.int w) && lfAll (W.map PyData.int)) = true
    rw [lf_ints W]
    rfl
theorem lf_pairs : ∀ L : List (Int × Int), lfAll (L.map EV.pairD) = true
  | [] => rfl
  | p :: L => by
    show (lf (EV.pairD p) && lfAll (L.map EV.pairD)) = true
    rw [lf_pairs L]
    rfl
end EV
namespace K79
open PySem PySem.Spec PyProof.Rows L2 EV
theorem tb_loop {r : PyData} {T : Nat} {D : List PyData} : ∀ (E : List PyData) (W : List Int) (L : List (Int × Int)) (n : Nat), DayOk r T E → Inv T n W L → n + E.length ≤ 900 →
    ∃ W' L', Inv T (n + E.length) W' L' ∧
      (∀ t5 t6 t7 t8 t9 t10 t11 t12, ∃ u5 u6 u7 u8 u9 u10 u11 u12, forL gM tbB E (tbF r T D (W.map PyData.int) (L.map EV.pairD) t5 t6 t7 t8 t9 t10 t11 t12) = some (.ok .nx, tbF r T D (W'.map PyData.int) (L'.map EV.pairD) u5 u6 u7 u8 u9 u10 u11 u12)) ∧
      ∀ t5 t6 t7 t8 t9 t10 t11 t12, ∃ u5 u6 u7 u8 u9 u10 u11 u12, forL gM duB E (tbF r T D (W.map PyData.int) (L.map EV.pairD) t5 t6 t7 t8 t9 t10 t11 t12) = some (.ok .nx, tbF r T D (W'.map PyData.int) (L'.map EV.pairD) u5 u6 u7 u8 u9 u10 u11 u12)
  | [], W, L, n, _, I, _ => ⟨W, L, I, fun t5 t6 t7 t8 t9 t10 t11 t12 => ⟨t5, t6, t7, t8, t9, t10, t11, t12, rfl⟩, fun t5 t6 t7 t8 t9 t10 t11 t12 => ⟨t5, t6, t7, t8, t9, t10, t11, t12, rfl⟩⟩
  | d :: E, W, L, n, hE, I, hn => by
    rw [List.length_cons] at hn
    obtain ⟨h, g, f, ws, rfl, H⟩ := hE d List.mem_cons_self
    obtain ⟨W1, L1, I1, q1, q2⟩ := tb_one (D := D) H I (by omega)
    obtain ⟨W2, L2, I2, p1, p2⟩ := tb_loop E W1 L1 (n + 1) (fun d hd => hE d (List.mem_cons_of_mem _ hd)) I1 (by omega)
    refine ⟨W2, L2, by rw [List.length_cons, show n + (E.length + 1) = n + 1 + E.length by omega]; exact I2, fun t5 t6 t7 t8 t9 t10 t11 t12 => ?_, fun t5 t6 t7 t8 t9 t10 t11 t12 => ?_⟩
    · obtain ⟨u9, u10, u11, u12, e1, _⟩ := q1 t9 t10 t11 t12
      obtain ⟨v5, v6, v7, v8, v9, v10, v11, v12, e2⟩ := p1 (.fz (.int h)) (.fz (.int g)) (.fz (.int f)) (.fz (.list (ws.map PyData.int))) u9 u10 u11 u12
      exact ⟨v5, v6, v7, v8, v9, v10, v11, v12, forL_cons rfl e1 e2⟩
    · obtain ⟨u9, u10, u11, u12, e1⟩ := q2 t9 t10 t11 t12
      obtain ⟨v5, v6, v7, v8, v9, v10, v11, v12, e2⟩ := p2 (.fz (.int h)) (.fz (.int g)) (.fz (.int f)) (.fz (.list (ws.map PyData.int))) u9 u10 u11 u12
      exact ⟨v5, v6, v7, v8, v9, v10, v11, v12, forL_cons rfl e1 e2⟩
/-- a table -/
def tabD (W : List Int) (L : List (Int × Int)) : PyData := .tuple [.list (W.map PyData.int), .list ((isortP L).map EV.pairD)]
theorem zeros {T : Nat} : (List.replicate T [PyData.int 0]).flatten = (List.replicate T (0 : Int)).map PyData.int := by
  rw [List.flatten_replicate_singleton, List.map_replicate]
theorem inv0 {T : Nat} : Inv T 0 (List.replicate T 0) [] := ⟨by simp, fun w hw => by rw [List.eq_of_mem_replicate hw]; omega, by simp, fun p hp => by cases hp⟩
theorem sortP {L : List (Int × Int)} : pSortP [.list (L.map EV.pairD)] = some (.list ((isortP L).map EV.pairD)) := by
  show (EV.pairsOf (L.map EV.pairD)).map (fun ps => PyData.list ((isortP ps).map EV.pairD)) = _
  rw [EV.pairsOf_map]
  rfl
theorem rep0 {T : Nat} (hT : T ≤ 100) {fr : Fr} {i : Nat} (h : fr[i]? = some (.fz (.int T))) : mRep (mLst (mCons (mVal (mC (.int 0))) mNil)) (mVar i) fr = some (.ok (.list ((List.replicate T (0 : Int)).map PyData.int)), fr) := by
  have z1 : (1 : Nat) ≤ sizeLine := by decide
  have z2 : 1 * T ≤ sizeLine := by
    have : 100 ≤ sizeLine := by decide
    omega
  have e1 : mLst (mCons (mVal (mC (.int 0))) mNil) fr = some (.ok (.list [.int 0]), fr) := by simp [z1]
  have e2 : mVar i fr = some (.ok (.int T), fr) := by simp [h]
  unfold mRep
  rw [u_bind, e1]
  simp only [u_bind, e2]
  have et : ((T : Nat) : Int).toNat = T := by omega
  rw [et, if_pos ⟨z2, by omega, by omega⟩, zeros]
theorem tb_eq : m_table_of = sSeqD (sExpr (mCall F_check_rule (mCons (mVal (mVar 0)) mNil))) (sSeqD (mIf (nNot (asB (mCall F_is_between (mCons (mVal (mVar 1)) (mCons (mVal (mC (.int 1))) (mCons (mVal (mC (.int 10))) mNil)))))) (sRaise 1 (mVar 1)) (M.pure .nx)) (sSeqD (mIf (nOr (nNot (asB (mIsi "list" (mSlot 2)))) (asB (mP2 pNe (mVal (mLc [12] (asL (mVar 2)) (gN 12) (nNot (asB (mCall F_is_match (mCons (mVal (mVar 1)) (mCons (mVal (mVar 12)) mNil))))) (mVar 12))) (mVal (mLst mNil))))) (sRaise 2 (mVar 2)) (M.pure .nx)) (sSeqD (sOwn (mRep (mLst (mCons (mVal (mC (.int 0))) mNil)) (mVar 1)) 3) (sSeqD (sOwn (mLst mNil) 4) (sSeqD (sFor (asL (mVar 2)) gM tbB) (sRetD 3 (mPN pSortP (A1 (mSlot 4))))))))) := rfl
theorem du_eq : m__law_due_table = sSeq (sParNN 3 4 (mRep (mLst (mCons (mVal (mC (.int 0))) mNil)) (mVar 1)) (mLst mNil)) (sSeq (sFor (asL (mVar 2)) gM duB) (sRet (mTup (mCons (mVal (mVar 3)) (mCons (mVal (mPN pSortP (A1 (mSlot 4)))) mNil))))) := rfl
theorem a_table {r : PyData} {T : Nat} {D : List PyData} (hr : F_is_rule [r] = some (.ok (.bool true))) (hT : 1 ≤ T ∧ T ≤ 10) (hD : DayOk r T D) (hl : D.length ≤ 900) :
    ∃ W L, Inv T D.length W L ∧ F_table_of [r, .int T, .list D] = some (.ok (tabD W L)) ∧ F__law_due_table [r, .int T, .list D] = some (.ok (tabD W L)) := by
  obtain ⟨W, L, I, p1, p2⟩ := tb_loop (r := r) (D := D) D (List.replicate T 0) [] 0 hD inv0 (by omega)
  have zD : D.length ≤ sizeLine := Nat.le_trans hl (by decide)
  have z2 : (2 : Nat) ≤ sizeLine := by decide
  obtain ⟨u5, u6, u7, u8, u9, u10, u11, u12, l1⟩ := p1 .no .no .no .no .no .no .no .no
  obtain ⟨v5, v6, v7, v8, v9, v10, v11, v12, l2⟩ := p2 .no .no .no .no .no .no .no .no
  refine ⟨W, L, by rw [Nat.zero_add] at I; exact I, ?_, ?_⟩
  · have fr0 : ∀ n : Nat, True := fun _ => trivial
    have b1 := a_is_between (.int T) 1 10
    have b2 : isBetween (.int (T : Int)) 1 10 = true := by
      show decide ((1 : Int) ≤ T ∧ (T : Int) ≤ 10) = true
      rw [decide_eq_true_eq]
      omega
    rw [b2] at b1
    have s1 : (sExpr (mCall F_check_rule (mCons (mVal (mVar 0)) mNil))) [.fz r, .fz (.int T), .fz (.list D), .no, .no, .no, .no, .no, .no, .no, .no, .no, .no] = some (.ok .nx, [.fz r, .fz (.int T), .fz (.list D), .no, .no, .no, .no, .no, .no, .no, .no, .no, .no]) := by
      unfold sExpr
      rw [u_bind, call_go (ds := [r]) (cons_go rfl rfl) rfl (c_rule hr)]
      rfl
    have s2 : (mIf (nNot (asB (mCall F_is_between (mCons (mVal (mVar 1)) (mCons (mVal (mC (.int 1))) (mCons (mVal (mC (.int 10))) mNil)))))) (sRaise 1 (mVar 1)) (M.pure .nx)) [.fz r, .fz (.int T), .fz (.list D), .no, .no, .no, .no, .no, .no, .no, .no, .no, .no] = some (.ok .nx, [.fz r, .fz (.int T), .fz (.list D), .no, .no, .no, .no, .no, .no, .no, .no, .no, .no]) :=
      if_go (nnot_go (b := true) (asB_go (call_go (ds := [.int T, .int 1, .int 10]) (cons_go rfl (cons_go rfl (cons_go rfl rfl))) rfl b1))) rfl
    have lc : mLc [12] (asL (mVar 2)) (gN 12) (nNot (asB (mCall F_is_match (mCons (mVal (mVar 1)) (mCons (mVal (mVar 12)) mNil))))) (mVar 12) [.fz r, .fz (.int T), .fz (.list D), .no, .no, .no, .no, .no, .no, .no, .no, .no, .no] = some (.ok (.list []), [.fz r, .fz (.int T), .fz (.list D), .no, .no, .no, .no, .no, .no, .no, .no, .no, .no]) := by
      have e := lc_go (i := 12) (items := asL (mVar 2)) (n := nNot (asB (mCall F_is_match (mCons (mVal (mVar 1)) (mCons (mVal (mVar 12)) mNil))))) (m := mVar 12) (fr := [.fz r, .fz (.int T), .fz (.list D), .no, .no, .no, .no, .no, .no, .no, .no, .no, .no]) (ds := D) (T := fun _ => false) (f := id) (asL_go rfl) rfl (fun d hd => by
        obtain ⟨h, g, f, ws, rfl, H⟩ := hD d hd
        refine ⟨?_, fun z => by cases z⟩
        exact nnot_go (b := true) (asB_go (call_go (ds := [.int T, mD h g f ws]) (cons_go rfl (cons_go rfl rfl)) rfl (match_ok H)))) zD
      rw [e]
      have f0 : D.filter (fun _ => false) = [] := List.filter_eq_nil_iff.mpr fun a _ z => by cases z
      rw [f0]
      rfl
    have s3 : (mIf (nOr (nNot (asB (mIsi "list" (mSlot 2)))) (asB (mP2 pNe (mVal (mLc [12] (asL (mVar 2)) (gN 12) (nNot (asB (mCall F_is_match (mCons (mVal (mVar 1)) (mCons (mVal (mVar 12)) mNil))))) (mVar 12))) (mVal (mLst mNil))))) (sRaise 2 (mVar 2)) (M.pure .nx)) [.fz r, .fz (.int T), .fz (.list D), .no, .no, .no, .no, .no, .no, .no, .no, .no, .no] = some (.ok .nx, [.fz r, .fz (.int T), .fz (.list D), .no, .no, .no, .no, .no, .no, .no, .no, .no, .no]) :=
      if_go (b := false) (nor_go (b := false) (nnot_go (b := true) (asB_go rfl)) (asB_go (p2_go (val_go lc) (val_go rfl) rfl rfl ne_nil))) rfl
    refine runP_rt rfl (fr := [.fz r, .fz (.int T), .fz (.list D), .fz (.list (W.map PyData.int)), .ow false (.list (L.map EV.pairD)), u5, u6, u7, u8, u9, u10, u11, u12]) ?_
    rw [tb_eq]
    refine seqD_nx s1 (seqD_nx s2 (seqD_nx s3 ?_))
    refine seqD_nx (fr1 := [.fz r, .fz (.int T), .fz (.list D), .ow false (.list ((List.replicate T (0 : Int)).map PyData.int)), .no, .no, .no, .no, .no, .no, .no, .no, .no]) (own_go (rep0 (by omega) rfl) (by show 3 < 13; decide) rfl) ?_
    refine seqD_nx (fr1 := tbF r T D ((List.replicate T (0 : Int)).map PyData.int) [] .no .no .no .no .no .no .no .no) (own_go (d := .list []) rfl (by show 4 < 13; decide) rfl) ?_
    refine seqD_nx (for_go (asL_go rfl) l1) ?_
    exact retD_go (i := 3) (fr := tbF r T D (W.map PyData.int) (L.map EV.pairD) u5 u6 u7 u8 u9 u10 u11 u12) rfl (pn_go (xs := [.inr 4]) (by rfl) rfl sortP) (lf_ints W) (lf_pairs _)
  · refine runP_rt rfl (fr := [.fz r, .fz (.int T), .fz (.list D), .fz (.list (W.map PyData.int)), .ow false (.list (L.map EV.pairD)), v5, v6, v7, v8, v9, v10, v11, v12]) ?_
    rw [du_eq]
    refine seq_nx (fr1 := tbF r T D ((List.replicate T (0 : Int)).map PyData.int) [] .no .no .no .no .no .no .no .no) ?_ ?_
    · exact parNN_go (x := .list ((List.replicate T (0 : Int)).map PyData.int)) (y := .list []) (rep0 (T := T) (i := 1) (by omega) rfl) rfl (by show 3 < 13; decide) (by show 4 < 13; decide) rfl
    · refine seq_nx (for_go (asL_go rfl) l2) (ret_go ?_)
      have e : mPN pSortP (A1 (mSlot 4)) [.fz r, .fz (.int T), .fz (.list D), .fz (.list (W.map PyData.int)), .ow false (.list (L.map EV.pairD)), v5, v6, v7, v8, v9, v10, v11, v12] = some (.ok (.list ((isortP L).map EV.pairD)), [.fz r, .fz (.int T), .fz (.list D), .fz (.list (W.map PyData.int)), .ow false (.list (L.map EV.pairD)), v5, v6, v7, v8, v9, v10, v11, v12]) := pn_go (xs := [.inr 4]) (by rfl) rfl sortP
      unfold mTup
      rw [u_bind, cons_go (fr1 := [.fz r, .fz (.int T), .fz (.list D), .fz (.list (W.map PyData.int)), .ow false (.list (L.map EV.pairD)), v5, v6, v7, v8, v9, v10, v11, v12]) rfl (cons_go (val_go e) rfl)]
      rfl
end K79
end

section
set_option Elab.async false
set_option linter.all false
set_option maxRecDepth 100000
/-! L79w: wrong rules are refused (turned from k56 by wip/turn56w.py). -/
namespace K79
open PySem PySem.Spec PyProof.Rows L2 EV
/-- refused with itself -/
def WrongR (w : PyData) : Prop := F_check_rule [w] = some (.error (3, w)) ∧ pRepr [w] = some (.str w.shown)
theorem wrong_of {w : PyData} {n e : Nat} (h : F_is_rule_within 5 [w, .int 4] = some (.ok (.bool false))) (hn : Nice n e w) (h1 : n ≤ 8000) (h2 : e ≤ 64) : WrongR w := ⟨c_rule_no (a_is_rule h), hn.repr h1 h2⟩
def itemsR (need lead : Int) (cap : Option Int) (o u : PyData) (sp : List PyData) : List PyData := [.str "race", .int need, .int lead, capD cap, o, u, .list sp]
/-- a race in a race .. -/
def deepR : Nat → PyData
  | 0 => .tuple [.str "rally"]
  | n + 1 => .tuple [.str "race", .int 1, .int 1, .none, .tuple [.str "on"], deepR n, .list []]
def b1 : List PyData := [.int 0, .int 31, .bool true, .none]
def b2 : List PyData := [.int 0, .int 4, .str "1"]
def b3 (need : Int) : List PyData := [.int (need - 1), .int 41, .bool false]
def b4 : List PyData := [.str "on", .tuple [.str "off"], .tuple [.str "row"], .tuple [.str "row", .list []], .tuple [.str "row", .list [.int 0, .int 0, .int 0, .int 0, .int 0, .int 0, .int 0, .int 0, .int 0]], .tuple [.str "row", .list [.int 2]], .tuple [.str "row", .tuple [.int 0, .int 1]], .tuple [.str "on", .list []]]
def b5 : List PyData := [.none, .str "rally", .list [rallyD]]
def b6 : List PyData := [.none, .tuple [], .list [.tuple [sc 0 0, .none]], .list [.tuple [sc 0 41, rallyD]], .list [.tuple [sc 0 (-1), rallyD]],
  .list [.tuple [sc 1 0, rallyD], .tuple [sc 0 0, rallyD]], .list [.tuple [sc 0 0, rallyD], .tuple [sc 0 0, handD]], .list [.tuple [.list [.int 0, .int 0], rallyD]], .list [.tuple [.tuple [.int 0], rallyD]],
  .list [.tuple [sc 0 0, handD], .tuple [sc 0 1, handD], .tuple [sc 0 2, handD], .tuple [sc 0 3, handD], .tuple [sc 0 4, handD], .tuple [sc 0 5, handD], .tuple [sc 0 6, handD], .tuple [sc 0 7, handD], .tuple [sc 0 8, handD]]]
def b7 : List PyData := [.list [.tuple [sc 0 0, deepR 4]]]
def at_ (i : Int) (w : PyData) : PyData := .tuple [.int i, w]
def oddL (need : Int) : List PyData := b1.map (at_ 1) ++ b2.map (at_ 2) ++ (b3 need).map (at_ 3) ++ b4.map (at_ 4) ++ b5.map (at_ 5) ++ b6.map (at_ 6)
section
variable {need lead : Int} {cap : Option Int} {o u : PyData} {sp : List PyData}
/-- what is known of the race -/
structure RI (need lead : Int) (cap : Option Int) (o u : PyData) (sp : List PyData) : Prop where
  n1 : 1 ≤ need
  n2 : need ≤ 30
  l1 : 1 ≤ lead
  l2 : lead ≤ 3
  c : capOk need cap
  ho : o ∈ ordL
  hu : RuleOk 1 u
  hs : SpOk (RuleOk 1) need sp
theorem RI.nice (h : RI need lead cap o u sp) : ∀ d ∈ itemsR need lead cap o u sp, Nice 400 20 d := fun d hd => by
  have a1 : Nice 6 20 (.int need) := nice_int (by have := h.n1; have := h.n2; omega) (by decide)
  have a2 : Nice 6 20 (.int lead) := nice_int (by have := h.l1; have := h.l2; omega) (by decide)
  have a3 : Nice 6 20 (capD cap) := nice_cap h.c h.n1
  have a4 : Nice 40 3 o := nice_ord (e := 0) h.ho
  have a5 : Nice 180 4 u := nice_r1 u h.hu
  have a6 : Nice 400 6 (.list sp) := nice_sp (w := 180) (e := 3) nice_r1 h.n2 h.hs
  have a0 : Nice 8 20 (.str "race") := nice_race_w
  simp only [itemsR, List.mem_cons, List.not_mem_nil, or_false] at hd
  rcases hd with rfl | rfl | rfl | rfl | rfl | rfl | rfl
  · exact a0.mono (by decide) (by decide)
  · exact a1.mono (by decide) (by decide)
  · exact a2.mono (by decide) (by decide)
  · exact a3.mono (by decide) (by decide)
  · exact a4.mono (by decide) (by decide)
  · exact a5.mono (by decide) (by decide)
  · exact a6.mono (by decide) (by decide)
theorem RI.rule (h : RI need lead cap o u sp) : F_is_rule [race need lead cap o u sp] = some (.ok (.bool true)) :=
  a_rule_ok (n := 2) (by decide) (.inr ⟨need, lead, cap, o, u, sp, rfl, h.n1, h.n2, h.l1, h.l2, h.c, h.ho, h.hu, h.hs⟩)
theorem set_nice (h : RI need lead cap o u sp) {i : Nat} {w : PyData} (hw : Nice 400 20 w) : Nice 2807 21 (.tuple ((itemsR need lead cap o u sp).set i w)) := by
  have a := Nices.all (ds := (itemsR need lead cap o u sp).set i w) (n := 400) (e := 20) fun d hd => by
    rcases List.mem_or_eq_of_mem_set hd with z | rfl
    · exact h.nice d z
    · exact hw
  rw [List.length_set] at a
  exact a.tup
theorem bad1 (h : RI need lead cap o u sp) {w : PyData} (hw : w ∈ b1) : WrongR (.tuple ((itemsR need lead cap o u sp).set 1 w)) := by
  have hok : okNums w (.int lead) (capD cap) = false ∧ Nice 400 20 w := by
    simp only [b1, List.mem_cons, List.not_mem_nil, or_false] at hw
    rcases hw with rfl | rfl | rfl | rfl <;> exact ⟨by simp [okNums], ⟨by decide +kernel, by decide +kernel, by decide +kernel, by decide +kernel, by decide +kernel⟩⟩
  exact wrong_of (irw_seven (Fi := F_is_rule_within 4) (Fs := F_are_specials 4) (by decide) (a_ordL h.ho) (by rw [hok.1]; simp)) (set_nice h hok.2) (by decide) (by decide)
theorem bad2 (h : RI need lead cap o u sp) {w : PyData} (hw : w ∈ b2) : WrongR (.tuple ((itemsR need lead cap o u sp).set 2 w)) := by
  have hok : okNums (.int need) w (capD cap) = false ∧ Nice 400 20 w := by
    simp only [b2, List.mem_cons, List.not_mem_nil, or_false] at hw
    rcases hw with rfl | rfl | rfl <;> exact ⟨by simp [okNums, isBetween], ⟨by decide +kernel, by decide +kernel, by decide +kernel, by decide +kernel, by decide +kernel⟩⟩
  exact wrong_of (irw_seven (Fi := F_is_rule_within 4) (Fs := F_are_specials 4) (by decide) (a_ordL h.ho) (by rw [hok.1]; simp)) (set_nice h hok.2) (by decide) (by decide)
theorem bad3 (h : RI need lead cap o u sp) {w : PyData} (hw : w ∈ b3 need) : WrongR (.tuple ((itemsR need lead cap o u sp).set 3 w)) := by
  have hok : okNums (.int need) (.int lead) w = false ∧ Nice 400 20 w := by
    have n1 := h.n1
    have n2 := h.n2
    simp only [b3, List.mem_cons, List.not_mem_nil, or_false] at hw
    rcases hw with rfl | rfl | rfl
    · refine ⟨?_, (nice_int (k := 6) (by omega) (by decide) : Nice 6 20 _).mono (by decide) (by decide)⟩
      have z : isBetween (.int (need - 1)) need 40 = false := by
        show decide (need ≤ need - 1 ∧ need - 1 ≤ 40) = false
        rw [decide_eq_false_iff_not]
        omega
      simp [okNums, z, isNone]
    · refine ⟨?_, (nice_int (k := 6) (by decide) (by decide) : Nice 6 20 _).mono (by decide) (by decide)⟩
      have z : isBetween (.int 41) need 40 = false := by
        show decide (need ≤ 41 ∧ (41 : Int) ≤ 40) = false
        rw [decide_eq_false_iff_not]
        omega
      simp [okNums, z, isNone]
    · exact ⟨by simp [okNums, isBetween, isNone], nice_bool _⟩
  exact wrong_of (irw_seven (Fi := F_is_rule_within 4) (Fs := F_are_specials 4) (by decide) (a_ordL h.ho) (by rw [hok.1]; simp)) (set_nice h hok.2) (by decide) (by decide)
theorem bad4 (h : RI need lead cap o u sp) {w : PyData} (hw : w ∈ b4) : WrongR (.tuple ((itemsR need lead cap o u sp).set 4 w)) := by
  have hok : F_is_order [w] = some (.ok (.bool false)) ∧ Nice 400 20 w := by
    simp only [b4, List.mem_cons, List.not_mem_nil, or_false] at hw
    rcases hw with rfl | rfl | rfl | rfl | rfl | rfl | rfl | rfl <;> exact ⟨by kernel_rfl, ⟨by decide +kernel, by decide +kernel, by decide +kernel, by decide +kernel, by decide +kernel⟩⟩
  exact wrong_of (irw_seven (Fi := F_is_rule_within 4) (Fs := F_are_specials 4) (by decide) hok.1 (by simp)) (set_nice h hok.2) (by decide) (by decide)
theorem bad5 (h : RI need lead cap o u sp) {w : PyData} (hw : w ∈ b5) : WrongR (.tuple ((itemsR need lead cap o u sp).set 5 w)) := by
  have hok : F_is_rule_within 4 [w, .int (4 - 1)] = some (.ok (.bool false)) ∧ Nice 400 20 w := by
    simp only [b5, List.mem_cons, List.not_mem_nil, or_false] at hw
    rcases hw with rfl | rfl | rfl <;> exact ⟨by kernel_rfl, ⟨by decide +kernel, by decide +kernel, by decide +kernel, by decide +kernel, by decide +kernel⟩⟩
  exact wrong_of (irw_race (Fi := F_is_rule_within 4) (Fs := F_are_specials 4) (b1 := false) (b2 := false) (by decide) (okNums_race h.n1 h.n2 h.l1 h.l2 h.c) (a_ordL h.ho) hok.1 (fun z => by cases z)) (set_nice h hok.2) (by decide) (by decide)
theorem bad6 (h : RI need lead cap o u sp) {w : PyData} (hw : w ∈ b6 ∨ w ∈ b7) : WrongR (.tuple ((itemsR need lead cap o u sp).set 6 w)) := by
  have hok : F_are_specials 4 [w, .int (4 - 1)] = some (.ok (.bool false)) ∧ Nice 400 20 w := by
    simp only [b6, b7, List.mem_cons, List.not_mem_nil, or_false] at hw
    rcases hw with (rfl | rfl | rfl | rfl | rfl | rfl | rfl | rfl | rfl | rfl) | rfl <;> exact ⟨by kernel_rfl, ⟨by decide +kernel, by decide +kernel, by decide +kernel, by decide +kernel, by decide +kernel⟩⟩
  exact wrong_of (irw_race (Fi := F_is_rule_within 4) (Fs := F_are_specials 4) (b1 := true) (b2 := false) (by decide) (okNums_race h.n1 h.n2 h.l1 h.l2 h.c) (a_ordL h.ho) (irw_ok 1 3 u (by decide) h.hu) (fun _ => hok.1)) (set_nice h hok.2) (by decide) (by decide)
theorem odd_wrong (h : RI need lead cap o u sp) {d : PyData} (hd : d ∈ oddL need) : ∃ (i : Nat) (w : PyData), d = at_ i w ∧ 1 ≤ i ∧ i ≤ 6 ∧ WrongR (.tuple ((itemsR need lead cap o u sp).set i w)) := by
  simp only [oddL, List.mem_append, List.mem_map] at hd
  rcases hd with ((((⟨w, hw, rfl⟩ | ⟨w, hw, rfl⟩) | ⟨w, hw, rfl⟩) | ⟨w, hw, rfl⟩) | ⟨w, hw, rfl⟩) | ⟨w, hw, rfl⟩
  · exact ⟨1, w, rfl, by decide, by decide, bad1 h hw⟩
  · exact ⟨2, w, rfl, by decide, by decide, bad2 h hw⟩
  · exact ⟨3, w, rfl, by decide, by decide, bad3 h hw⟩
  · exact ⟨4, w, rfl, by decide, by decide, bad4 h hw⟩
  · exact ⟨5, w, rfl, by decide, by decide, bad5 h hw⟩
  · exact ⟨6, w, rfl, by decide, by decide, bad6 h (.inl hw)⟩
def told0 (need lead : Int) (cap : Option Int) (o u : PyData) (sp : List PyData) : List PyData := [.none, .int 7, .str "rally", .tuple [], .list [], .tuple [.str "rally", .int 1], .list [.str "rally"], .tuple [.str "rallies"], .tuple [.str "race"], .tuple [.bool true], .list (itemsR need lead cap o u sp), .tuple (itemsR need lead cap o u sp ++ [.int 0])]
theorem told0_wrong (h : RI need lead cap o u sp) : ∀ w ∈ told0 need lead cap o u sp, WrongR w := fun w hw => by
  simp only [told0, List.mem_cons, List.not_mem_nil, or_false] at hw
  have ni := Nices.all h.nice
  rcases hw with rfl | rfl | rfl | rfl | rfl | rfl | rfl | rfl | rfl | rfl | rfl | rfl
  case inr.inr.inr.inr.inr.inr.inr.inr.inr.inr.inl => exact wrong_of (irw_odd (Fi := F_is_rule_within 4) (Fs := F_are_specials 4) rfl rfl) ni.lst (by simp [itemsR]) (by decide)
  case inr.inr.inr.inr.inr.inr.inr.inr.inr.inr.inr =>
    have n8 := Nices.all (ds := itemsR need lead cap o u sp ++ [.int 0]) (n := 400) (e := 20) fun d hd => by
      rw [List.mem_append, List.mem_singleton] at hd
      rcases hd with z | rfl
      · exact h.nice d z
      · exact nice_int (by decide) (by decide)
    exact wrong_of (irw_odd (Fi := F_is_rule_within 4) (Fs := F_are_specials 4) rfl rfl) n8.tup (by simp [itemsR]) (by decide)
  all_goals exact wrong_of (n := 20) (e := 3) (by kernel_rfl) ⟨by decide +kernel, by decide +kernel, by decide +kernel, by decide +kernel, by decide +kernel⟩ (by decide) (by decide)
abbrev xFr (g : List PyData) (rule : PyData) (told : List PyData) (odd : List PyData) (s4 s5 s6 s7 : SD) : Fr := [.ow true (.list g), .fz rule, .ow false (.list told), .fz (.list odd), s4, s5, s6, s7]
def pickB : MS := (sSeq (sAsg (mCallL F__law_pick (mCons (mSlot 0) (mCons (mVal (mVar 3)) mNil))) (gT 2 (gsCons (gN 5) (gsCons (gN 6) gsNil)))) (sAppend 2 (mP2 pAdd (mVal (mP2 pAdd (mVal (mSl (mSlot 1) (M.pure none) (mPart (mVar 5)))) (mVal (mTup (mCons (mVal (mVar 6)) mNil))))) (mVal (mSl (mSlot 1) (mPart (mP2 pAdd (mSlot 5) (mVal (mC (.int 1))))) (M.pure none))))))
theorem pick_one (h : RI need lead cap o u sp) {g told : List PyData} {s4 s5 s6 : SD} {k : Nat} (hg : GenOk (k + 1) g) (ht : ∀ w ∈ told, WrongR w) (hl : told.length < 1000) :
    ∃ w g' t5 t6, pickB (xFr g (race need lead cap o u sp) told (oddL need) s4 s5 s6 .no) = some (.ok .nx, xFr g' (race need lead cap o u sp) (told ++ [w]) (oddL need) s4 t5 t6 .no) ∧ WrongR w ∧ GenOk k g' := by
  obtain ⟨d, g1, q1, hd, hg1⟩ := a_pick (ds := oddL need) hg (by simp [oddL, b1]) (by simp [oddL, b1, b2, b3, b4, b5, b6])
  obtain ⟨i, w, rfl, h1, h6, hw⟩ := odd_wrong h hd
  refine ⟨_, g1, .fz (.int i), .fz w, ?_, hw, hg1⟩
  have z : told.length < sizeLine := Nat.lt_trans hl (by decide)
  refine seq_nx (fr1 := xFr g1 (race need lead cap o u sp) told (oddL need) s4 (.fz (.int i)) (.fz w) .no) (asg_go (callL_go (cons_go rfl (cons_go rfl rfl)) rfl rfl q1 rfl) rfl) ?_
  refine append_go (d := .tuple ((itemsR need lead cap o u sp).set i w)) (fr1 := xFr g1 (race need lead cap o u sp) told (oddL need) s4 (.fz (.int i)) (.fz w) .no) rfl ?_ rfl z rfl
  have hi : i = 1 ∨ i = 2 ∨ i = 3 ∨ i = 4 ∨ i = 5 ∨ i = 6 := by omega
  clear q1 hd hw hg1 hg ht
  generalize oddL need = od
  rcases hi with rfl | rfl | rfl | rfl | rfl | rfl <;> kernel_rfl
theorem pick_loop (h : RI need lead cap o u sp) : ∀ (ds : List PyData) (g told : List PyData) (s4 s5 s6 : SD) (k : Nat), GenOk (k + ds.length) g → (∀ w ∈ told, WrongR w) → told.length + ds.length < 1000 →
    ∃ told' g' t4 t5 t6, forL (gN 4) pickB ds (xFr g (race need lead cap o u sp) told (oddL need) s4 s5 s6 .no) = some (.ok .nx, xFr g' (race need lead cap o u sp) told' (oddL need) t4 t5 t6 .no) ∧ (∀ w ∈ told', WrongR w) ∧ told'.length < 1000 ∧ GenOk k g'
  | [], g, told, s4, s5, s6, k, hg, ht, hl => ⟨told, g, s4, s5, s6, rfl, ht, by simpa using hl, hg⟩
  | d :: ds, g, told, s4, s5, s6, k, hg, ht, hl => by
    rw [List.length_cons] at hg hl
    obtain ⟨w, g1, t5, t6, q1, hw, hg1⟩ := pick_one (s4 := .fz d) (s5 := s5) (s6 := s6) (k := k + ds.length) h hg ht (by omega)
    obtain ⟨told', g2, u4, u5, u6, q2, h2, h3, hg2⟩ := pick_loop h ds g1 (told ++ [w]) (.fz d) t5 t6 k hg1 (fun z hz => by
      rw [List.mem_append, List.mem_singleton] at hz
      rcases hz with hz | rfl
      · exact ht z hz
      · exact hw) (by rw [List.length_append, List.length_singleton]; omega)
    exact ⟨told', g2, u4, u5, u6, forL_cons rfl q1 q2, h2, h3, hg2⟩
end
def wrS0 : MS := (sOwn (mLst (mCons (mVal (mC .none)) (mCons (mVal (mC (.int 7))) (mCons (mVal (mC (.str "rally"))) (mCons (mVal (mTup mNil)) (mCons (mVal (mLst mNil)) (mCons (mVal (mTup (mCons (mVal (mC (.str "rally"))) (mCons (mVal (mC (.int 1))) mNil)))) (mCons (mVal (mLst (mCons (mVal (mC (.str "rally"))) mNil))) (mCons (mVal (mTup (mCons (mVal (mC (.str "rallies"))) mNil))) (mCons (mVal (mTup (mCons (mVal (mC (.str "race"))) mNil))) (mCons (mVal (mTup (mCons (mVal (mC (.bool true))) mNil))) (mCons (mVal (mPN pList (A1 (mSlot 1)))) (mCons (mVal (mP2 pAdd (mSlot 1) (mVal (mTup (mCons (mVal (mC (.int 0))) mNil))))) mNil))))))))))))) 2)
def wrS1 : MS := (mIf (asB (mP2 pNe (mVal (mP2 pIx (mSlot 1) (mVal (mC (.int 0))))) (mVal (mC (.str "race"))))) (sRet (mVar 2)) (M.pure .nx))
def wrS2 : MS := (sAsg (mLst (mCons (mVal (mTup (mCons (mVal (mC (.int 1))) (mCons (mVal (mC (.int 0))) mNil)))) (mCons (mVal (mTup (mCons (mVal (mC (.int 1))) (mCons (mVal (mC (.int 31))) mNil)))) (mCons (mVal (mTup (mCons (mVal (mC (.int 1))) (mCons (mVal (mC (.bool true))) mNil)))) (mCons (mVal (mTup (mCons (mVal (mC (.int 1))) (mCons (mVal (mC .none)) mNil)))) (mCons (mVal (mTup (mCons (mVal (mC (.int 2))) (mCons (mVal (mC (.int 0))) mNil)))) (mCons (mVal (mTup (mCons (mVal (mC (.int 2))) (mCons (mVal (mC (.int 4))) mNil)))) (mCons (mVal (mTup (mCons (mVal (mC (.int 2))) (mCons (mVal (mC (.str "1"))) mNil)))) (mCons (mVal (mTup (mCons (mVal (mC (.int 3))) (mCons (mVal (mP2 pSub (mVal (mP2 pIx (mSlot 1) (mVal (mC (.int 1))))) (mVal (mC (.int 1))))) mNil)))) (mCons (mVal (mTup (mCons (mVal (mC (.int 3))) (mCons (mVal (mC (.int 41))) mNil)))) (mCons (mVal (mTup (mCons (mVal (mC (.int 3))) (mCons (mVal (mC (.bool false))) mNil)))) (mCons (mVal (mTup (mCons (mVal (mC (.int 4))) (mCons (mVal (mC (.str "on"))) mNil)))) (mCons (mVal (mTup (mCons (mVal (mC (.int 4))) (mCons (mVal (mTup (mCons (mVal (mC (.str "off"))) mNil))) mNil)))) (mCons (mVal (mTup (mCons (mVal (mC (.int 4))) (mCons (mVal (mTup (mCons (mVal (mC (.str "row"))) mNil))) mNil)))) (mCons (mVal (mTup (mCons (mVal (mC (.int 4))) (mCons (mVal (mTup (mCons (mVal (mC (.str "row"))) (mCons (mVal (mLst mNil)) mNil)))) mNil)))) (mCons (mVal (mTup (mCons (mVal (mC (.int 4))) (mCons (mVal (mTup (mCons (mVal (mC (.str "row"))) (mCons (mVal (mRep (mLst (mCons (mVal (mC (.int 0))) mNil)) (mC (.int 9)))) mNil)))) mNil)))) (mCons (mVal (mTup (mCons (mVal (mC (.int 4))) (mCons (mVal (mTup (mCons (mVal (mC (.str "row"))) (mCons (mVal (mLst (mCons (mVal (mC (.int 2))) mNil))) mNil)))) mNil)))) mNil))))))))))))))))) (gN 3))
def wrS3 : MS := (sAsg (mP2 pAdd (mSlot 3) (mVal (mLst (mCons (mVal (mTup (mCons (mVal (mC (.int 4))) (mCons (mVal (mTup (mCons (mVal (mC (.str "row"))) (mCons (mVal (mTup (mCons (mVal (mC (.int 0))) (mCons (mVal (mC (.int 1))) mNil)))) mNil)))) mNil)))) (mCons (mVal (mTup (mCons (mVal (mC (.int 4))) (mCons (mVal (mTup (mCons (mVal (mC (.str "on"))) (mCons (mVal (mLst mNil)) mNil)))) mNil)))) (mCons (mVal (mTup (mCons (mVal (mC (.int 5))) (mCons (mVal (mC .none)) mNil)))) (mCons (mVal (mTup (mCons (mVal (mC (.int 5))) (mCons (mVal (mC (.str "rally"))) mNil)))) (mCons (mVal (mTup (mCons (mVal (mC (.int 5))) (mCons (mVal (mLst (mCons (mVal (mTup (mCons (mVal (mC (.str "rally"))) mNil))) mNil))) mNil)))) (mCons (mVal (mTup (mCons (mVal (mC (.int 6))) (mCons (mVal (mC .none)) mNil)))) (mCons (mVal (mTup (mCons (mVal (mC (.int 6))) (mCons (mVal (mTup mNil)) mNil)))) (mCons (mVal (mTup (mCons (mVal (mC (.int 6))) (mCons (mVal (mLst (mCons (mVal (mTup (mCons (mVal (mTup (mCons (mVal (mC (.int 0))) (mCons (mVal (mC (.int 0))) mNil)))) (mCons (mVal (mC .none)) mNil)))) mNil))) mNil)))) (mCons (mVal (mTup (mCons (mVal (mC (.int 6))) (mCons (mVal (mLst (mCons (mVal (mTup (mCons (mVal (mTup (mCons (mVal (mC (.int 0))) (mCons (mVal (mC (.int 41))) mNil)))) (mCons (mVal (mTup (mCons (mVal (mC (.str "rally"))) mNil))) mNil)))) mNil))) mNil)))) (mCons (mVal (mTup (mCons (mVal (mC (.int 6))) (mCons (mVal (mLst (mCons (mVal (mTup (mCons (mVal (mTup (mCons (mVal (mC (.int 0))) (mCons (mVal (mNeg (mC (.int 1)))) mNil)))) (mCons (mVal (mTup (mCons (mVal (mC (.str "rally"))) mNil))) mNil)))) mNil))) mNil)))) mNil))))))))))))) (gN 3))
def wrS4 : MS := (sAsg (mP2 pAdd (mSlot 3) (mVal (mLst (mCons (mVal (mTup (mCons (mVal (mC (.int 6))) (mCons (mVal (mLst (mCons (mVal (mTup (mCons (mVal (mTup (mCons (mVal (mC (.int 1))) (mCons (mVal (mC (.int 0))) mNil)))) (mCons (mVal (mTup (mCons (mVal (mC (.str "rally"))) mNil))) mNil)))) (mCons (mVal (mTup (mCons (mVal (mTup (mCons (mVal (mC (.int 0))) (mCons (mVal (mC (.int 0))) mNil)))) (mCons (mVal (mTup (mCons (mVal (mC (.str "rally"))) mNil))) mNil)))) mNil)))) mNil)))) (mCons (mVal (mTup (mCons (mVal (mC (.int 6))) (mCons (mVal (mLst (mCons (mVal (mTup (mCons (mVal (mTup (mCons (mVal (mC (.int 0))) (mCons (mVal (mC (.int 0))) mNil)))) (mCons (mVal (mTup (mCons (mVal (mC (.str "rally"))) mNil))) mNil)))) (mCons (mVal (mTup (mCons (mVal (mTup (mCons (mVal (mC (.int 0))) (mCons (mVal (mC (.int 0))) mNil)))) (mCons (mVal (mTup (mCons (mVal (mC (.str "hand"))) mNil))) mNil)))) mNil)))) mNil)))) (mCons (mVal (mTup (mCons (mVal (mC (.int 6))) (mCons (mVal (mLst (mCons (mVal (mTup (mCons (mVal (mLst (mCons (mVal (mC (.int 0))) (mCons (mVal (mC (.int 0))) mNil)))) (mCons (mVal (mTup (mCons (mVal (mC (.str "rally"))) mNil))) mNil)))) mNil))) mNil)))) (mCons (mVal (mTup (mCons (mVal (mC (.int 6))) (mCons (mVal (mLst (mCons (mVal (mTup (mCons (mVal (mTup (mCons (mVal (mC (.int 0))) mNil))) (mCons (mVal (mTup (mCons (mVal (mC (.str "rally"))) mNil))) mNil)))) mNil))) mNil)))) (mCons (mVal (mTup (mCons (mVal (mC (.int 6))) (mCons (mVal (mLc [5] (mRng1 (mCons (mVal (mC (.int 9))) mNil)) (gN 5) (M.pure true) (mTup (mCons (mVal (mTup (mCons (mVal (mC (.int 0))) (mCons (mVal (mVar 5)) mNil)))) (mCons (mVal (mTup (mCons (mVal (mC (.str "hand"))) mNil))) mNil))))) mNil)))) mNil)))))))) (gN 3))
def wrS5 : MS := (sFor (mRng1 (mCons (mVal (mC (.int 7))) mNil)) (gN 4) (sSeq (sAsg (mCallL F__law_pick (mCons (mSlot 0) (mCons (mVal (mVar 3)) mNil))) (gT 2 (gsCons (gN 5) (gsCons (gN 6) gsNil)))) (sAppend 2 (mP2 pAdd (mVal (mP2 pAdd (mVal (mSl (mSlot 1) (M.pure none) (mPart (mVar 5)))) (mVal (mTup (mCons (mVal (mVar 6)) mNil))))) (mVal (mSl (mSlot 1) (mPart (mP2 pAdd (mSlot 5) (mVal (mC (.int 1))))) (M.pure none)))))))
def wrS6 : MS := (sAsg (mTup (mCons (mVal (mC (.str "rally"))) mNil)) (gN 7))
def wrS7 : MS := (sFor (mRng1 (mCons (mVal (mC (.int 5))) mNil)) (gN 4) (sAsg (mTup (mCons (mVal (mC (.str "race"))) (mCons (mVal (mC (.int 1))) (mCons (mVal (mC (.int 1))) (mCons (mVal (mC .none)) (mCons (mVal (mTup (mCons (mVal (mC (.str "on"))) mNil))) (mCons (mVal (mVar 7)) (mCons (mVal (mLst mNil)) mNil)))))))) (gN 7)))
def wrS8 : MS := (sRet (mP2 pAdd (mSlot 2) (mVal (mLst (mCons (mVal (mVar 7)) (mCons (mVal (mP2 pAdd (mVal (mSl (mSlot 1) (M.pure none) (mPart (mC (.int 6))))) (mVal (mTup (mCons (mVal (mLst (mCons (mVal (mTup (mCons (mVal (mTup (mCons (mVal (mC (.int 0))) (mCons (mVal (mC (.int 0))) mNil)))) (mCons (mVal (mP2 pIx (mSlot 7) (mVal (mC (.int 5))))) mNil)))) mNil))) mNil))))) mNil))))))
def wrT8 : M PyData := (mLst (mCons (mVal (mVar 7)) (mCons (mVal (mP2 pAdd (mVal (mSl (mSlot 1) (M.pure none) (mPart (mC (.int 6))))) (mVal (mTup (mCons (mVal (mLst (mCons (mVal (mTup (mCons (mVal (mTup (mCons (mVal (mC (.int 0))) (mCons (mVal (mC (.int 0))) mNil)))) (mCons (mVal (mP2 pIx (mSlot 7) (mVal (mC (.int 5))))) mNil)))) mNil))) mNil))))) mNil)))
theorem wr_eq : m__law_wrong_rules = sSeq wrS0 (sSeq wrS1 (sSeq wrS2 (sSeq wrS3 (sSeq wrS4 (sSeq wrS5 (sSeq wrS6 (sSeq wrS7 wrS8))))))) := rfl
theorem wr5_eq : wrS5 = sFor (mRng1 (mCons (mVal (mC (.int 7))) mNil)) (gN 4) pickB := rfl
theorem wr8_eq : wrS8 = sRet (mP2 pAdd (mSlot 2) (mVal wrT8)) := rfl
section
variable {need lead : Int} {cap : Option Int} {o u : PyData} {sp : List PyData}
theorem a_wrong (h : RI need lead cap o u sp) {g : List PyData} {k : Nat} (hg : GenOk (k + 7) g) : ∃ L g', F__law_wrong_rules g [race need lead cap o u sp] = some (.ok (.list L), g') ∧ (∀ w ∈ L, WrongR w) ∧ L.length < 2000 ∧ GenOk k g' := by
  have q0 : wrS0 [.ow true (.list g), .fz (race need lead cap o u sp), .no, .no, .no, .no, .no, .no] = some (.ok .nx, [.ow true (.list g), .fz (race need lead cap o u sp), .ow false (.list (told0 need lead cap o u sp)), .no, .no, .no, .no, .no]) := by kernel_rfl
  have q1 : wrS1 [.ow true (.list g), .fz (race need lead cap o u sp), .ow false (.list (told0 need lead cap o u sp)), .no, .no, .no, .no, .no] = some (.ok .nx, [.ow true (.list g), .fz (race need lead cap o u sp), .ow false (.list (told0 need lead cap o u sp)), .no, .no, .no, .no, .no]) := by kernel_rfl
  have q2 : wrS2 [.ow true (.list g), .fz (race need lead cap o u sp), .ow false (.list (told0 need lead cap o u sp)), .no, .no, .no, .no, .no] = some (.ok .nx, xFr g (race need lead cap o u sp) (told0 need lead cap o u sp) ((oddL need).take 16) .no .no .no .no) := by kernel_rfl
  have q3 : wrS3 (xFr g (race need lead cap o u sp) (told0 need lead cap o u sp) ((oddL need).take 16) .no .no .no .no) = some (.ok .nx, xFr g (race need lead cap o u sp) (told0 need lead cap o u sp) ((oddL need).take 26) .no .no .no .no) := by kernel_rfl
  have q4 : wrS4 (xFr g (race need lead cap o u sp) (told0 need lead cap o u sp) ((oddL need).take 26) .no .no .no .no) = some (.ok .nx, xFr g (race need lead cap o u sp) (told0 need lead cap o u sp) (oddL need) .no .no .no .no) := by kernel_rfl
  obtain ⟨told, g', t4, t5, t6, q5, hw, hl, hg'⟩ := pick_loop h (rngD 0 7) g (told0 need lead cap o u sp) .no .no .no k hg (told0_wrong h) (by simp [told0, rngD])
  have r5 := rng1_go (as := mCons (mVal (mC (.int 7))) mNil) (fr := xFr g (race need lead cap o u sp) (told0 need lead cap o u sp) (oddL need) .no .no .no .no) (fr1 := xFr g (race need lead cap o u sp) (told0 need lead cap o u sp) (oddL need) .no .no .no .no) (xs := [.inl (.int 7)]) (j := 7) rfl rfl (by decide) (by decide)
  have q5' : wrS5 (xFr g (race need lead cap o u sp) (told0 need lead cap o u sp) (oddL need) .no .no .no .no) = some (.ok .nx, xFr g' (race need lead cap o u sp) told (oddL need) t4 t5 t6 .no) := by
    rw [wr5_eq]
    exact for_go r5 q5
  clear q5 r5
  generalize oddL need = od at q2 q3 q4 q5'
  have q6 : wrS6 (xFr g' (race need lead cap o u sp) told od t4 t5 t6 .no) = some (.ok .nx, xFr g' (race need lead cap o u sp) told od t4 t5 t6 (.fz (deepR 0))) := by kernel_rfl
  have q7 : wrS7 (xFr g' (race need lead cap o u sp) told od t4 t5 t6 (.fz (deepR 0))) = some (.ok .nx, xFr g' (race need lead cap o u sp) told od (.fz (.int 4)) t5 t6 (.fz (deepR 5))) := by kernel_rfl
  have q8 : wrT8 (xFr g' (race need lead cap o u sp) told od (.fz (.int 4)) t5 t6 (.fz (deepR 5))) = some (.ok (.list [deepR 5, .tuple ((itemsR need lead cap o u sp).set 6 (.list [.tuple [sc 0 0, deepR 4]]))]), xFr g' (race need lead cap o u sp) told od (.fz (.int 4)) t5 t6 (.fz (deepR 5))) := by kernel_rfl
  have zl : told.length + 2 ≤ sizeLine := Nat.le_trans (show told.length + 2 ≤ 2000 by omega) (by decide)
  refine ⟨told ++ [deepR 5, .tuple ((itemsR need lead cap o u sp).set 6 (.list [.tuple [sc 0 0, deepR 4]]))], g', ?_, fun w hh => ?_, by rw [List.length_append]; simp; omega, hg'⟩
  · refine runL_rt rfl (fr := [.fz (race need lead cap o u sp), .ow false (.list told), .fz (.list od), .fz (.int 4), t5, t6, .fz (deepR 5)]) ?_
    rw [wr_eq]
    refine seq_nx q0 (seq_nx q1 (seq_nx q2 (seq_nx q3 (seq_nx q4 (seq_nx q5' (seq_nx q6 (seq_nx q7 ?_)))))))
    rw [wr8_eq]
    refine ret_go ?_
    exact p2_go (p := pAdd) (a := mSlot 2) (x := .inr 2) (fr := xFr g' (race need lead cap o u sp) told od (.fz (.int 4)) t5 t6 (.fz (deepR 5))) rfl (val_go q8) rfl rfl (by rw [u_pAddL]; exact if_pos zl)
  · rw [List.mem_append, List.mem_cons, List.mem_singleton] at hh
    rcases hh with hh | rfl | rfl
    · exact hw w hh
    · exact wrong_of (n := 200) (e := 20) (by kernel_rfl) ⟨by decide +kernel, by decide +kernel, by decide +kernel, by decide +kernel, by decide +kernel⟩ (by decide) (by decide)
    · exact bad6 h (.inr (by simp [b7]))
end
theorem ref_yes {m : M PyData} {mas : M (List Opd)} {fr fr1 fr2 : Fr} {xs : List Opd} {c : Nat} {w : PyData} {word : Str} (h1 : mas fr = some (.ok xs, fr1)) (h2 : inls xs = some [.str word, w]) (h3 : m (hide fr1) = some (.error (c, w), fr2)) (hc : c < 4) (hw : W_told.getD c "odd" = word) (hr : pRepr [w] = some (.str w.shown)) : mRef m W_told M_ref mas fr = some (.ok (.bool true), fr1) := by
  unfold mRef
  rw [u_bind, h1]
  simp only [h2, h3]
  rw [if_pos (show okR W_told (.error (c, w)) = true from decide_eq_true hc)]
  have e : M_ref [.no, .fz (.str word), .fz w, .fz (toldD W_told (.error (c, w)))] = some (.ok (.bool true), [.no, .fz (.str word), .fz w, .fz (toldD W_told (.error (c, w)))]) := by
    simp only [toldD, hw]
    simp [M_ref, A1, hr]
  rw [e]
end K79
end

section
set_option Elab.async false
set_option linter.all false
set_option maxRecDepth 100000
/-! L79j: drawn days, drawn rules (plain Lean). -/
namespace K79
open PySem PySem.Spec PyProof.Rows L2 EV
theorem rnd_go {k r : Int} {g g' : List PyData} {fr : Fr} (q : F__law_random g [.int k] = some (.ok (.int r), g')) : mCallL F__law_random (mCons (mSlot 0) (mCons (mVal (mC (.int k))) mNil)) ((SD.ow true (.list g) :: fr : Fr)) = some (.ok (.int r), SD.ow true (.list g') :: fr) :=
  callL_go (cons_go rfl (cons_go rfl rfl)) rfl rfl q rfl
abbrev dyF (g : List PyData) (r : PyData) (T : Int) (D : List PyData) (t4 t5 t6 t7 : SD) : Fr := [.ow true (.list g), .fz r, .fz (.int T), .ow false (.list D), t4, t5, t6, t7]
def dyM : M PyData := (mCallL F__law_match (mCons (mSlot 0) (mCons (mVal (mVar 1)) (mCons (mVal (mVar 7)) (mCons (mVal (mCallL F__law_pick (mCons (mSlot 0) (mCons (mVal (mLst (mCons (mVal (mC (.int 3))) (mCons (mVal (mC (.int 9))) (mCons (mVal (mC (.int 25))) mNil))))) mNil)))) mNil)))))
def dyB : MS := (sSeq (sAsg (mCallL F__law_random (mCons (mSlot 0) (mCons (mVal (mVar 2)) mNil))) (gN 5)) (sSeq (sAsg (mP2 pMod (mVal (mP2 pAdd (mVal (mP2 pAdd (mSlot 5) (mVal (mC (.int 1))))) (mVal (mCallL F__law_random (mCons (mSlot 0) (mCons (mVal (mP2 pSub (mSlot 2) (mVal (mC (.int 1))))) mNil)))))) (mSlot 2)) (gN 6)) (sSeq (sAsg (mCallL F__law_random (mCons (mSlot 0) (mCons (mVal (mC (.int 2))) mNil))) (gN 7)) (sAppend 3 (mTup (mCons (mVal (mVar 5)) (mCons (mVal (mVar 6)) (mCons (mVal (mVar 7)) (mCons (mVal (mP2 pIx (mVal dyM) (mVal (mC (.int 0))))) mNil)))))))))
theorem dy_eq : m__law_day = sSeq (sOwn (mLst mNil) 3) (sSeq (sFor (mRng1 (mCons (mVal (mCallL F__law_random (mCons (mSlot 0) (mCons (mVal (mC (.int 7))) mNil)))) mNil)) (gN 4) dyB) (sRet (mVar 3))) := rfl
theorem dy_one {g : List PyData} {r : PyData} {T : Nat} {D : List PyData} {t4 t5 t6 t7 : SD} {j : Nat} (hr : RuleOk 2 r) (hT : 2 ≤ T ∧ T ≤ 5) (hD : DayOk r T D) (hl : D.length < 100) (hg : GenOk (j + 30) g) :
    ∃ d g' u5 u6 u7, dyB (dyF g r T D t4 t5 t6 t7) = some (.ok .nx, dyF g' r T (D ++ [d]) t4 u5 u6 u7) ∧ DayOk r T (D ++ [d]) ∧ GenOk j g' := by
  obtain ⟨a, g1, q1, a0, a1, hg1⟩ := a_random (n := j + 29) (m := T) hg (by omega) (by omega)
  obtain ⟨b, g2, q2, b0, b1, hg2⟩ := a_random (n := j + 28) (m := (T : Int) - 1) hg1 (by omega) (by omega)
  obtain ⟨f, g3, q3, f0, f1, hg3⟩ := a_random (n := j + 27) (m := 2) hg2 (by decide) (by decide)
  obtain ⟨m, g4, q4, hm, hg4⟩ := a_pick (n := j + 26) (ds := [.int 3, .int 9, .int 25]) hg3 (by decide) (by decide)
  have hs : side f := by unfold side; omega
  obtain ⟨m, rfl, hm2⟩ : ∃ k : Int, m = .int k ∧ 0 ≤ k ∧ k ≤ 25 := by
    simp only [List.mem_cons, List.not_mem_nil, or_false] at hm
    rcases hm with rfl | rfl | rfl
    · exact ⟨3, rfl, by decide⟩
    · exact ⟨9, rfl, by decide⟩
    · exact ⟨25, rfl, by decide⟩
  obtain ⟨ws, res, g5, q5, w1, w2, w3, hg5⟩ := a_match (j := j) (m := m) hr hs hm2 hg4
  obtain ⟨h, rfl⟩ := Int.eq_ofNat_of_zero_le a0
  have hx : 0 ≤ ((h : Int) + 1 + b) % T ∧ ((h : Int) + 1 + b) % T < T ∧ ((h : Int) + 1 + b) % T ≠ h := by
    have hT' : (T : Int) = 2 ∨ (T : Int) = 3 ∨ (T : Int) = 4 ∨ (T : Int) = 5 := by omega
    rcases hT' with e | e | e | e <;> rw [e] at a1 b1 ⊢ <;> omega
  obtain ⟨x0, x1, x2⟩ := hx
  obtain ⟨y, hy⟩ := Int.eq_ofNat_of_zero_le x0
  have z4 : (4 : Nat) ≤ sizeLine := by decide
  have zl : D.length < sizeLine := Nat.lt_trans hl (by decide)
  refine ⟨mD h y f ws, g5, .fz (.int h), .fz (.int y), .fz (.int f), ?_, fun d hd => ?_, hg5⟩
  · refine seq_nx (fr1 := dyF g1 r T D t4 (.fz (.int h)) t6 t7) (asg_go (callL_go (fr1 := dyF g r T D t4 t5 t6 t7) (ds := [.int T]) (cons_go rfl (cons_go rfl rfl)) rfl rfl q1 rfl) rfl) ?_
    refine seq_nx (fr1 := dyF g2 r T D t4 (.fz (.int h)) (.fz (.int y)) t7) (asg_go (fr1 := dyF g2 r T D t4 (.fz (.int h)) t6 t7) (d := .int y) ?_ rfl) ?_
    · refine p2_go (fr1 := dyF g2 r T D t4 (.fz (.int h)) t6 t7) (x := .inl (.int ((h : Int) + 1 + b))) (y := .inr 2) (dx := .int ((h : Int) + 1 + b)) (dy := .int T) (val_go ?_) rfl rfl rfl ?_
      · exact p2_go (fr1 := dyF g1 r T D t4 (.fz (.int h)) t6 t7) (x := .inl (.int ((h : Int) + 1))) (y := .inl (.int b)) (val_go (p2_go rfl rfl rfl rfl rfl)) (val_go (callL_go (fr1 := dyF g1 r T D t4 (.fz (.int h)) t6 t7) (i := 0) (rest := [.inl (.int ((T : Int) - 1))]) (ds := [.int ((T : Int) - 1)]) (by rfl) rfl rfl q2 rfl)) rfl rfl rfl
      · have hp : (0 : Int) < T := by omega
        show (if decide ((0 : Int) < T) = true then some (PyData.int (((h : Int) + 1 + b) % T)) else none) = some (.int y)
        rw [if_pos (decide_eq_true hp), hy]
    refine seq_nx (fr1 := dyF g3 r T D t4 (.fz (.int h)) (.fz (.int y)) (.fz (.int f))) (asg_go (rnd_go q3) rfl) ?_
    have m1 : dyM (dyF g3 r T D t4 (.fz (.int h)) (.fz (.int y)) (.fz (.int f))) = some (.ok (.tuple [.list (ws.map PyData.int), res]), dyF g5 r T D t4 (.fz (.int h)) (.fz (.int y)) (.fz (.int f))) := by
      refine callL_go (fr1 := dyF g4 r T D t4 (.fz (.int h)) (.fz (.int y)) (.fz (.int f))) (i := 0) (rest := [.inl r, .inl (.int f), .inl (.int m)]) (ds := [r, .int f, .int m]) ?_ rfl rfl q5 rfl
      exact cons_go rfl (cons_go rfl (cons_go rfl (cons_go (val_go (callL_go (fr1 := dyF g3 r T D t4 (.fz (.int h)) (.fz (.int y)) (.fz (.int f))) (i := 0) (rest := [.inl (.list [.int 3, .int 9, .int 25])]) (ds := [.list [.int 3, .int 9, .int 25]]) (by kernel_rfl) rfl rfl q4 rfl)) rfl)))
    refine append_go (i := 3) (l := false) (ds := D) (l' := false) (ds' := D) (d := mD h y f ws) (fr1 := dyF g5 r T D t4 (.fz (.int h)) (.fz (.int y)) (.fz (.int f))) rfl ?_ rfl zl rfl
    have m2 : mP2 pIx (mVal dyM) (mVal (mC (.int 0))) (dyF g3 r T D t4 (.fz (.int h)) (.fz (.int y)) (.fz (.int f))) = some (.ok (.list (ws.map PyData.int)), dyF g5 r T D t4 (.fz (.int h)) (.fz (.int y)) (.fz (.int f))) := p2_go (val_go m1) rfl rfl rfl rfl
    unfold mTup
    rw [u_bind, cons_go (fr1 := dyF g3 r T D t4 (.fz (.int h)) (.fz (.int y)) (.fz (.int f))) rfl (cons_go rfl (cons_go rfl (cons_go (val_go m2) rfl)))]
    rfl
  · rw [List.mem_append, List.mem_singleton] at hd
    rcases hd with z | rfl
    · exact hD d z
    · exact ⟨h, y, f, ws, rfl, ⟨by omega, by omega, by omega, hs, w1, w2, w3⟩⟩
theorem dy_loop {r : PyData} {T : Nat} (hr : RuleOk 2 r) (hT : 2 ≤ T ∧ T ≤ 5) : ∀ (E : List PyData) (g D : List PyData) (t4 t5 t6 t7 : SD) (j : Nat), DayOk r T D → D.length + E.length < 90 → GenOk (j + 30 * E.length) g →
    ∃ D' g' u4 u5 u6 u7, forL (gN 4) dyB E (dyF g r T D t4 t5 t6 t7) = some (.ok .nx, dyF g' r T D' u4 u5 u6 u7) ∧ DayOk r T D' ∧ D'.length = D.length + E.length ∧ GenOk j g'
  | [], g, D, t4, t5, t6, t7, j, hD, hl, hg => ⟨D, g, t4, t5, t6, t7, rfl, hD, rfl, hg⟩
  | e :: E, g, D, t4, t5, t6, t7, j, hD, hl, hg => by
    rw [List.length_cons] at hl hg
    obtain ⟨d, g1, u5, u6, u7, q, hD1, hg1⟩ := dy_one (t4 := .fz e) (t5 := t5) (t6 := t6) (t7 := t7) (j := j + 30 * E.length) hr hT hD (by omega) (hg.mono (by omega))
    obtain ⟨D', g2, v4, v5, v6, v7, q2, hD2, hl2, hg2⟩ := dy_loop hr hT E g1 (D ++ [d]) (.fz e) u5 u6 u7 j hD1 (by rw [List.length_append, List.length_singleton]; omega) hg1
    exact ⟨D', g2, v4, v5, v6, v7, forL_cons rfl q q2, hD2, by rw [hl2, List.length_append, List.length_singleton, List.length_cons]; omega, hg2⟩
theorem rng_len {n : Nat} {i : Int} : (rngD i n).length = n := by
  unfold rngD
  simp
theorem a_day {g : List PyData} {r : PyData} {T : Nat} {j : Nat} (hr : RuleOk 2 r) (hT : 2 ≤ T ∧ T ≤ 5) (hg : GenOk (j + 181) g) :
    ∃ D g', F__law_day g [r, .int T] = some (.ok (.list D), g') ∧ DayOk r T D ∧ D.length ≤ 6 ∧ GenOk j g' := by
  obtain ⟨n, g1, q1, n0, n1, hg1⟩ := a_random (n := j + 180) (m := 7) hg (by decide) (by decide)
  obtain ⟨k, rfl⟩ := Int.eq_ofNat_of_zero_le n0
  have e := rng1_go (as := mCons (mVal (mCallL F__law_random (mCons (mSlot 0) (mCons (mVal (mC (.int 7))) mNil)))) mNil) (fr := dyF g r T [] .no .no .no .no) (fr1 := dyF g1 r T [] .no .no .no .no) (xs := [.inl (.int k)]) (j := k) (cons_go (val_go (rnd_go q1)) rfl) rfl (by omega) (by omega)
  have et : ((k : Nat) : Int).toNat = k := by omega
  rw [et] at e
  obtain ⟨D', g2, v4, v5, v6, v7, q2, hD2, hl2, hg2⟩ := dy_loop hr hT (rngD 0 k) g1 [] .no .no .no .no (j + (180 - 30 * k)) (fun d hd => by cases hd) (by rw [rng_len]; simp; omega) (hg1.mono (by rw [rng_len]; omega))
  refine ⟨D', g2, ?_, hD2, by rw [hl2, rng_len]; simp; omega, hg2.mono (by omega)⟩
  refine runL_rt rfl (fr := [.fz r, .fz (.int T), .fz (.list D'), v4, v5, v6, v7]) ?_
  rw [dy_eq]
  refine seq_nx (fr1 := dyF g r T [] .no .no .no .no) (own_go (d := .list []) rfl (by show 3 < 8; decide) rfl) (seq_nx (for_go e q2) (ret_go ?_))
  simp
end K79
end

section
set_option Elab.async false
set_option linter.all false
set_option maxRecDepth 100000
/-! L79k: drawn rules (plain Lean). -/
namespace K79
open PySem PySem.Spec PyProof.Rows L2 EV
abbrev srF (g : List PyData) (s1 s2 s3 s4 s5 s6 : SD) : Fr := [.ow true (.list g), s1, s2, s3, s4, s5, s6]
def srA : MS := (sPar 1 2 (mP2 pAdd (mVal (mC (.int 1))) (mVal (mCallL F__law_random (mCons (mSlot 0) (mCons (mVal (mC (.int 3))) mNil))))) (mP2 pAdd (mVal (mC (.int 1))) (mVal (mCallL F__law_pick (mCons (mSlot 0) (mCons (mVal (mLst (mCons (mVal (mC (.int 0))) (mCons (mVal (mC (.int 0))) (mCons (mVal (mC (.int 1))) mNil))))) mNil))))))
def srB : MS := (sAsg (mIf (asB (mP2 pGt (mSlot 2) (mVal (mC (.int 1))))) (mP2 pAdd (mSlot 1) (mVal (mCallL F__law_random (mCons (mSlot 0) (mCons (mVal (mC (.int 2))) mNil))))) (mC .none)) (gN 3))
def srC : MS := (sAsg (mIf (asB (mP2 pGt (mVal (mCallL F__law_random (mCons (mSlot 0) (mCons (mVal (mC (.int 3))) mNil)))) (mVal (mC (.int 0))))) (mTup (mCons (mVal (mC (.str "rally"))) mNil)) (mTup (mCons (mVal (mC (.str "hand"))) mNil))) (gN 4))
def srD : MS := (sAsg (mTup (mCons (mVal (mC (.str "race"))) (mCons (mVal (mVar 1)) (mCons (mVal (mVar 2)) (mCons (mVal (mVar 3)) (mCons (mVal (mCallL F__law_order (mCons (mSlot 0) mNil))) (mCons (mVal (mVar 4)) (mCons (mVal (mIf (asB (mP2 pEq (mVal (mCallL F__law_random (mCons (mSlot 0) (mCons (mVal (mC (.int 4))) mNil)))) (mVal (mC (.int 0))))) (mLst (mCons (mVal (mTup (mCons (mVal (mTup (mCons (mVal (mC (.int 1))) (mCons (mVal (mC (.int 1))) mNil)))) (mCons (mVal (mTup (mCons (mVal (mC (.str "hand"))) mNil))) mNil)))) mNil)) (mLst mNil))) mNil)))))))) (gN 5))
def srE : MS := (mIf (asB (mP2 pEq (mVal (mCallL F__law_random (mCons (mSlot 0) (mCons (mVal (mC (.int 3))) mNil)))) (mVal (mC (.int 0))))) (sRet (mVar 5)) (M.pure .nx))
def srG : MS := (sAsg (mIf (asB (mP2 pEq (mVal (mCallL F__law_random (mCons (mSlot 0) (mCons (mVal (mC (.int 3))) mNil)))) (mVal (mC (.int 0))))) (mLst (mCons (mVal (mTup (mCons (mVal (mTup (mCons (mVal (mC (.int 1))) (mCons (mVal (mC (.int 1))) mNil)))) (mCons (mVal (mTup (mCons (mVal (mC (.str "race"))) (mCons (mVal (mP2 pAdd (mVal (mC (.int 1))) (mVal (mCallL F__law_random (mCons (mSlot 0) (mCons (mVal (mC (.int 2))) mNil)))))) (mCons (mVal (mC (.int 1))) (mCons (mVal (mC .none)) (mCons (mVal (mCallL F__law_order (mCons (mSlot 0) mNil))) (mCons (mVal (mTup (mCons (mVal (mC (.str "rally"))) mNil))) (mCons (mVal (mLst mNil)) mNil))))))))) mNil)))) mNil)) (mLst mNil)) (gN 6))
def srH : MS := (sRet (mTup (mCons (mVal (mC (.str "race"))) (mCons (mVal (mP2 pAdd (mVal (mC (.int 1))) (mVal (mCallL F__law_random (mCons (mSlot 0) (mCons (mVal (mC (.int 2))) mNil)))))) (mCons (mVal (mC (.int 1))) (mCons (mVal (mC .none)) (mCons (mVal (mCallL F__law_order (mCons (mSlot 0) mNil))) (mCons (mVal (mVar 5)) (mCons (mVal (mVar 6)) mNil)))))))))
theorem sr_eq : m__law_small_rule = sSeq srA (sSeq srB (sSeq srC (sSeq srD (sSeq srE (sSeq srG srH))))) := rfl
theorem ord_go {o : PyData} {g g' : List PyData} {fr : Fr} (q : F__law_order g [] = some (.ok o, g')) : mCallL F__law_order (mCons (mSlot 0) mNil) ((SD.ow true (.list g) :: fr : Fr)) = some (.ok o, SD.ow true (.list g') :: fr) :=
  callL_go (cons_go rfl rfl) rfl rfl q rfl
theorem eq0_go {m : M PyData} {fr fr1 : Fr} {r : Int} (h : m fr = some (.ok (.int r), fr1)) : asB (mP2 pEq (mVal m) (mVal (mC (.int 0)))) fr = some (.ok (r == 0), fr1) := asB_go (p2_go (val_go h) rfl rfl rfl rfl)
theorem gt0_go {m : M PyData} {fr fr1 : Fr} {r : Int} (h : m fr = some (.ok (.int r), fr1)) : asB (mP2 pGt (mVal m) (mVal (mC (.int 0)))) fr = some (.ok (decide (0 < r)), fr1) := asB_go (p2_go (val_go h) rfl rfl rfl rfl)
theorem add1_go {m : M PyData} {fr fr1 : Fr} {r : Int} (h : m fr = some (.ok (.int r), fr1)) : mP2 pAdd (mVal (mC (.int 1))) (mVal m) fr = some (.ok (.int (1 + r)), fr1) := p2_go rfl (val_go h) rfl rfl rfl
theorem tup7 {fr0 fr1 fr2 fr3 fr4 fr5 fr6 fr7 : Fr} {m0 m1 m2 m3 m4 m5 m6 : M PyData} {d0 d1 d2 d3 d4 d5 d6 : PyData} (h0 : m0 fr0 = some (.ok d0, fr1)) (h1 : m1 fr1 = some (.ok d1, fr2)) (h2 : m2 fr2 = some (.ok d2, fr3)) (h3 : m3 fr3 = some (.ok d3, fr4)) (h4 : m4 fr4 = some (.ok d4, fr5)) (h5 : m5 fr5 = some (.ok d5, fr6)) (h6 : m6 fr6 = some (.ok d6, fr7)) :
    mTup (mCons (mVal m0) (mCons (mVal m1) (mCons (mVal m2) (mCons (mVal m3) (mCons (mVal m4) (mCons (mVal m5) (mCons (mVal m6) mNil))))))) fr0 = some (.ok (.tuple [d0, d1, d2, d3, d4, d5, d6]), fr7) := by
  unfold mTup
  rw [u_bind, cons_go (val_go h0) (cons_go (val_go h1) (cons_go (val_go h2) (cons_go (val_go h3) (cons_go (val_go h4) (cons_go (val_go h5) (cons_go (val_go h6) rfl))))))]
  rfl
theorem sp_mono {P Q : PyData → Prop} {need : Int} {sp : List PyData} (h : ∀ v, P v → Q v) (s : SpOk P need sp) : SpOk Q need sp := by
  cases s with
  | nil => exact .nil
  | one a b c d e => exact .one a b c d (h _ e)
  | two a b c d e f g i j k l => exact .two a b c d e f g i j (h _ k) (h _ l)
theorem small_inner {g : List PyData} {j : Nat} (hg : GenOk (j + 7) g) :
    ∃ need lead cap o u sp g', 1 ≤ need ∧ need ≤ 3 ∧ 1 ≤ lead ∧ lead ≤ 3 ∧ capOk need cap ∧ o ∈ ordL ∧ RuleOk 0 u ∧ SpOk (RuleOk 0) need sp ∧ GenOk j g' ∧
      ∃ s1 s2 s3 s4, ∀ r, sSeq srE (sSeq srG srH) (srF g' s1 s2 s3 s4 (.fz (race need lead cap o u sp)) .no) = r → m__law_small_rule (srF g .no .no .no .no .no .no) = r := by
  obtain ⟨a, g1, q1, a0, a1, hg1⟩ := a_random (n := j + 6) (m := 3) hg (by decide) (by decide)
  obtain ⟨b, g2, q2, hb, hg2⟩ := a_pick (n := j + 5) (ds := [.int 0, .int 0, .int 1]) hg1 (by decide) (by decide)
  obtain ⟨b, rfl, b0, b1⟩ : ∃ k : Int, b = .int k ∧ 0 ≤ k ∧ k ≤ 1 := by
    simp only [List.mem_cons, List.not_mem_nil, or_false] at hb
    rcases hb with rfl | rfl | rfl
    · exact ⟨0, rfl, by decide⟩
    · exact ⟨0, rfl, by decide⟩
    · exact ⟨1, rfl, by decide⟩
  have pA : srA (srF g .no .no .no .no .no .no) = some (.ok .nx, srF g2 (.fz (.int (1 + a))) (.fz (.int (1 + b))) .no .no .no .no) :=
    par_go (fr1 := srF g1 .no .no .no .no .no .no) (fr2 := srF g2 .no .no .no .no .no .no) (add1_go (rnd_go q1)) (add1_go (callL_go (fr1 := srF g1 .no .no .no .no .no .no) (i := 0) (rest := [.inl (.list [.int 0, .int 0, .int 1])]) (ds := [.list [.int 0, .int 0, .int 1]]) (by kernel_rfl) rfl rfl q2 rfl)) rfl
  obtain ⟨cap, g3, pB, hcap, hg3⟩ : ∃ cap g3, srB (srF g2 (.fz (.int (1 + a))) (.fz (.int (1 + b))) .no .no .no .no) = some (.ok .nx, srF g3 (.fz (.int (1 + a))) (.fz (.int (1 + b))) (.fz (capD cap)) .no .no .no) ∧ capOk (1 + a) cap ∧ GenOk (j + 4) g3 := by
    by_cases hb1 : 1 < 1 + b
    · obtain ⟨c, g3, q3, c0, c1, hg3⟩ := a_random (n := j + 4) (m := 2) hg2 (by decide) (by decide)
      refine ⟨some (1 + a + c), g3, ?_, by show 1 + a ≤ 1 + a + c ∧ 1 + a + c ≤ 40; omega, hg3⟩
      refine asg_go (fr1 := srF g3 (.fz (.int (1 + a))) (.fz (.int (1 + b))) .no .no .no .no) (if_go (b := true) (fr1 := srF g2 (.fz (.int (1 + a))) (.fz (.int (1 + b))) .no .no .no .no) ?_ (p2_go rfl (val_go (rnd_go q3)) rfl rfl rfl)) rfl
      exact asB_go (p2_go (x := .inr 2) (fr1 := srF g2 (.fz (.int (1 + a))) (.fz (.int (1 + b))) .no .no .no .no) rfl rfl rfl rfl (show some (PyData.bool (decide (1 < 1 + b))) = some (.bool true) by rw [decide_eq_true hb1]))
    · refine ⟨none, g2, ?_, trivial, hg2.mono (by omega)⟩
      refine asg_go (fr1 := srF g2 (.fz (.int (1 + a))) (.fz (.int (1 + b))) .no .no .no .no) (if_go (b := false) (fr1 := srF g2 (.fz (.int (1 + a))) (.fz (.int (1 + b))) .no .no .no .no) ?_ rfl) rfl
      exact asB_go (p2_go (x := .inr 2) (fr1 := srF g2 (.fz (.int (1 + a))) (.fz (.int (1 + b))) .no .no .no .no) rfl rfl rfl rfl (show some (PyData.bool (decide (1 < 1 + b))) = some (.bool false) by rw [decide_eq_false hb1]))
  obtain ⟨c, g4, q4, c0, c1, hg4⟩ := a_random (n := j + 3) (m := 3) hg3 (by decide) (by decide)
  obtain ⟨u, pC, hu⟩ : ∃ u, srC (srF g3 (.fz (.int (1 + a))) (.fz (.int (1 + b))) (.fz (capD cap)) .no .no .no) = some (.ok .nx, srF g4 (.fz (.int (1 + a))) (.fz (.int (1 + b))) (.fz (capD cap)) (.fz u) .no .no) ∧ RuleOk 0 u := by
    by_cases hc : 0 < c
    · refine ⟨rallyD, asg_go (fr1 := srF g4 (.fz (.int (1 + a))) (.fz (.int (1 + b))) (.fz (capD cap)) .no .no .no) (if_go (gt0_go (rnd_go q4)) ?_) rfl, .inl rfl⟩
      rw [decide_eq_true hc]
      rfl
    · refine ⟨handD, asg_go (fr1 := srF g4 (.fz (.int (1 + a))) (.fz (.int (1 + b))) (.fz (capD cap)) .no .no .no) (if_go (gt0_go (rnd_go q4)) ?_) rfl, .inr rfl⟩
      rw [decide_eq_false hc]
      rfl
  obtain ⟨o, g5, q5, ho, hg5⟩ := a_order (n := j + 1) hg4
  obtain ⟨d, g6, q6, d0, d1, hg6⟩ := a_random (n := j) (m := 4) hg5 (by decide) (by decide)
  obtain ⟨sp, pS, hsp⟩ : ∃ sp, (mIf (asB (mP2 pEq (mVal (mCallL F__law_random (mCons (mSlot 0) (mCons (mVal (mC (.int 4))) mNil)))) (mVal (mC (.int 0))))) (mLst (mCons (mVal (mTup (mCons (mVal (mTup (mCons (mVal (mC (.int 1))) (mCons (mVal (mC (.int 1))) mNil)))) (mCons (mVal (mTup (mCons (mVal (mC (.str "hand"))) mNil))) mNil)))) mNil)) (mLst mNil)) (srF g5 (.fz (.int (1 + a))) (.fz (.int (1 + b))) (.fz (capD cap)) (.fz u) .no .no) = some (.ok (.list sp), srF g6 (.fz (.int (1 + a))) (.fz (.int (1 + b))) (.fz (capD cap)) (.fz u) .no .no) ∧ SpOk (RuleOk 0) (1 + a) sp := by
    by_cases hd : (d == 0) = true
    · refine ⟨[.tuple [sc 1 1, handD]], if_go (eq0_go (rnd_go q6)) ?_, .one (by decide) (by omega) (by decide) (by omega) (.inr rfl)⟩
      rw [hd]
      rfl
    · rw [Bool.not_eq_true] at hd
      refine ⟨[], if_go (eq0_go (rnd_go q6)) ?_, .nil⟩
      rw [hd]
      rfl
  refine ⟨1 + a, 1 + b, cap, o, u, sp, g6, by omega, by omega, by omega, by omega, hcap, ho, hu, hsp, hg6, .fz (.int (1 + a)), .fz (.int (1 + b)), .fz (capD cap), .fz u, fun r hr => ?_⟩
  rw [sr_eq]
  refine seq_nx pA (seq_nx pB (seq_nx pC (seq_nx (fr1 := srF g6 (.fz (.int (1 + a))) (.fz (.int (1 + b))) (.fz (capD cap)) (.fz u) (.fz (race (1 + a) (1 + b) cap o u sp)) .no) (asg_go (fr1 := srF g6 (.fz (.int (1 + a))) (.fz (.int (1 + b))) (.fz (capD cap)) (.fz u) .no .no) (d := race (1 + a) (1 + b) cap o u sp) ?_ rfl) hr)))
  exact tup7 (fr4 := srF g4 (.fz (.int (1 + a))) (.fz (.int (1 + b))) (.fz (capD cap)) (.fz u) .no .no) rfl rfl rfl rfl (ord_go q5) rfl pS
theorem a_small {g : List PyData} {j : Nat} (hg : GenOk (j + 18) g) : ∃ need lead cap o u sp g', F__law_small_rule g [] = some (.ok (race need lead cap o u sp), g') ∧ RI need lead cap o u sp ∧ GenOk j g' := by
  obtain ⟨need, lead, cap, o, u, sp, g1, n1, n2, l1, l2, hc, ho, hu, hs, hg1, s1, s2, s3, s4, go⟩ := small_inner (j := j + 11) hg
  have hI : RaceOk (RuleOk 0) (race need lead cap o u sp) := ⟨need, lead, cap, o, u, sp, rfl, n1, by omega, l1, l2, hc, ho, hu, hs⟩
  obtain ⟨x, g2, q2, x0, x1, hg2⟩ := a_random (n := j + 10) (m := 3) hg1 (by decide) (by decide)
  by_cases hx : (x == 0) = true
  · have pE : srE (srF g1 s1 s2 s3 s4 (.fz (race need lead cap o u sp)) .no) = some (.ok (.rt (race need lead cap o u sp)), srF g2 s1 s2 s3 s4 (.fz (race need lead cap o u sp)) .no) := by
      refine if_go (eq0_go (rnd_go q2)) ?_
      rw [hx]
      rfl
    refine ⟨need, lead, cap, o, u, sp, g2, ?_, ⟨n1, by omega, l1, l2, hc, ho, .inl hu, sp_mono (fun v z => .inl z) hs⟩, hg2.mono (by omega)⟩
    exact runL_rt rfl (fr := [s1, s2, s3, s4, .fz (race need lead cap o u sp), .no]) (go _ (seq_rt pE))
  · rw [Bool.not_eq_true] at hx
    generalize hR : race need lead cap o u sp = R at *
    have pE : srE (srF g1 s1 s2 s3 s4 (.fz R) .no) = some (.ok .nx, srF g2 s1 s2 s3 s4 (.fz R) .no) := by
      refine if_go (eq0_go (rnd_go q2)) ?_
      rw [hx]
      rfl
    obtain ⟨y, g3, q3, y0, y1, hg3⟩ := a_random (n := j + 9) (m := 3) hg2 (by decide) (by decide)
    obtain ⟨sp2, g4, pG, hsp2, hg4⟩ : ∃ sp2 g4, srG (srF g2 s1 s2 s3 s4 (.fz R) .no) = some (.ok .nx, srF g4 s1 s2 s3 s4 (.fz R) (.fz (.list sp2))) ∧ (sp2 = [] ∨ ∃ r, sp2 = [.tuple [sc 1 1, r]] ∧ RuleOk 1 r) ∧ GenOk (j + 3) g4 := by
      by_cases hy : (y == 0) = true
      · obtain ⟨k, g4, q4, k0, k1, hg4⟩ := a_random (n := j + 8) (m := 2) hg3 (by decide) (by decide)
        obtain ⟨o2, g5, q5, ho2, hg5⟩ := a_order (n := j + 6) hg4
        refine ⟨[.tuple [sc 1 1, race (1 + k) 1 none o2 rallyD []]], g5, asg_go (fr1 := srF g5 s1 s2 s3 s4 (.fz R) .no) (if_go (eq0_go (rnd_go q3)) ?_) rfl, .inr ⟨_, rfl, .inr ⟨1 + k, 1, none, o2, rallyD, [], rfl, by omega, by omega, by decide, by decide, trivial, ho2, .inl rfl, .nil⟩⟩, hg5.mono (by omega)⟩
        rw [hy]
        have t7 : mTup (mCons (mVal (mC (.str "race"))) (mCons (mVal (mP2 pAdd (mVal (mC (.int 1))) (mVal (mCallL F__law_random (mCons (mSlot 0) (mCons (mVal (mC (.int 2))) mNil)))))) (mCons (mVal (mC (.int 1))) (mCons (mVal (mC .none)) (mCons (mVal (mCallL F__law_order (mCons (mSlot 0) mNil))) (mCons (mVal (mTup (mCons (mVal (mC (.str "rally"))) mNil))) (mCons (mVal (mLst mNil)) mNil))))))) (srF g3 s1 s2 s3 s4 (.fz R) .no) = some (.ok (race (1 + k) 1 none o2 rallyD []), srF g5 s1 s2 s3 s4 (.fz R) .no) :=
          tup7 rfl (add1_go (rnd_go q4)) rfl rfl (ord_go q5) (by rfl) (by rfl)
        have t2 : mTup (mCons (mVal (mTup (mCons (mVal (mC (.int 1))) (mCons (mVal (mC (.int 1))) mNil)))) (mCons (mVal (mTup (mCons (mVal (mC (.str "race"))) (mCons (mVal (mP2 pAdd (mVal (mC (.int 1))) (mVal (mCallL F__law_random (mCons (mSlot 0) (mCons (mVal (mC (.int 2))) mNil)))))) (mCons (mVal (mC (.int 1))) (mCons (mVal (mC .none)) (mCons (mVal (mCallL F__law_order (mCons (mSlot 0) mNil))) (mCons (mVal (mTup (mCons (mVal (mC (.str "rally"))) mNil))) (mCons (mVal (mLst mNil)) mNil))))))))) mNil)) (srF g3 s1 s2 s3 s4 (.fz R) .no) = some (.ok (.tuple [sc 1 1, race (1 + k) 1 none o2 rallyD []]), srF g5 s1 s2 s3 s4 (.fz R) .no) := by
          generalize hm : mTup (mCons (mVal (mC (.str "race"))) (mCons (mVal (mP2 pAdd (mVal (mC (.int 1))) (mVal (mCallL F__law_random (mCons (mSlot 0) (mCons (mVal (mC (.int 2))) mNil)))))) (mCons (mVal (mC (.int 1))) (mCons (mVal (mC .none)) (mCons (mVal (mCallL F__law_order (mCons (mSlot 0) mNil))) (mCons (mVal (mTup (mCons (mVal (mC (.str "rally"))) mNil))) (mCons (mVal (mLst mNil)) mNil))))))) = mm at t7 ⊢
          unfold mTup
          rw [u_bind, cons_go (x := .inl (sc 1 1)) (fr1 := srF g3 s1 s2 s3 s4 (.fz R) .no) (by rfl) (cons_go (val_go t7) rfl)]
          rfl
        generalize hm : mTup (mCons (mVal (mTup (mCons (mVal (mC (.int 1))) (mCons (mVal (mC (.int 1))) mNil)))) (mCons (mVal (mTup (mCons (mVal (mC (.str "race"))) (mCons (mVal (mP2 pAdd (mVal (mC (.int 1))) (mVal (mCallL F__law_random (mCons (mSlot 0) (mCons (mVal (mC (.int 2))) mNil)))))) (mCons (mVal (mC (.int 1))) (mCons (mVal (mC .none)) (mCons (mVal (mCallL F__law_order (mCons (mSlot 0) mNil))) (mCons (mVal (mTup (mCons (mVal (mC (.str "rally"))) mNil))) (mCons (mVal (mLst mNil)) mNil))))))))) mNil)) = mm at t2 ⊢
        show mLst (mCons (mVal mm) mNil) _ = _
        unfold mLst
        rw [u_bind, cons_go (val_go t2) rfl]
        rfl
      · rw [Bool.not_eq_true] at hy
        refine ⟨[], g3, asg_go (fr1 := srF g3 s1 s2 s3 s4 (.fz R) .no) (if_go (eq0_go (rnd_go q3)) ?_) rfl, .inl rfl, hg3.mono (by omega)⟩
        rw [hy]
        rfl
    obtain ⟨k, g5, q5, k0, k1, hg5⟩ := a_random (n := j + 2) (m := 2) hg4 (by decide) (by decide)
    obtain ⟨o2, g6, q6, ho2, hg6⟩ := a_order (n := j) hg5
    refine ⟨1 + k, 1, none, o2, R, sp2, g6, ?_, ⟨by omega, by omega, by decide, by decide, trivial, ho2, .inr hI, ?_⟩, hg6⟩
    · refine runL_rt rfl (fr := [s1, s2, s3, s4, .fz R, .fz (.list sp2)]) (go _ (seq_nx pE (seq_nx pG (ret_go ?_))))
      exact tup7 rfl (add1_go (rnd_go q5)) rfl rfl (ord_go q6) rfl rfl
    · rcases hsp2 with rfl | ⟨r, rfl, hr⟩
      · exact .nil
      · exact .one (by decide) (by omega) (by decide) (by omega) hr
end K79
end

section
set_option Elab.async false
set_option linter.all false
set_option maxRecDepth 100000
/-! L79l: refusals (plain Lean). -/
namespace K79
open PySem PySem.Spec PyProof.Rows L2 EV
def rfI0 : M PyData := (mCallL F__law_wrong_rules (mCons (mSlot 0) (mCons (mVal (mVar 1)) mNil)))
def rfB0 : MS := (mIf (nNot (asB (mRef (mCall F_table_of (mCons (mVal (mVar 2)) (mCons (mVal (mC .none)) (mCons (mVal (mC .none)) mNil)))) W_told M_ref (mCons (mVal (mC (.str "rule"))) (mCons (mVal (mVar 2)) mNil))))) (sRet (mC (.bool false))) (M.pure .nx))
def rfI1 : M PyData := (mLst (mCons (mVal (mC (.int 0))) (mCons (mVal (mC (.int 11))) (mCons (mVal (mNeg (mC (.int 1)))) (mCons (mVal (mC (.bool true))) (mCons (mVal (mC .none)) (mCons (mVal (mC (.str "2"))) (mCons (mVal (mLst (mCons (mVal (mC (.int 2))) mNil))) (mCons (mVal (mP2 pPow (mVal (mC (.int 10))) (mVal (mC (.int 20))))) mNil)))))))))
def rfB1 : MS := (mIf (nNot (asB (mRef (mCall F_table_of (mCons (mVal (mVar 1)) (mCons (mVal (mVar 2)) (mCons (mVal (mC .none)) mNil)))) W_told M_ref (mCons (mVal (mC (.str "number"))) (mCons (mVal (mVar 2)) mNil))))) (sRet (mC (.bool false))) (M.pure .nx))
def rfI4 : M PyData := (mP2 pAdd (mVal (mP2 pAdd (mVal (mLc [6] (asL (mVar 5)) (gN 6) (M.pure true) (mLst (mCons (mVal (mVar 4)) (mCons (mVal (mVar 6)) mNil))))) (mVal (mLc [6] (asL (mVar 5)) (gN 6) (M.pure true) (mLst (mCons (mVal (mVar 6)) (mCons (mVal (mVar 4)) mNil))))))) (mVal (mLst (mCons (mVal (mC .none)) (mCons (mVal (mC (.int 0))) (mCons (mVal (mTup (mCons (mVal (mVar 4)) mNil))) (mCons (mVal (mC (.dict []))) (mCons (mVal (mC (.str "0"))) mNil))))))))
def rfB4 : MS := (mIf (nNot (asB (mRef (mCall F_table_of (mCons (mVal (mVar 3)) (mCons (mVal (mC (.int 3))) (mCons (mVal (mVar 2)) mNil)))) W_told M_ref (mCons (mVal (mC (.str "day"))) (mCons (mVal (mVar 2)) mNil))))) (sRet (mC (.bool false))) (M.pure .nx))
def rfS2 : MS := (sAsg (mTup (mCons (mVal (mTup (mCons (mVal (mC (.str "race"))) (mCons (mVal (mC (.int 2))) (mCons (mVal (mC (.int 1))) (mCons (mVal (mC .none)) (mCons (mVal (mTup (mCons (mVal (mC (.str "on"))) mNil))) (mCons (mVal (mTup (mCons (mVal (mC (.str "rally"))) mNil))) (mCons (mVal (mLst mNil)) mNil))))))))) (mCons (mVal (mTup (mCons (mVal (mC (.int 0))) (mCons (mVal (mC (.int 1))) (mCons (mVal (mC (.int 1))) (mCons (mVal (mLst (mCons (mVal (mC (.int 0))) (mCons (mVal (mC (.int 1))) mNil)))) mNil)))))) mNil))) (gT 2 (gsCons (gN 3) (gsCons (gN 4) gsNil))))
def rfS3 : MS := (sAsg (mLst (mCons (mVal (mC .none)) (mCons (mVal (mC (.int 7))) (mCons (mVal (mTup mNil)) (mCons (mVal (mLst (mCons (mVal (mC (.int 0))) (mCons (mVal (mC (.int 1))) (mCons (mVal (mC (.int 1))) (mCons (mVal (mLst mNil)) mNil)))))) (mCons (mVal (mTup (mCons (mVal (mC (.int 0))) (mCons (mVal (mC (.int 1))) (mCons (mVal (mC (.int 1))) mNil))))) (mCons (mVal (mTup (mCons (mVal (mC (.int 0))) (mCons (mVal (mC (.int 1))) (mCons (mVal (mC (.int 1))) (mCons (mVal (mLst mNil)) (mCons (mVal (mC (.int 0))) mNil))))))) (mCons (mVal (mTup (mCons (mVal (mC (.int 0))) (mCons (mVal (mC (.int 0))) (mCons (mVal (mC (.int 1))) (mCons (mVal (mLst mNil)) mNil)))))) (mCons (mVal (mTup (mCons (mVal (mC (.int 0))) (mCons (mVal (mC (.int 3))) (mCons (mVal (mC (.int 1))) (mCons (mVal (mLst mNil)) mNil)))))) (mCons (mVal (mTup (mCons (mVal (mNeg (mC (.int 1)))) (mCons (mVal (mC (.int 1))) (mCons (mVal (mC (.int 1))) (mCons (mVal (mLst mNil)) mNil)))))) (mCons (mVal (mTup (mCons (mVal (mC (.bool true))) (mCons (mVal (mC (.int 0))) (mCons (mVal (mC (.int 1))) (mCons (mVal (mLst mNil)) mNil)))))) (mCons (mVal (mTup (mCons (mVal (mC (.int 0))) (mCons (mVal (mC .none)) (mCons (mVal (mC (.int 1))) (mCons (mVal (mLst mNil)) mNil)))))) (mCons (mVal (mTup (mCons (mVal (mC (.int 0))) (mCons (mVal (mC (.int 1))) (mCons (mVal (mC (.int 2))) (mCons (mVal (mLst mNil)) mNil)))))) (mCons (mVal (mTup (mCons (mVal (mC (.int 0))) (mCons (mVal (mC (.int 1))) (mCons (mVal (mC .none)) (mCons (mVal (mLst mNil)) mNil)))))) (mCons (mVal (mTup (mCons (mVal (mC (.int 0))) (mCons (mVal (mC (.int 1))) (mCons (mVal (mC (.bool true))) (mCons (mVal (mLst mNil)) mNil)))))) (mCons (mVal (mTup (mCons (mVal (mC (.int 0))) (mCons (mVal (mC (.int 1))) (mCons (mVal (mC (.int 1))) (mCons (mVal (mTup (mCons (mVal (mC (.int 0))) (mCons (mVal (mC (.int 1))) mNil)))) mNil)))))) (mCons (mVal (mTup (mCons (mVal (mC (.int 0))) (mCons (mVal (mC (.int 1))) (mCons (mVal (mC (.int 1))) (mCons (mVal (mLst (mCons (mVal (mC (.int 2))) mNil))) mNil)))))) (mCons (mVal (mTup (mCons (mVal (mC (.int 0))) (mCons (mVal (mC (.int 1))) (mCons (mVal (mC (.int 1))) (mCons (mVal (mLst (mCons (mVal (mC (.bool true))) mNil))) mNil)))))) (mCons (mVal (mTup (mCons (mVal (mC (.int 0))) (mCons (mVal (mC (.int 1))) (mCons (mVal (mC (.int 1))) (mCons (mVal (mC .none)) mNil)))))) (mCons (mVal (mTup (mCons (mVal (mC (.int 0))) (mCons (mVal (mC (.int 1))) (mCons (mVal (mC (.int 1))) (mCons (mVal (mLst (mCons (mVal (mC (.int 0))) (mCons (mVal (mC (.int 0))) (mCons (mVal (mC (.int 1))) mNil))))) mNil)))))) mNil)))))))))))))))))))) (gN 5))
def rfR : M PyData := (mP2 pEq (mVal (mCall F_table_of (mCons (mVal (mVar 3)) (mCons (mVal (mC (.int 3))) (mCons (mVal (mLst (mCons (mVal (mVar 4)) mNil))) mNil))))) (mVal (mTup (mCons (mVal (mLst (mCons (mVal (mC (.int 0))) (mCons (mVal (mC (.int 0))) (mCons (mVal (mC (.int 0))) mNil))))) (mCons (mVal (mLst (mCons (mVal (mTup (mCons (mVal (mC (.int 0))) (mCons (mVal (mC (.int 1))) mNil)))) mNil))) mNil)))))
theorem rf_eq : m__law_refused_right = sSeq (sFor (asL rfI0) (gN 2) rfB0) (sSeq (sFor (asL rfI1) (gN 2) rfB1) (sSeq rfS2 (sSeq rfS3 (sSeq (sFor (asL rfI4) (gN 2) rfB4) (sRet rfR))))) := rfl
def oneR : PyData := race 2 1 none (.tuple [.str "on"]) rallyD []
def goodD : PyData := .tuple [.int 0, .int 1, .int 1, .list [.int 0, .int 1]]
def mt4 (a b c d : PyData) : PyData := .tuple [a, b, c, d]
def oddM : List PyData := [.none, .int 7, .tuple [], .list [.int 0, .int 1, .int 1, .list []], .tuple [.int 0, .int 1, .int 1], .tuple [.int 0, .int 1, .int 1, .list [], .int 0],
  mt4 (.int 0) (.int 0) (.int 1) (.list []), mt4 (.int 0) (.int 3) (.int 1) (.list []), mt4 (.int (-1)) (.int 1) (.int 1) (.list []), mt4 (.bool true) (.int 0) (.int 1) (.list []), mt4 (.int 0) .none (.int 1) (.list []), mt4 (.int 0) (.int 1) (.int 2) (.list []), mt4 (.int 0) (.int 1) .none (.list []), mt4 (.int 0) (.int 1) (.bool true) (.list []),
  mt4 (.int 0) (.int 1) (.int 1) (.tuple [.int 0, .int 1]), mt4 (.int 0) (.int 1) (.int 1) (.list [.int 2]), mt4 (.int 0) (.int 1) (.int 1) (.list [.bool true]), mt4 (.int 0) (.int 1) (.int 1) .none, mt4 (.int 0) (.int 1) (.int 1) (.list [.int 0, .int 0, .int 1])]
def itemsM : List PyData := oddM.map (fun d => .list [goodD, d]) ++ oddM.map (fun d => .list [d, goodD]) ++ [.none, .int 0, .tuple [goodD], .dict [], .str "0"]
def numsM : List PyData := [.int 0, .int 11, .int (-1), .bool true, .none, .str "2", .list [.int 2], .int 100000000000000000000]
abbrev rfF (g : List PyData) (r : PyData) (s2 s3 s4 s5 : SD) : Fr := [.ow true (.list g), .fz r, s2, s3, s4, s5, .no]
theorem t_rule {w : PyData} (h : WrongR w) : F_table_of [w, .none, .none] = some (.error (3, w)) := by
  refine runP_er rfl (fr := [.fz w, .fz .none, .fz .none, .no, .no, .no, .no, .no, .no, .no, .no, .no, .no]) ?_
  rw [tb_eq]
  refine seqD_er ?_
  unfold sExpr
  rw [u_bind, call_go (ds := [w]) (r := .error (3, w)) (fr1 := [.fz w, .fz .none, .fz .none, .no, .no, .no, .no, .no, .no, .no, .no, .no, .no]) (cons_go rfl rfl) rfl h.1]
theorem t_num {r w : PyData} (hr : F_is_rule [r] = some (.ok (.bool true))) (h : isBetween w 1 10 = false) : F_table_of [r, w, .none] = some (.error (1, w)) := by
  have b1 := a_is_between w 1 10
  rw [h] at b1
  refine runP_er rfl (fr := [.fz r, .fz w, .fz .none, .no, .no, .no, .no, .no, .no, .no, .no, .no, .no]) ?_
  rw [tb_eq]
  refine seqD_nx (fr1 := [.fz r, .fz w, .fz .none, .no, .no, .no, .no, .no, .no, .no, .no, .no, .no]) ?_ (seqD_er ?_)
  · unfold sExpr
    rw [u_bind, call_go (ds := [r]) (r := .ok .none) (fr1 := [.fz r, .fz w, .fz .none, .no, .no, .no, .no, .no, .no, .no, .no, .no, .no]) (cons_go rfl rfl) rfl (c_rule hr)]
    rfl
  · refine if_go (nnot_go (b := false) (asB_go (call_go (ds := [w, .int 1, .int 10]) (fr1 := [.fz r, .fz w, .fz .none, .no, .no, .no, .no, .no, .no, .no, .no, .no, .no]) (cons_go rfl (cons_go rfl (cons_go rfl rfl))) rfl b1))) ?_
    rfl
def WrongD (w : PyData) : Prop := F_table_of [oneR, .int 3, w] = some (.error (2, w)) ∧ pRepr [w] = some (.str w.shown)
def WrongN (w : PyData) : Prop := isBetween w 1 10 = false ∧ pRepr [w] = some (.str w.shown)
theorem nums_wrong : ∀ w ∈ numsM, WrongN w := fun w hw => by
  simp only [numsM, List.mem_cons, List.not_mem_nil, or_false] at hw
  rcases hw with rfl | rfl | rfl | rfl | rfl | rfl | rfl | rfl
  all_goals exact ⟨by decide, Nice.repr (n := 100) (e := 3) ⟨by decide +kernel, by decide +kernel, by decide +kernel, by decide +kernel, by decide +kernel⟩ (by decide) (by decide)⟩
theorem items_wrong : ∀ w ∈ itemsM, WrongD w := by
  simp only [itemsM, oddM, List.map_cons, List.map_nil, List.cons_append, List.nil_append]
  repeat' first | exact List.forall_mem_nil _ | refine List.forall_mem_cons.mpr ⟨?_, ?_⟩
  all_goals first
    | exact ⟨by kernel_rfl, Nice.repr (n := 1000) (e := 10) ⟨by decide +kernel, by decide +kernel, by decide +kernel, by decide +kernel, by decide +kernel⟩ (by decide) (by decide)⟩
    | exact ⟨by kernel_rfl, rfl⟩
theorem loop_go {I : M PyData} {B : MS} {g : List PyData} {r : PyData} {s3 s4 s5 : SD} {P : PyData → Prop} (hB : ∀ w, P w → B (rfF g r (.fz w) s3 s4 s5) = some (.ok .nx, rfF g r (.fz w) s3 s4 s5)) : ∀ (L : List PyData) (s2 : SD), (∀ w ∈ L, P w) → ∃ t2, forL (gN 2) B L (rfF g r s2 s3 s4 s5) = some (.ok .nx, rfF g r t2 s3 s4 s5)
  | [], s2, _ => ⟨s2, rfl⟩
  | w :: L, s2, h => by
    obtain ⟨t2, q⟩ := loop_go (I := I) hB L (.fz w) (fun z hz => h z (List.mem_cons_of_mem _ hz))
    exact ⟨t2, forL_cons rfl (hB w (h w List.mem_cons_self)) q⟩
theorem b0_go {g : List PyData} {r : PyData} (w : PyData) (h : WrongR w) : rfB0 (rfF g r (.fz w) .no .no .no) = some (.ok .nx, rfF g r (.fz w) .no .no .no) := by
  refine if_go (nnot_go (b := true) (asB_go (ref_yes (word := "rule") (cons_go rfl (cons_go rfl rfl)) rfl (call_go (fr1 := [.no, .fz r, .fz w, .no, .no, .no, .no]) (cons_go rfl (cons_go rfl (cons_go rfl rfl))) rfl (t_rule h)) (by decide) rfl h.2))) rfl
theorem b1_go {g : List PyData} {r : PyData} (hr : F_is_rule [r] = some (.ok (.bool true))) (w : PyData) (h : WrongN w) : rfB1 (rfF g r (.fz w) .no .no .no) = some (.ok .nx, rfF g r (.fz w) .no .no .no) := by
  refine if_go (nnot_go (b := true) (asB_go (ref_yes (word := "number") (cons_go rfl (cons_go rfl rfl)) rfl (call_go (fr1 := [.no, .fz r, .fz w, .no, .no, .no, .no]) (cons_go rfl (cons_go rfl (cons_go rfl rfl))) rfl (t_num hr h.1)) (by decide) rfl h.2))) rfl
theorem b4_go {g : List PyData} {r : PyData} {s5 : PyData} (w : PyData) (h : WrongD w) : rfB4 (rfF g r (.fz w) (.fz oneR) (.fz goodD) (.fz s5)) = some (.ok .nx, rfF g r (.fz w) (.fz oneR) (.fz goodD) (.fz s5)) := by
  obtain ⟨h1, h2⟩ := h
  generalize oneR = one at *
  refine if_go (nnot_go (b := true) (asB_go (ref_yes (word := "day") (cons_go rfl (cons_go rfl rfl)) rfl (call_go (fr1 := [.no, .fz r, .fz w, .fz one, .fz goodD, .fz s5, .no]) (ds := [one, .int 3, w]) (cons_go rfl (cons_go rfl (cons_go rfl rfl))) rfl h1) (by decide) rfl h2))) rfl
theorem a_refused {need lead : Int} {cap : Option Int} {o u : PyData} {sp : List PyData} (h : RI need lead cap o u sp) {g : List PyData} {k : Nat} (hg : GenOk (k + 7) g) : ∃ g', F__law_refused_right g [race need lead cap o u sp] = some (.ok (.bool true), g') ∧ GenOk k g' := by
  obtain ⟨L, g', q, hL, hl, hg'⟩ := a_wrong h hg
  have hr := h.rule
  generalize race need lead cap o u sp = r at *
  refine ⟨g', ?_, hg'⟩
  obtain ⟨t2, r0⟩ := loop_go (I := rfI0) (g := g') (r := r) (s3 := .no) (s4 := .no) (s5 := .no) b0_go L .no hL
  obtain ⟨u2, r1⟩ := loop_go (I := rfI1) (g := g') (r := r) (s3 := .no) (s4 := .no) (s5 := .no) (b1_go hr) numsM t2 nums_wrong
  have e0 : rfI0 (rfF g r .no .no .no .no) = some (.ok (.list L), rfF g' r .no .no .no .no) := callL_go (cons_go rfl (cons_go rfl rfl)) rfl rfl q rfl
  have e1 : rfI1 (rfF g' r t2 .no .no .no) = some (.ok (.list numsM), rfF g' r t2 .no .no .no) := by kernel_rfl
  have e2 : rfS2 (rfF g' r u2 .no .no .no) = some (.ok .nx, rfF g' r u2 (.fz oneR) (.fz goodD) .no) := by kernel_rfl
  have e3 : rfS3 (rfF g' r u2 (.fz oneR) (.fz goodD) .no) = some (.ok .nx, rfF g' r u2 (.fz oneR) (.fz goodD) (.fz (.list oddM))) := by kernel_rfl
  have e4 : rfI4 (rfF g' r u2 (.fz oneR) (.fz goodD) (.fz (.list oddM))) = some (.ok (.list itemsM), rfF g' r u2 (.fz oneR) (.fz goodD) (.fz (.list oddM))) := by kernel_rfl
  obtain ⟨v2, r4⟩ := loop_go (I := rfI4) (g := g') (r := r) (s3 := .fz oneR) (s4 := .fz goodD) (s5 := .fz (.list oddM)) b4_go itemsM u2 items_wrong
  have e5 : rfR (rfF g' r v2 (.fz oneR) (.fz goodD) (.fz (.list oddM))) = some (.ok (.bool true), rfF g' r v2 (.fz oneR) (.fz goodD) (.fz (.list oddM))) := by kernel_rfl
  refine runL_rt rfl (fr := [.fz r, v2, .fz oneR, .fz goodD, .fz (.list oddM), .no]) ?_
  rw [rf_eq]
  exact seq_nx (for_go (asL_go e0) r0) (seq_nx (for_go (asL_go e1) r1) (seq_nx e2 (seq_nx e3 (seq_nx (for_go (asL_go e4) r4) (ret_go e5)))))
end K79
end

section
set_option Elab.async false
set_option linter.all false
set_option maxRecDepth 100000
/-! L79m: the plain law of k79. -/
namespace K79
open PySem PySem.Spec PyProof.Rows L2 EV
def lwB0 : MS := (sOwn (mCallN F__law_generator (mCons (mVal (mVar 0)) (mCons (mVal (mVar 1)) mNil))) 2)
def lwB1 : MS := (sPar 3 4 (mCallL F__law_small_rule (mCons (mSlot 2) mNil)) (mP2 pAdd (mVal (mC (.int 2))) (mVal (mCallL F__law_random (mCons (mSlot 2) (mCons (mVal (mC (.int 4))) mNil))))))
def lwB2 : MS := (sAsg (mCallL F__law_day (mCons (mSlot 2) (mCons (mVal (mVar 3)) (mCons (mVal (mVar 4)) mNil)))) (gN 5))
def lwB3 : MS := (sPar 6 7 (mPN pRepr (A1 (mVal (mLst (mCons (mVal (mVar 3)) (mCons (mVal (mVar 5)) mNil)))))) (mCall F__law_due_table (mCons (mVal (mVar 3)) (mCons (mVal (mVar 4)) (mCons (mVal (mVar 5)) mNil)))))
noncomputable def lwB4 : MS := (sMark 8 (mCall F_table_of (mCons (mVal (mVar 3)) (mCons (mVal (mVar 4)) (mCons (mVal (mVar 5)) mNil)))) (nNot (asB (mIsi "tuple" (mSlot 8)))) (asB (mP2 pNe (mVal (mPN pRepr (A1 (mSlot 8)))) (mVal (mPN pRepr (A1 (mSlot 7)))))) (nOr (asB (mP2 pNe (mVal (mPN pRepr (A1 (mVal (mCall F_table_of (mCons (mVal (mVar 3)) (mCons (mVal (mVar 4)) (mCons (mVal (mVar 5)) mNil)))))))) (mVal (mPN pRepr (A1 (mSlot 7)))))) (asB (mP2 pNe (mVal (mPN pRepr (A1 (mVal (mLst (mCons (mVal (mVar 3)) (mCons (mVal (mVar 5)) mNil))))))) (mSlot 6)))) N2_mark 4)
def lwB5 : MS := (mIf (nAnd (asB (mP2 pEq (mSlot 1) (mVal (mC (.int 1))))) (nNot (asB (mCallL F__law_refused_right (mCons (mSlot 2) (mCons (mVal (mVar 3)) mNil)))))) (sRet (mC (.bool false))) (M.pure .nx))
noncomputable def lwB : MS := sSeq lwB0 (sSeq lwB1 (sSeq lwB2 (sSeq lwB3 (sSeq lwB4 lwB5))))
def lwS1 : MS := (sAsg (mCall F_table_of (mCons (mVal (mTup (mCons (mVal (mC (.str "race"))) (mCons (mVal (mC (.int 1))) (mCons (mVal (mC (.int 1))) (mCons (mVal (mC .none)) (mCons (mVal (mTup (mCons (mVal (mC (.str "on"))) mNil))) (mCons (mVal (mTup (mCons (mVal (mC (.str "rally"))) mNil))) (mCons (mVal (mLst mNil)) mNil))))))))) (mCons (mVal (mC (.int 3))) (mCons (mVal (mLst (mCons (mVal (mTup (mCons (mVal (mC (.int 2))) (mCons (mVal (mC (.int 0))) (mCons (mVal (mC (.int 0))) (mCons (mVal (mLst (mCons (mVal (mC (.int 1))) mNil))) mNil)))))) (mCons (mVal (mTup (mCons (mVal (mC (.int 1))) (mCons (mVal (mC (.int 0))) (mCons (mVal (mC (.int 0))) (mCons (mVal (mLst mNil)) mNil)))))) (mCons (mVal (mTup (mCons (mVal (mC (.int 1))) (mCons (mVal (mC (.int 2))) (mCons (mVal (mC (.int 1))) (mCons (mVal (mLst (mCons (mVal (mC (.int 0))) mNil))) mNil)))))) mNil))))) mNil)))) (gN 8))
def lwS2 : MS := (sRet (mAnd (mP2 pEq (mSlot 8) (mVal (mTup (mCons (mVal (mLst (mCons (mVal (mC (.int 1))) (mCons (mVal (mC (.int 1))) (mCons (mVal (mC (.int 0))) mNil))))) (mCons (mVal (mLst (mCons (mVal (mTup (mCons (mVal (mC (.int 0))) (mCons (mVal (mC (.int 1))) mNil)))) mNil))) mNil))))) (mAnd (mP2 pEq (mVal (mCall F_table_of (mCons (mVal (mTup (mCons (mVal (mC (.str "rally"))) mNil))) (mCons (mVal (mC (.int 1))) (mCons (mVal (mLst mNil)) mNil))))) (mVal (mTup (mCons (mVal (mLst (mCons (mVal (mC (.int 0))) mNil))) (mCons (mVal (mLst mNil)) mNil))))) (mP2 pEq (mVal (mCall F_table_of (mCons (mVal (mTup (mCons (mVal (mC (.str "hand"))) mNil))) (mCons (mVal (mC (.int 10))) (mCons (mVal (mLst (mCons (mVal (mTup (mCons (mVal (mC (.int 9))) (mCons (mVal (mC (.int 3))) (mCons (mVal (mC (.int 0))) (mCons (mVal (mLst (mCons (mVal (mC (.int 1))) mNil))) mNil)))))) mNil))) mNil))))) (mVal (mTup (mCons (mVal (mRep (mLst (mCons (mVal (mC (.int 0))) mNil)) (mC (.int 10)))) (mCons (mVal (mLst (mCons (mVal (mTup (mCons (mVal (mC (.int 3))) (mCons (mVal (mC (.int 9))) mNil)))) mNil))) mNil))))))))
theorem lw_eq : m_law = sSeq (sFor (mRng1 (mCons (mVal (mC (.int 2))) mNil)) (gN 1) lwB) (sSeq lwS1 lwS2) := rfl
def mkC : M PyData := (mCall F_table_of (mCons (mVal (mVar 3)) (mCons (mVal (mVar 4)) (mCons (mVal (mVar 5)) mNil))))
def mk1 : M Bool := (nNot (asB (mIsi "tuple" (mSlot 8))))
def mk2 : M Bool := (asB (mP2 pNe (mVal (mPN pRepr (A1 (mSlot 8)))) (mVal (mPN pRepr (A1 (mSlot 7))))))
def mk45 : M Bool := (nOr (asB (mP2 pNe (mVal (mPN pRepr (A1 (mVal (mCall F_table_of (mCons (mVal (mVar 3)) (mCons (mVal (mVar 4)) (mCons (mVal (mVar 5)) mNil)))))))) (mVal (mPN pRepr (A1 (mSlot 7)))))) (asB (mP2 pNe (mVal (mPN pRepr (A1 (mVal (mLst (mCons (mVal (mVar 3)) (mCons (mVal (mVar 5)) mNil))))))) (mSlot 6))))
theorem mk_eq : lwB4 = sMark 8 mkC mk1 mk2 mk45 N2_mark 4 := rfl
/-! the generator -/
theorem intsOf_map : ∀ ns : List Int, intsOf (ns.map PyData.int) = some ns
  | [] => rfl
  | n :: ns => by
    show (intsOf (ns.map PyData.int)).map (n :: ·) = _
    rw [intsOf_map ns]
    rfl
theorem cut1 (ns : List Int) : ∃ ms : List Int, EV.cutD (ns.map PyData.int) none (some 1) = ms.map PyData.int := by
  unfold EV.cutD
  refine ⟨(ns.drop (HT.sIx (ns.map PyData.int).length 0 none)).take (HT.sIx (ns.map PyData.int).length (ns.map PyData.int).length (some 1) - HT.sIx (ns.map PyData.int).length 0 none), ?_⟩
  rw [List.map_take, List.map_drop]
theorem a_cell (ns : List Int) (i : Nat) : ∃ v : Int, F__law_cell [.list (ns.map .int), .int i] = some (.ok (.int v)) := by
  by_cases h : i < ns.length
  · have at_ : L2.atI (ns.map PyData.int) (i : Int) = some (.int ns[i]) := L2.atI_nat (by simp [h])
    exact ⟨ns[i], by simp [F__law_cell, m__law_cell, A1, h, at_]⟩
  · obtain ⟨ms, e⟩ := cut1 ns
    have hs : pSum [.list (ms.map PyData.int)] = some (.int ms.sum) := by
      show (intsOf (ms.map PyData.int)).map _ = _
      rw [intsOf_map]
      rfl
    exact ⟨ms.sum % 1000003, by simp [F__law_cell, m__law_cell, A1, h, e, hs]⟩
theorem a_generator (ns : List Int) {i : Nat} (hi : i < 3) : ∃ g, F__law_generator [.list (ns.map .int), .int i] = some g ∧ GenOk 1000000 g := by
  obtain ⟨v, q⟩ := a_cell ns i
  have q1 : m1__law_generator [.fz (.list (ns.map .int)), .fz (.int i), .no] = some (.ok .nx, [.fz (.list (ns.map .int)), .fz (.int i), .fz (.int v)]) :=
    asg_go (call_go (cons_go rfl (cons_go rfl rfl)) rfl q) rfl
  have gn : ∀ s : SD, m2__law_generator [s, .fz (.int i), .fz (.int v)] = some (.ok (.list [.int ((if 0 > v - 10 ^ 18 then 0 else v - 10 ^ 18) % (10 ^ 60) ^ 10), .int (v % 2147483647), .int (1000 * i)]), [s, .fz (.int i), .fz (.int v)]) := fun s => by
    have hi : i = 0 ∨ i = 1 ∨ i = 2 := by omega
    rcases hi with rfl | rfl | rfl <;> kernel_rfl
  refine ⟨[.int ((if 0 > v - 10 ^ 18 then 0 else v - 10 ^ 18) % (10 ^ 60) ^ 10), .int (v % 2147483647), .int (1000 * i)], ?_, _, v % 2147483647, 1000 * i, rfl, Int.emod_nonneg _ (by decide), ?_, by omega, by omega⟩
  · unfold F__law_generator EV.runN
    rw [if_pos (show [PyData.list (ns.map .int), PyData.int i].length = 2 from rfl)]
    show (match m1__law_generator [.fz (.list (ns.map .int)), .fz (.int i), .no] with
      | some (.ok .nx, fr1) => _
      | _ => _) = _
    rw [q1]
    simp only []
    rw [gn]
  · have := Int.emod_lt_of_pos v (show (0 : Int) < 2147483647 by decide)
    omega

/-! nothing that is told is marked -/
theorem eq_mark {x : PyData} {e : Nat} (h : Cmp e x) (he : e ≤ 60) (h1 : PyData.eqv x (.str "marked") = false) (h2 : ∀ s, x ≠ .str s) : pEq x (.str "marked") = some (.bool false) := by
  have s1 : SeqAt.shaped x = true := by
    unfold SeqAt.shaped
    rw [h.1, decide_eq_true (show x.depth ≤ 64 by have := h.2; omega)]
    rfl
  have s2 : SeqAt.shaped (.str "marked") = true := by decide +kernel
  have d : pEqD x (.str "marked") = some (.bool false) := by
    unfold pEqD
    rw [s1, s2, h1]
    rfl
  unfold pEq
  cases x <;> first | exact d | exact absurd rfl (h2 _)
theorem last_at {ds : List PyData} (h : ds ≠ []) : ∃ x ∈ ds, L2.atI ds (-1) = some x := by
  have h0 : 0 < ds.length := List.length_pos_iff.mpr h
  have hl : ds.length - 1 < ds.length := by omega
  refine ⟨ds[ds.length - 1], List.getElem_mem hl, ?_⟩
  have e : ixN ds.length (-1) = some (ds.length - 1) := by
    unfold ixN
    rw [if_neg (by decide), if_pos (by omega)]
    congr 1
    omega
  unfold L2.atI
  rw [e]
  show ds[ds.length - 1]? = _
  rw [List.getElem?_eq_getElem hl]
theorem unm {n e : Nat} {ds : List PyData} (h : Nices n e ds) (he : e ≤ 50) (hx : ∀ x ∈ ds, pEq x (.str "marked") = some (.bool false)) : Unm N2_mark (.list ds) := by
  by_cases h0 : ds = []
  · subst h0
    exact nand_go (b := false) (asB_go (p2_go (x := .inr 0) (fr1 := [.fz (.list []), .no, .no]) rfl (val_go rfl) rfl rfl ne_nil)) rfl
  · have ne : pNe (.list ds) (.list []) = some (.bool true) := by
      have hs : SeqAt.shaped (.list ds) = true := by
        have a := h.lst
        unfold SeqAt.shaped
        rw [a.lay, decide_eq_true (show (PyData.list ds).depth ≤ 64 by have := a.dp; omega)]
        rfl
      show (if SeqAt.shaped (.list ds) && SeqAt.shaped (.list []) then some (PyData.bool (!PyData.eqv (.list ds) (.list []))) else none) = _
      rw [hs]
      cases ds with
      | nil => exact absurd rfl h0
      | cons d ds => rfl
    obtain ⟨x, hm, hat⟩ := last_at h0
    refine nand_go (b := true) (asB_go (p2_go (x := .inr 0) (fr1 := [.fz (.list ds), .no, .no]) rfl (val_go rfl) rfl rfl ne)) ?_
    refine asB_go (p2_go (x := .inl x) (fr1 := [.fz (.list ds), .no, .no]) (y := .inl (.str "marked")) (val_go ?_) rfl rfl rfl (hx x hm))
    exact p2_go (x := .inr 0) (fr1 := [.fz (.list ds), .no, .no]) (y := .inl (.int (-1))) rfl rfl rfl rfl hat
theorem eqv_pair (p : Int × Int) : PyData.eqv (EV.pairD p) (.str "marked") = false := by
  simp [EV.pairD, PyData.eqv]
theorem eqv_int (i : Int) : PyData.eqv (.int i) (.str "marked") = false := by
  simp [PyData.eqv]
theorem nice_pair {p : Int × Int} (h : 0 ≤ p.1 ∧ p.1 < 20 ∧ 0 ≤ p.2 ∧ p.2 < 20) {e : Nat} : Nice 14 (e + 1) (EV.pairD p) :=
  (Nices.cons (nice_int (k := 6) (by omega) (by decide)) (Nices.cons (nice_int (k := 6) (by omega) (by decide)) (Nices.nil (n := 0)) (Nat.le_refl _)) (by decide)).tup
theorem okms_all {m2 : M Bool} : ∀ {ds : List PyData}, (∀ d ∈ ds, OkM m2 d) → OkMs m2 ds
  | [], _ => by simp only [OkMs]
  | d :: ds, h => by
    simp only [OkMs]
    exact ⟨h d List.mem_cons_self, okms_all fun z hz => h z (List.mem_cons_of_mem _ hz)⟩
theorem ok_pair (p : Int × Int) : OkM N2_mark (EV.pairD p) := by
  simp [EV.pairD, OkM, OkMs]
theorem tab_facts {T n : Nat} {W : List Int} {L : List (Int × Int)} (I : Inv T n W L) (hn : n ≤ 6) (hT : T ≤ 5) : Nice 200 3 (tabD W L) ∧ OkM N2_mark (tabD W L) := by
  have mem : ∀ p ∈ isortP L, 0 ≤ p.1 ∧ p.1 < 20 ∧ 0 ≤ p.2 ∧ p.2 < 20 := fun p hp => by
    have := I.l p ((isortP_perm L).mem_iff.mp hp)
    omega
  have len : (isortP L).length ≤ 6 := by rw [(isortP_perm L).length_eq]; have := I.ll; omega
  have wl : W.length ≤ 5 := by rw [I.len]; exact hT
  have a1 : ∀ d ∈ W.map PyData.int, Nice 6 0 d := fun d hd => by
    obtain ⟨w, hw, rfl⟩ := List.mem_map.mp hd
    have := I.w w hw
    exact nice_int (by omega) (by decide)
  have a2 : ∀ d ∈ (isortP L).map EV.pairD, Nice 14 1 d := fun d hd => by
    obtain ⟨p, hp, rfl⟩ := List.mem_map.mp hd
    exact nice_pair (mem p hp)
  have b1 := Nices.all a1
  have b2 := Nices.all a2
  have c1 : Nice 40 2 (.list (W.map PyData.int)) := b1.lst.mono (by rw [List.length_map]; omega) (by decide)
  have c2 : Nice 100 2 (.list ((isortP L).map EV.pairD)) := b2.lst.mono (by rw [List.length_map]; omega) (by decide)
  refine ⟨(Nices.cons c1 (Nices.cons c2 (Nices.nil (n := 0)) (Nat.le_refl _)) (by decide)).tup, ?_⟩
  have u1 : Unm N2_mark (.list (W.map PyData.int)) := unm b1 (by decide) fun x hx => by
    obtain ⟨w, hw, rfl⟩ := List.mem_map.mp hx
    exact eq_mark (cmp_of (a1 _ hx)) (by decide) (eqv_int w) (fun s z => by cases z)
  have u2 : Unm N2_mark (.list ((isortP L).map EV.pairD)) := unm b2 (by decide) fun x hx => by
    obtain ⟨p, hp, rfl⟩ := List.mem_map.mp hx
    exact eq_mark (cmp_of (a2 _ hx)) (by decide) (eqv_pair p) (fun s z => by cases z)
  have o1 : OkM N2_mark (.list (W.map PyData.int)) := by
    simp only [OkM]
    exact ⟨u1, by rw [List.length_map]; omega, okms_all fun d hd => by
      obtain ⟨w, hw, rfl⟩ := List.mem_map.mp hd
      simp only [OkM]⟩
  have o2 : OkM N2_mark (.list ((isortP L).map EV.pairD)) := by
    simp only [OkM]
    exact ⟨u2, by rw [List.length_map]; omega, okms_all fun d hd => by
      obtain ⟨p, hp, rfl⟩ := List.mem_map.mp hd
      exact ok_pair p⟩
  unfold tabD
  simp only [OkM, OkMs]
  exact ⟨show 2 ≤ 1000 by decide, by simpa only [OkM] using o1, by simpa only [OkM] using o2, trivial⟩
theorem nice_day {r : PyData} {T : Nat} {D : List PyData} (hT : T ≤ 5) (h : DayOk r T D) (hl : D.length ≤ 6) : Nice 2000 10 (.list D) := by
  have a : ∀ d ∈ D, Nice 300 5 d := fun d hd => by
    obtain ⟨h, g, f, ws, rfl, H⟩ := h d hd
    have hh := H.hh
    have hg := H.hg
    have hf := H.hf
    have b1 : ∀ d ∈ ws.map PyData.int, Nice 6 0 d := fun d hd => by
      obtain ⟨w, hw, rfl⟩ := List.mem_map.mp hd
      rcases H.hw w hw with rfl | rfl <;> exact nice_int (by decide) (by decide)
    have b2 : Nice 200 4 (.list (ws.map PyData.int)) := (Nices.all b1).lst.mono (by rw [List.length_map]; have := H.len; omega) (by decide)
    have c1 : Nice 6 4 (.int (h : Int)) := nice_int (by omega) (by decide)
    have c2 : Nice 6 4 (.int (g : Int)) := nice_int (by omega) (by decide)
    have c3 : Nice 6 4 (.int f) := by rcases hf with rfl | rfl <;> exact nice_int (by decide) (by decide)
    exact (Nices.cons c1 (Nices.cons c2 (Nices.cons c3 (Nices.cons b2 (Nices.nil (n := 0)) (Nat.le_refl _)) (Nat.le_refl _)) (Nat.le_refl _)) (by decide)).tup
  exact (Nices.all a).lst.mono (by omega) (by decide)
abbrev lF (s : PyData) (i : Nat) (s2 s3 s4 s5 s6 s7 : SD) : Fr := [.fz s, .fz (.int i), s2, s3, s4, s5, s6, s7, .no]
theorem flat_lF {s : PyData} {i : Nat} {g : List PyData} {b : Bool} {n : Nat} (hg : GenOk n g) {d3 d4 d5 d6 d7 : PyData} : FlatF (lF s i (.ow b (.list g)) (.fz d3) (.fz d4) (.fz d5) (.fz d6) (.fz d7)) := by
  obtain ⟨x, y, z, rfl, _⟩ := hg
  intro j l d h
  match j, h with
  | 0, h => cases h
  | 1, h => cases h
  | 2, h => cases h; exact ⟨[x, y, z], rfl⟩
  | 3, h => cases h
  | 4, h => cases h
  | 5, h => cases h
  | 6, h => cases h
  | 7, h => cases h
  | 8, h => cases h
  | j + 9, h => cases h
theorem law_one (ns : List Int) {i : Nat} (hi : i < 2) {s2 s3 s4 s5 s6 s7 : SD} : ∃ t2 t3 t4 t5 t6 t7, lwB (lF (.list (ns.map .int)) i s2 s3 s4 s5 s6 s7) = some (.ok .nx, lF (.list (ns.map .int)) i t2 t3 t4 t5 t6 t7) := by
  obtain ⟨g, qg, hg⟩ := a_generator ns (i := i) (by omega)
  generalize PyData.list (ns.map .int) = script at qg ⊢
  have q0 : lwB0 (lF script i s2 s3 s4 s5 s6 s7) = some (.ok .nx, lF script i (.ow false (.list g)) s3 s4 s5 s6 s7) := by
    unfold lwB0
    simp [sOwn, mCallN, lF, qg]
  obtain ⟨need, lead, cap, o, u, sp, g1, q1, R, hg1⟩ := a_small (j := 999000) (hg.mono (by decide))
  obtain ⟨t, g2, q2, t0, t1, hg2⟩ := a_random (n := 900000) (m := 4) (hg1.mono (by decide)) (by decide) (by decide)
  have hr : RuleOk 2 (race need lead cap o u sp) := .inr ⟨need, lead, cap, o, u, sp, rfl, R.n1, R.n2, R.l1, R.l2, R.c, R.ho, R.hu, R.hs⟩
  have hrr := R.rule
  have hrN : Nice 690 7 (race need lead cap o u sp) := nice_race1 ⟨need, lead, cap, o, u, sp, rfl, R.n1, R.n2, R.l1, R.l2, R.c, R.ho, R.hu, R.hs⟩
  obtain ⟨tn, rfl⟩ := Int.eq_ofNat_of_zero_le t0
  obtain ⟨D, g3, q3, hD, hl, hg3⟩ := a_day (T := tn + 2) (j := 800000) hr (by omega) (hg2.mono (by decide))
  obtain ⟨W, L, I, q4, q5⟩ := a_table (T := tn + 2) hrr (by omega) hD (by omega)
  obtain ⟨nt, okt⟩ := tab_facts I hl (by omega)
  obtain ⟨g5, q6, hg5⟩ := a_refused R (k := 600000) (hg3.mono (by decide))
  have nd := nice_day (by omega) hD hl
  have nk : Nice 3000 11 (.list [race need lead cap o u sp, .list D]) := (Nices.cons (hrN.mono (Nat.le_refl _) (by decide)) (Nices.cons nd (Nices.nil (n := 0)) (Nat.le_refl _)) (by decide)).lst
  have rk := nk.repr (by decide) (by decide)
  have rt := nt.repr (by decide) (by decide)
  have dt : (tabD W L).depth < 4 := by have := nt.dp; omega
  have tup : isT "tuple" (tabD W L) = true := rfl
  generalize tabD W L = tb at *
  clear hr hrN nk nd nt I R hD
  generalize race need lead cap o u sp = r at *
  generalize (PyData.list [r, PyData.list D]).shown = kt at rk
  generalize tb.shown = tt at rt
  have et : (2 : Int) + (tn : Int) = ((tn + 2 : Nat) : Int) := by omega
  generalize tn + 2 = T at *
  have z2 : (2 : Nat) ≤ sizeLine := by decide
  have b1 : lwB1 (lF script i (.ow false (.list g)) s3 s4 s5 s6 s7) = some (.ok .nx, lF script i (.ow false (.list g2)) (.fz r) (.fz (.int T)) s5 s6 s7) := by
    unfold lwB1
    refine par_go (x := r) (y := .int T) (fr1 := lF script i (.ow false (.list g1)) s3 s4 s5 s6 s7) (fr2 := lF script i (.ow false (.list g2)) s3 s4 s5 s6 s7) ?_ ?_ rfl
    · exact callL_go (fr1 := lF script i (.ow false (.list g)) s3 s4 s5 s6 s7) (i := 2) (l := false) (g := g) (rest := []) rfl rfl rfl q1 rfl
    · refine p2_go (x := .inl (.int 2)) (y := .inl (.int tn)) rfl (val_go (callL_go (i := 2) (l := false) (g := g1) (rest := [.inl (.int 4)]) (fr1 := lF script i (.ow false (.list g1)) s3 s4 s5 s6 s7) rfl rfl rfl q2 rfl)) rfl rfl ?_
      rw [u_pAdd, et]
  have b2 : lwB2 (lF script i (.ow false (.list g2)) (.fz r) (.fz (.int T)) s5 s6 s7) = some (.ok .nx, lF script i (.ow false (.list g3)) (.fz r) (.fz (.int T)) (.fz (.list D)) s6 s7) := by
    unfold lwB2
    exact asg_go (fr1 := lF script i (.ow false (.list g3)) (.fz r) (.fz (.int T)) s5 s6 s7) (callL_go (fr1 := lF script i (.ow false (.list g2)) (.fz r) (.fz (.int T)) s5 s6 s7) (i := 2) (l := false) (g := g2) (rest := [.inl r, .inl (.int T)]) rfl rfl rfl q3 rfl) rfl
  have rl : ∀ s6 s7 s8 : SD, (mPN pRepr (A1 (mVal (mLst (mCons (mVal (mVar 3)) (mCons (mVal (mVar 5)) mNil)))))) [.fz script, .fz (.int i), .ow false (.list g3), .fz r, .fz (.int T), .fz (.list D), s6, s7, s8] = some (.ok (.str kt), [.fz script, .fz (.int i), .ow false (.list g3), .fz r, .fz (.int T), .fz (.list D), s6, s7, s8]) := fun s6 s7 s8 =>
    pn_go (xs := [.inl (.list [r, .list D])]) (ds := [.list [r, .list D]]) (by simp [A1, z2]) rfl rk
  have b3 : lwB3 (lF script i (.ow false (.list g3)) (.fz r) (.fz (.int T)) (.fz (.list D)) s6 s7) = some (.ok .nx, lF script i (.ow false (.list g3)) (.fz r) (.fz (.int T)) (.fz (.list D)) (.fz (.str kt)) (.fz tb)) := by
    unfold lwB3
    exact par_go (x := .str kt) (y := tb) (rl s6 s7 .no) (call_go (ds := [r, .int T, .list D]) (fr1 := lF script i (.ow false (.list g3)) (.fz r) (.fz (.int T)) (.fz (.list D)) s6 s7) (cons_go rfl (cons_go rfl (cons_go rfl rfl))) rfl q5) rfl
  have tbl : ∀ s8 : SD, (mCall F_table_of (mCons (mVal (mVar 3)) (mCons (mVal (mVar 4)) (mCons (mVal (mVar 5)) mNil)))) [.fz script, .fz (.int i), .ow false (.list g3), .fz r, .fz (.int T), .fz (.list D), .fz (.str kt), .fz tb, s8] = some (.ok tb, [.fz script, .fz (.int i), .ow false (.list g3), .fz r, .fz (.int T), .fz (.list D), .fz (.str kt), .fz tb, s8]) := fun s8 =>
    call_go (ds := [r, .int T, .list D]) (cons_go rfl (cons_go rfl (cons_go rfl rfl))) rfl q4
  have r7 : ∀ s8 : SD, (mPN pRepr (A1 (mSlot 7))) [.fz script, .fz (.int i), .ow false (.list g3), .fz r, .fz (.int T), .fz (.list D), .fz (.str kt), .fz tb, s8] = some (.ok (.str tt), [.fz script, .fz (.int i), .ow false (.list g3), .fz r, .fz (.int T), .fz (.list D), .fz (.str kt), .fz tb, s8]) := fun s8 =>
    pn_go (xs := [.inr 7]) (ds := [tb]) rfl rfl rt
  have isT' : isT "tuple" tb = true := tup
  have b4 : lwB4 (lF script i (.ow false (.list g3)) (.fz r) (.fz (.int T)) (.fz (.list D)) (.fz (.str kt)) (.fz tb)) = some (.ok .nx, lF script i (.ow false (.list g3)) (.fz r) (.fz (.int T)) (.fz (.list D)) (.fz (.str kt)) (.fz tb)) := by
    rw [mk_eq]
    refine sMark_go ⟨tb, tbl .no, by show 8 < 9; decide, flat_lF hg3, okt, dt, ?_, ?_, ?_⟩
    · refine nnot_go (b := true) (asB_go ?_)
      simp [isT']
    · exact asB_go (p2_go (val_go (pn_go (xs := [.inr 8]) (ds := [tb]) rfl rfl rt)) (val_go (r7 (.fz tb))) rfl rfl (ne_self tt))
    · exact nor_go (b := false) (asB_go (p2_go (val_go (pn_go (xs := [.inl tb]) (ds := [tb]) (cons_go (val_go (tbl .no)) rfl) rfl rt)) (val_go (r7 .no)) rfl rfl (ne_self tt))) (asB_go (p2_go (val_go (rl _ _ .no)) rfl rfl rfl (ne_self kt)))
  have n3 : (mCallL F__law_refused_right (mCons (mSlot 2) (mCons (mVal (mVar 3)) mNil))) (lF script i (.ow false (.list g3)) (.fz r) (.fz (.int T)) (.fz (.list D)) (.fz (.str kt)) (.fz tb)) = some (.ok (.bool true), lF script i (.ow false (.list g5)) (.fz r) (.fz (.int T)) (.fz (.list D)) (.fz (.str kt)) (.fz tb)) :=
    callL_go (fr1 := lF script i (.ow false (.list g3)) (.fz r) (.fz (.int T)) (.fz (.list D)) (.fz (.str kt)) (.fz tb)) (i := 2) (l := false) (g := g3) (rest := [.inl r]) rfl rfl rfl q6 rfl
  have b5 : ∃ gx, lwB5 (lF script i (.ow false (.list g3)) (.fz r) (.fz (.int T)) (.fz (.list D)) (.fz (.str kt)) (.fz tb)) = some (.ok .nx, lF script i (.ow false (.list gx)) (.fz r) (.fz (.int T)) (.fz (.list D)) (.fz (.str kt)) (.fz tb)) := by
    unfold lwB5
    by_cases h0 : i = 1
    · refine ⟨g5, if_go (b := false) (nand_go (b := true) ?_ (nnot_go (b := true) (asB_go n3))) rfl⟩
      subst h0
      simp [lF]
    · refine ⟨g3, if_go (b := false) (nand_go (b := false) ?_ rfl) rfl⟩
      have : ((i : Int) == 1) = false := by rw [beq_eq_false_iff_ne]; omega
      simp [lF, this]
  obtain ⟨gx, b5⟩ := b5
  exact ⟨_, _, _, _, _, _, seq_nx q0 (seq_nx b1 (seq_nx b2 (seq_nx b3 (seq_nx b4 b5))))⟩
def endD : PyData := .tuple [.list [.int 1, .int 1, .int 0], .list [.tuple [.int 0, .int 1]]]
theorem law_s1 (s : PyData) (s1 s2 s3 s4 s5 s6 s7 : SD) : lwS1 [.fz s, s1, s2, s3, s4, s5, s6, s7, .no] = some (.ok .nx, [.fz s, s1, s2, s3, s4, s5, s6, s7, .fz endD]) := by kernel_rfl
theorem law_s2 (s : PyData) (s1 s2 s3 s4 s5 s6 s7 : SD) : lwS2 [.fz s, s1, s2, s3, s4, s5, s6, s7, .fz endD] = some (.ok (.rt (.bool true)), [.fz s, s1, s2, s3, s4, s5, s6, s7, .fz endD]) := by kernel_rfl
theorem plain : Plain := fun ns _ => by
  have r0 := rng1_go (as := mCons (mVal (mC (.int 2))) mNil) (fr := [.fz (.list (ns.map .int)), .no, .no, .no, .no, .no, .no, .no, .no]) (fr1 := [.fz (.list (ns.map .int)), .no, .no, .no, .no, .no, .no, .no, .no]) (xs := [.inl (.int 2)]) (j := 2) rfl rfl (by decide) (by decide)
  obtain ⟨a2, a3, a4, a5, a6, a7, q0⟩ := law_one ns (i := 0) (by decide) (s2 := .no) (s3 := .no) (s4 := .no) (s5 := .no) (s6 := .no) (s7 := .no)
  obtain ⟨b2, b3, b4, b5, b6, b7, q1⟩ := law_one ns (i := 1) (by decide) (s2 := a2) (s3 := a3) (s4 := a4) (s5 := a5) (s6 := a6) (s7 := a7)
  refine runP_rt rfl (fr := [.fz (.list (ns.map .int)), .fz (.int (1 : Nat)), b2, b3, b4, b5, b6, b7, .fz endD]) ?_
  rw [lw_eq]
  exact seq_nx (for_go r0 (forL_cons rfl q0 (forL_cons rfl q1 rfl))) (seq_nx (law_s1 _ _ _ _ _ _ _ _) (law_s2 _ _ _ _ _ _ _ _))
end K79
end

section
set_option Elab.async false
set_option linter.all false
set_option maxRecDepth 100000
open PySem PySem.W PySem.Calls PyProof.Rows
set_option maxHeartbeats 0 in
theorem K79.holds_of (pl : K79.Plain) : PySem.Challenge.rw_anyserve_k79_tables_of_days.Holds := by
  w_on; o_law
  refine HandSHeadRun.head_any (r := OpenLaw.row PySem.Challenge.rw_anyserve_k79_tables_of_days) (q := view (OpenLaw.row PySem.Challenge.rw_anyserve_k79_tables_of_days).prog [56]) (H := K79.hk) (ob := K79.ob) (M := 6000) (loose := K79.loose1 ++ K79.loose2) (d := HandSHeadRun.topDef (OpenLaw.row PySem.Challenge.rw_anyserve_k79_tables_of_days).prog 56) (kwd := []) K79.ob_eq
    (by kernel_rfl) (fun s => by kernel_rfl) K79.run (by kernel_rfl) (by kernel_rfl) (by kernel_rfl) (by rfl) (by first | assumption | decide +kernel) (by decide +kernel) ⟨rfl, rfl, rfl, rfl, rfl, by decide +kernel⟩ ?hw ?hc
  case hw => w_witness2
  case hc => exact K79.walkG pl rfl rfl (by kernel_rfl) (by kernel_rfl)
end
open PySem PySem.W PyProof.Rows
set_option maxRecDepth 100000 in
set_option maxHeartbeats 0 in
theorem PySem.Challenge.cw_anyserve_k79_tables_of_days_holds : PySem.Challenge.rw_anyserve_k79_tables_of_days.Holds := by
  exact K79.holds_of K79.plain
