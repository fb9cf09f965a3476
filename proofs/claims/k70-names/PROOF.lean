import PyProof.Rows.All
import Wide.All
import OpenK.AllK
import Wide.FinOn
import HandS.ForMost
import HandS.Conv
import HandS.Flow
import HandS.Exc
import PyProof.P3In
import HandS.CallSlots
import HandS.IsInst
import HandS.StrMore
import HandS.Style
import HandS.IntHex
import HandS.Ends
import PySem.Challenge.RW_latehall_k70_numbers_of_names
set_option Elab.async false
set_option linter.all false
set_option maxRecDepth 100000
set_option maxHeartbeats 0
/-! Values without a heap: data, what stands for them, the states of a core language. -/
namespace VS
open PySem L2 PyProof.Rows

/-- data -/
inductive Dat where
  | non | bl (b : Bool) | int (i : Int) | str (x : Str) | ty (n : String)
  | fn (f : Nat) | cl (c : Nat) | obj (k : Nat)
  | tup (ds : List Dat) | lst (ds : List Dat) | dic (kvs : List (Dat × Dat)) | set (ks : List Dat)

/-- who owns a container that may change -/
inductive Loc where
  | slot (i : Nat) | fld (k : Nat) (f : Str) | obj (k : Nat)
  deriving DecidableEq

/-- what is the same through a whole law -/
structure Sta where
  P : Program
  w : World
  K : PySem.W.Frag
  mg : Str → Option Value
  base : Heap
  fn : Nat → Option Addr
  cls : Nat → Option Addr

/-- the ghosts: what is frozen, who owns what, where the objects stand, the entry's heap, the arguments -/
structure W where
  Hf : Hp
  own : Addr → Option Loc
  ads : Nat → Option Addr
  H0 : Hp
  args : List V

def kD : Key → Dat
  | .inl i => .int i
  | .inr x => .str x
def tkD (l : List Key) : Dat := .tup (l.map kD)

mutual
/-- v stands for d in what is frozen -/
inductive Rep (S : Sta) (Hf : Hp) (ads : Nat → Option Addr) : V → Dat → Prop
  | non : Rep S Hf ads .non .non
  | bl (b : Bool) : Rep S Hf ads (.bl b) (.bl b)
  | int (i : Int) : Rep S Hf ads (.int i) (.int i)
  | str (x : Str) : Rep S Hf ads (.str x) (.str x)
  | ty (n : String) : Rep S Hf ads (.ty n) (.ty n)
  | fn {f : Nat} {a : Addr} : S.fn f = some a → Rep S Hf ads (.ref a) (.fn f)
  | cl {c : Nat} {a : Addr} : S.cls c = some a → Rep S Hf ads (.ref a) (.cl c)
  | obj {k : Nat} {a : Addr} : ads k = some a → Rep S Hf ads (.ref a) (.obj k)
  | tup {a : Addr} {vs : List V} {ds : List Dat} : SqT S.K Hf a vs → Reps S Hf ads vs ds → Rep S Hf ads (.ref a) (.tup ds)
  | lst {a : Addr} {vs : List V} {ds : List Dat} : SqL S.K Hf a vs → Reps S Hf ads vs ds → Rep S Hf ads (.ref a) (.lst ds)
  | dicK {a : Addr} {l : List (Key × V)} {kvs : List (Dat × Dat)} : Rd Hf a (.dK l) → RepK S Hf ads l kvs → Rep S Hf ads (.ref a) (.dic kvs)
  | dicT {a : Addr} {l : List (List Key × V)} {kvs : List (Dat × Dat)} : Rd Hf a (.dT l) → RepT S Hf ads l kvs → Rep S Hf ads (.ref a) (.dic kvs)
inductive Reps (S : Sta) (Hf : Hp) (ads : Nat → Option Addr) : List V → List Dat → Prop
  | nil : Reps S Hf ads [] []
  | cons {v : V} {d : Dat} {vs : List V} {ds : List Dat} : Rep S Hf ads v d → Reps S Hf ads vs ds → Reps S Hf ads (v :: vs) (d :: ds)
inductive RepK (S : Sta) (Hf : Hp) (ads : Nat → Option Addr) : List (Key × V) → List (Dat × Dat) → Prop
  | nil : RepK S Hf ads [] []
  | cons {k : Key} {v : V} {d : Dat} {l : List (Key × V)} {kvs : List (Dat × Dat)} : Rep S Hf ads v d → RepK S Hf ads l kvs → RepK S Hf ads ((k, v) :: l) ((kD k, d) :: kvs)
inductive RepT (S : Sta) (Hf : Hp) (ads : Nat → Option Addr) : List (List Key × V) → List (Dat × Dat) → Prop
  | nil : RepT S Hf ads [] []
  | cons {k : List Key} {v : V} {d : Dat} {l : List (List Key × V)} {kvs : List (Dat × Dat)} : Rep S Hf ads v d → RepT S Hf ads l kvs → RepT S Hf ads ((k, v) :: l) ((tkD k, d) :: kvs)
end

/-- extension -/
def Ext (Hf Hf' : Hp) : Prop := ∀ a o, Hf a = some o → Hf' a = some o
theorem Ext.refl (H : Hp) : Ext H H := fun _ _ h => h
theorem Ext.trans {H H1 H2 : Hp} (a : Ext H H1) (b : Ext H1 H2) : Ext H H2 := fun x o h => b x o (a x o h)
theorem Ext.rd {H H' : Hp} {a : Addr} {u : HO} (e : Ext H H') (h : Rd H a u) : Rd H' a u := by
  rcases h with h | ⟨o, h⟩
  · exact .inl (e a _ h)
  · exact .inr ⟨o, e a _ h⟩
theorem Ext.sqL {K : PySem.W.Frag} {H H' : Hp} {a : Addr} {xs : List V} (e : Ext H H') (h : SqL K H a xs) : SqL K H' a xs := by
  rcases h with h | h
  · exact .inl (e.rd h)
  · exact .inr h
theorem Ext.sqT {K : PySem.W.Frag} {H H' : Hp} {a : Addr} {xs : List V} (e : Ext H H') (h : SqT K H a xs) : SqT K H' a xs := by
  rcases h with h | h
  · exact .inl (e.rd h)
  · exact .inr h
def AExt (a a' : Nat → Option Addr) : Prop := ∀ k x, a k = some x → a' k = some x

mutual
theorem Rep.mono {S : Sta} {Hf Hf' : Hp} {ads ads' : Nat → Option Addr} (e : Ext Hf Hf') (ea : AExt ads ads') : ∀ {v : V} {d : Dat}, Rep S Hf ads v d → Rep S Hf' ads' v d
  | _, _, .non => .non
  | _, _, .bl b => .bl b
  | _, _, .int i => .int i
  | _, _, .str x => .str x
  | _, _, .ty n => .ty n
  | _, _, .fn h => .fn h
  | _, _, .cl h => .cl h
  | _, _, .obj h => .obj (ea _ _ h)
  | _, _, .tup h r => .tup (e.sqT h) (Reps.mono e ea r)
  | _, _, .lst h r => .lst (e.sqL h) (Reps.mono e ea r)
  | _, _, .dicK h r => .dicK (e.rd h) (RepK.mono e ea r)
  | _, _, .dicT h r => .dicT (e.rd h) (RepT.mono e ea r)
theorem Reps.mono {S : Sta} {Hf Hf' : Hp} {ads ads' : Nat → Option Addr} (e : Ext Hf Hf') (ea : AExt ads ads') : ∀ {vs : List V} {ds : List Dat}, Reps S Hf ads vs ds → Reps S Hf' ads' vs ds
  | _, _, .nil => .nil
  | _, _, .cons r t => .cons (Rep.mono e ea r) (Reps.mono e ea t)
theorem RepK.mono {S : Sta} {Hf Hf' : Hp} {ads ads' : Nat → Option Addr} (e : Ext Hf Hf') (ea : AExt ads ads') : ∀ {l : List (Key × V)} {kvs : List (Dat × Dat)}, RepK S Hf ads l kvs → RepK S Hf' ads' l kvs
  | _, _, .nil => .nil
  | _, _, .cons r t => .cons (Rep.mono e ea r) (RepK.mono e ea t)
theorem RepT.mono {S : Sta} {Hf Hf' : Hp} {ads ads' : Nat → Option Addr} (e : Ext Hf Hf') (ea : AExt ads ads') : ∀ {l : List (List Key × V)} {kvs : List (Dat × Dat)}, RepT S Hf ads l kvs → RepT S Hf' ads' l kvs
  | _, _, .nil => .nil
  | _, _, .cons r t => .cons (Rep.mono e ea r) (RepT.mono e ea t)
end

/-- a container that may change, at a -/
inductive OwnC (S : Sta) (Hf : Hp) (ads : Nat → Option Addr) (H : Hp) (a : Addr) : Dat → Prop
  | lst {vs : List V} {ds : List Dat} : H a = some (.lst vs) → Reps S Hf ads vs ds → OwnC S Hf ads H a (.lst ds)
  | dicK {l : List (Key × V)} {kvs : List (Dat × Dat)} : H a = some (.dK l) → RepK S Hf ads l kvs → OwnC S Hf ads H a (.dic kvs)
  | dicT {l : List (List Key × V)} {kvs : List (Dat × Dat)} : H a = some (.dT l) → RepT S Hf ads l kvs → OwnC S Hf ads H a (.dic kvs)
theorem OwnC.mono {S : Sta} {Hf Hf' : Hp} {ads ads' : Nat → Option Addr} {H H' : Hp} {a : Addr} {d : Dat} (e : Ext Hf Hf') (ea : AExt ads ads') (h : OwnC S Hf ads H a d) (ha : H' a = H a) : OwnC S Hf' ads' H' a d := by
  cases h with
  | lst h r => exact .lst (ha.trans h) (r.mono e ea)
  | dicK h r => exact .dicK (ha.trans h) (r.mono e ea)
  | dicT h r => exact .dicT (ha.trans h) (r.mono e ea)
theorem OwnC.there {S : Sta} {Hf : Hp} {ads : Nat → Option Addr} {H : Hp} {a : Addr} {d : Dat} (h : OwnC S Hf ads H a d) : ∃ o, H a = some o := by
  cases h with
  | lst h r => exact ⟨_, h⟩
  | dicK h r => exact ⟨_, h⟩
  | dicT h r => exact ⟨_, h⟩

/-- a name's content: shared and never changed, or its own -/
inductive Slot where
  | fr (d : Dat) | ow (d : Dat)
/-- an object: its class, its attributes -/
structure OVal where
  cls : Nat
  flds : List (Str × Slot)
/-- a state of the core language -/
structure St where
  sl : List (Option Slot)
  ob : List OVal
/-- an expression's result: shared, a new container that nobody else knows, what stands at a name -/
inductive ER where
  | fr (d : Dat) | tp (d : Dat) | sl (i : Nat)

/-- what a name owns came behind the entry, or was handed in under that name -/
def Young (w : W) (v : V) (a : Addr) : Loc → Prop
  | .slot i => w.H0 a = none ∨ w.args[i]? = some v
  | _ => True
def SlotOk (S : Sta) (w : W) (H : Hp) (l : Loc) (v : V) : Slot → Prop
  | .fr d => Rep S w.Hf w.ads v d
  | .ow d => ∃ a, v = .ref a ∧ w.own a = some l ∧ w.Hf a = none ∧ OwnC S w.Hf w.ads H a d ∧ Young w v a l
/-- how many names there are; which of them are never stored -/
structure Shp where
  n : Nat
  ro : Nat → Bool
  np : Nat

structure ObOk (S : Sta) (w : W) (H : Hp) (k : Nat) (o : OVal) : Prop where
  ex : ∃ a C dx fs, w.ads k = some a ∧ S.cls o.cls = some C ∧ w.own a = some (.obj k) ∧ w.Hf a = none ∧ H a = some (.ins C dx fs) ∧ fs.map (·.1) = o.flds.map (·.1) ∧
    ∀ (i : Nat) (f : Str) (v : V) (s : Slot), fs[i]? = some (f, v) → o.flds[i]? = some (f, s) → SlotOk S w H (.fld k f) v s

/-- the state of the core language is that of the machine -/
structure Rel (S : Sta) (n : Shp) (ς : St) (σ : L2.St) (H : Hp) (w : W) : Prop where
  sub : ∀ a o, w.Hf a = some o → H a = some o
  nof : ∀ a o, w.Hf a = some o → w.own a = none
  len : ς.sl.length = n.n
  slots : ∀ i s, ς.sl[i]? = some (some s) → ∃ v, σ[i]? = some (some v) ∧ SlotOk S w H (.slot i) v s
  obs : ∀ k o, ς.ob[k]? = some o → ObOk S w H k o
  adk : ∀ k a, w.ads k = some a → k < ς.ob.length
  dom : ∀ a, H a = none → w.H0 a = none
  own0 : ∀ a, H a = none → w.own a = none
  arg : ∀ i v, n.ro i = true → w.args[i]? = some v → σ[i]? = some (some v)
  arl : ∀ i, n.np ≤ i → w.args[i]? = none

/-- what stands through a step -/
structure Fr (w : W) (H : Hp) (w' : W) (H' : Hp) : Prop where
  hf : Ext w.Hf w'.Hf
  ad : AExt w.ads w'.ads
  kp : ∀ b o, H b = some o → w.own b = none → H' b = some o ∧ w'.own b = none
  nf : ∀ b o, H b = some o → w.own b = none → w.Hf b = none → w'.Hf b = none
  dm : ∀ b, H' b = none → H b = none
  h0 : w'.H0 = w.H0
  as : w'.args = w.args
  ow : ∀ b l o, H b = some o → w.own b = some l → w'.own b = some l ∨ w'.own b = none
theorem Fr.refl (w : W) (H : Hp) : Fr w H w H := ⟨Ext.refl _, fun _ _ h => h, fun _ _ h1 h2 => ⟨h1, h2⟩, fun _ _ _ _ h => h, fun _ h => h, rfl, rfl, fun _ _ _ _ h => .inl h⟩
theorem Fr.trans {w w1 w2 : W} {H H1 H2 : Hp} (a : Fr w H w1 H1) (b : Fr w1 H1 w2 H2) : Fr w H w2 H2 :=
  ⟨a.hf.trans b.hf, fun k x h => b.ad k x (a.ad k x h), fun c o h1 h2 => let ⟨p, q⟩ := a.kp c o h1 h2; b.kp c o p q, fun c o h1 h2 h3 => let ⟨p, q⟩ := a.kp c o h1 h2; b.nf c o p q (a.nf c o h1 h2 h3),
    fun c h => a.dm c (b.dm c h), b.h0.trans a.h0, b.as.trans a.as, fun c l o h1 h2 => by
      have h3 : ∃ o', H1 c = some o' := by
        cases q : H1 c with
        | some o' => exact ⟨o', rfl⟩
        | none => rw [a.dm c q] at h1; cases h1
      obtain ⟨o', h3⟩ := h3
      rcases a.ow c l o h1 h2 with h | h
      · exact b.ow c l o' h3 h
      · exact .inr (b.kp c o' h3 h).2⟩

def ResOk (S : Sta) (w : W) (Hs H : Hp) (σ : L2.St) (v : V) : ER → Prop
  | .fr d => Rep S w.Hf w.ads v d
  | .tp d => ∃ a, v = .ref a ∧ Hs a = none ∧ w.own a = none ∧ w.Hf a = none ∧ OwnC S w.Hf w.ads H a d
  | .sl i => σ[i]? = some (some v)

section
variable {S : Sta} {n : Shp} {ς ς' : St} {σ : L2.St} {H H' Hs : Hp} {w w' : W} {v : V} {d : Dat} {r : ER}

theorem ResOk.carry (h : ResOk S w Hs H σ v r) (f : Fr w H w' H') : ResOk S w' Hs H' σ v r := by
  cases r with
  | fr d => exact Rep.mono f.hf f.ad h
  | tp d =>
    obtain ⟨a, e, h1, h2, h3, h4⟩ := h
    obtain ⟨o, ho⟩ := h4.there
    obtain ⟨p, q⟩ := f.kp a o ho h2
    exact ⟨a, e, h1, q, f.nf a o ho h2 h3, h4.mono f.hf f.ad (p.trans ho.symm)⟩
  | sl i => exact h
theorem ResOk.back {Hs' : Hp} (h : ResOk S w Hs' H σ v r) (f : ∀ a, Hs' a = none → Hs a = none) : ResOk S w Hs H σ v r := by
  cases r with
  | fr d => exact h
  | tp d =>
    obtain ⟨a, e, h1, h2⟩ := h
    exact ⟨a, e, f a h1, h2⟩
  | sl i => exact h

/-- the content that a result has now -/
def cur (ς : St) : ER → Option Dat
  | .fr d => some d
  | .tp d => some d
  | .sl i => match ς.sl[i]? with
    | some (some (.fr d)) => some d
    | some (some (.ow d)) => some d
    | _ => none
/-- what may be read -/
def View (S : Sta) (w : W) (H : Hp) (v : V) (d : Dat) : Prop := Rep S w.Hf w.ads v d ∨ ∃ a, v = .ref a ∧ OwnC S w.Hf w.ads H a d
theorem Rel.view (R : Rel S n ς σ H w) (h : ResOk S w Hs H σ v r) (c : cur ς r = some d) : View S w H v d := by
  cases r with
  | fr d' => cases c; exact .inl h
  | tp d' =>
    cases c
    obtain ⟨a, e, _, _, _, h4⟩ := h
    exact .inr ⟨a, e, h4⟩
  | sl i =>
    have h : σ[i]? = some (some v) := h
    unfold cur at c
    simp only at c
    split at c
    · rename_i d' e
      cases c
      obtain ⟨v', e1, e2⟩ := R.slots _ _ e
      rw [h] at e1; cases e1
      exact .inl e2
    · rename_i d' e
      cases c
      obtain ⟨v', e1, a, e2, _, _, e3, _⟩ := R.slots _ _ e
      rw [h] at e1; cases e1
      exact .inr ⟨a, e2, e3⟩
    · cases c

/-- freeze a container of one's own -/
def frz (w : W) (a : Addr) (o : HO) : W := { w with Hf := upd w.Hf a o, own := fun b => if b = a then none else w.own b }
theorem frz_ext {a : Addr} {o : HO} (h : w.Hf a = none) : Ext w.Hf (upd w.Hf a o) := fun b u e => by rw [upd_ne (ne_of_none e h)]; exact e
theorem frz_fr {a : Addr} {o : HO} (ha : w.Hf a = none) (hc : w.own a ≠ none ∨ Hs a = none) (hsub : ∀ b u, Hs b = some u → H b = some u ∨ True) : True := trivial
theorem frz_rep {a : Addr} {o : HO} (h : w.Hf a = none) (c : OwnC S w.Hf w.ads H a d) (ho : H a = some o) : Rep S (frz w a o).Hf w.ads (.ref a) d := by
  have e := frz_ext (o := o) h
  have u : upd w.Hf a o a = some o := upd_same
  cases c with
  | lst q r => rw [ho] at q; cases q; exact .lst (.inl (.inl u)) (r.mono e fun _ _ h => h)
  | dicK q r => rw [ho] at q; cases q; exact .dicK (.inl u) (r.mono e fun _ _ h => h)
  | dicT q r => rw [ho] at q; cases q; exact .dicT (.inl u) (r.mono e fun _ _ h => h)
theorem SlotOk.frz {a : Addr} {o : HO} {l : Loc} {s : Slot} (ha : w.Hf a = none) (hl : w.own a ≠ some l) (h : SlotOk S w H l v s) : SlotOk S (frz w a o) H l v s := by
  cases s with
  | fr d => exact Rep.mono (frz_ext ha) (fun _ _ h => h) h
  | ow d =>
    obtain ⟨b, e, h1, h2, h3, h4⟩ := h
    have nb : b ≠ a := fun q => hl (q ▸ h1)
    exact ⟨b, e, by show (if b = a then none else w.own b) = _; rw [if_neg nb]; exact h1, by show upd w.Hf a o b = none; rw [upd_ne nb]; exact h2, h3.mono (frz_ext ha) (fun _ _ h => h) rfl, by cases l <;> exact h4⟩
theorem ObOk.frz {a : Addr} {o : HO} {k : Nat} {ov : OVal} (ha : w.Hf a = none) (hl : ∀ f, w.own a ≠ some (.fld k f)) (hl' : w.own a ≠ some (.obj k)) (h : ObOk S w H k ov) : ObOk S (frz w a o) H k ov := by
  obtain ⟨b, C, dx, fs, h1, h2, h3, h4, h5, h6, h7⟩ := h.ex
  have nb : b ≠ a := fun q => hl' (q ▸ h3)
  exact ⟨b, C, dx, fs, h1, h2, by show (if b = a then none else w.own b) = _; rw [if_neg nb]; exact h3, by show upd w.Hf a o b = none; rw [upd_ne nb]; exact h4, h5, h6, fun i f v s e1 e2 => (h7 i f v s e1 e2).frz ha (hl f)⟩

def St.set (ς : St) (i : Nat) (s : Option Slot) : St := { ς with sl := ς.sl.set i s }
/-- as a value that is shared from now on -/
def settle (ς : St) : ER → Option (Dat × St)
  | .fr d => some (d, ς)
  | .tp d => some (d, ς)
  | .sl i => match ς.sl[i]? with
    | some (some (.fr d)) => some (d, ς)
    | some (some (.ow d)) => some (d, ς.set i (some (.fr d)))
    | _ => none

theorem frz_step {a : Addr} {o : HO} (ha : w.Hf a = none) (hc : w.own a ≠ none) : Fr w H (frz w a o) H :=
  ⟨frz_ext ha, fun _ _ h => h, fun b u h1 h2 => ⟨h1, by show (if b = a then none else w.own b) = none; split <;> first | rfl | exact h2⟩, fun b u _ h2 h3 => by
    have nb : b ≠ a := fun q => hc (q ▸ h2)
    show upd w.Hf a o b = none
    rw [upd_ne nb]; exact h3, fun _ h => h, rfl, rfl, fun b l o h1 h2 => by
    show (if b = a then none else w.own b) = some l ∨ (if b = a then none else w.own b) = none
    split
    · exact .inr rfl
    · exact .inl h2⟩
end
end VS

namespace VS
open PySem L2 PyProof.Rows

section
variable {S : Sta} {n : Shp} {ς ς' : St} {σ : L2.St} {H H' Hs : Hp} {w w0 w' : W} {v : V} {d : Dat} {r : ER}

theorem St.set_len (ς : St) (i : Nat) (s : Option Slot) : (ς.set i s).sl.length = ς.sl.length := List.length_set
theorem St.set_same {ς : St} {i : Nat} {s : Option Slot} {x : Option Slot} (h : ς.sl[i]? = some x) : (ς.set i s).sl[i]? = some s := by
  have hl := (List.getElem?_eq_some_iff.mp h).1
  exact List.getElem?_set_self hl
theorem St.set_ne {ς : St} {i j : Nat} {s : Option Slot} (h : i ≠ j) : (ς.set i s).sl[j]? = ς.sl[j]? := List.getElem?_set_ne h

/-- a container of the state is frozen: the slot says so from now on -/
theorem Rel.freeze_slot {i : Nat} (R : Rel S n ς σ H w) (e : ς.sl[i]? = some (some (.ow d))) :
    ∃ w' v, σ[i]? = some (some v) ∧ Fr w H w' H ∧ Rel S n (ς.set i (some (.fr d))) σ H w' ∧ Rep S w'.Hf w'.ads v d := by
  obtain ⟨v, ev, a, rfl, ho, hn, hc, _⟩ := R.slots _ _ e
  obtain ⟨o, hO⟩ := hc.there
  have rp := frz_rep hn hc hO
  refine ⟨frz w a o, .ref a, ev, frz_step hn (by rw [ho]; simp), ⟨?_, ?_, ?_, ?_, ?_, R.adk, R.dom, fun b h => by show (if b = a then none else w.own b) = none; split <;> first | rfl | exact R.own0 b h, R.arg, R.arl⟩, rp⟩
  · intro b u h
    by_cases hb : b = a
    · subst hb
      have : upd w.Hf b o b = some u := h
      rw [upd_same] at this; cases this
      exact hO
    · have : upd w.Hf a o b = some u := h
      rw [upd_ne hb] at this
      exact R.sub b u this
  · intro b u h
    show (if b = a then none else w.own b) = none
    by_cases hb : b = a
    · rw [if_pos hb]
    · rw [if_neg hb]
      have : upd w.Hf a o b = some u := h
      rw [upd_ne hb] at this
      exact R.nof b u this
  · rw [St.set_len]; exact R.len
  · intro j s hj
    by_cases hij : i = j
    · subst hij
      rw [St.set_same e] at hj; cases hj
      exact ⟨_, ev, rp⟩
    · rw [St.set_ne hij] at hj
      obtain ⟨u, h1, h2⟩ := R.slots j s hj
      exact ⟨u, h1, h2.frz hn (by rw [ho]; intro q; cases q; exact hij rfl)⟩
  · intro k ov hk
    exact (R.obs k ov hk).frz hn (by rw [ho]; intro f q; cases q) (by rw [ho]; intro q; cases q)

theorem Rel.freeze_tmp {a : Addr} {o : HO} (R : Rel S n ς σ H w) (ho : w.own a = none) (hn : w.Hf a = none) (hO : H a = some o) : Rel S n ς σ H (frz w a o) := by
  refine ⟨?_, ?_, R.len, ?_, ?_, R.adk, R.dom, fun b h => by show (if b = a then none else w.own b) = none; split <;> first | rfl | exact R.own0 b h, R.arg, R.arl⟩
  · intro b u h
    by_cases hb : b = a
    · subst hb
      have : upd w.Hf b o b = some u := h
      rw [upd_same] at this; cases this
      exact hO
    · have : upd w.Hf a o b = some u := h
      rw [upd_ne hb] at this
      exact R.sub b u this
  · intro b u h
    show (if b = a then none else w.own b) = none
    by_cases hb : b = a
    · rw [if_pos hb]
    · rw [if_neg hb]
      have : upd w.Hf a o b = some u := h
      rw [upd_ne hb] at this
      exact R.nof b u this
  · intro j s hj
    obtain ⟨u, h1, h2⟩ := R.slots j s hj
    exact ⟨u, h1, h2.frz hn (by rw [ho]; simp)⟩
  · intro k ov hk
    exact (R.obs k ov hk).frz hn (by rw [ho]; simp) (by rw [ho]; simp)
theorem Fr.freeze_tmp {a : Addr} {o : HO} (F : Fr w0 Hs w H) (ha : Hs a = none) (hn : w.Hf a = none) : Fr w0 Hs (frz w a o) H := by
  refine ⟨F.hf.trans (frz_ext hn), F.ad, fun b u h1 h2 => ?_, fun b u h1 h2 h3 => ?_, F.dm, F.h0, F.as, fun b l o h1 h2 => ?_⟩
  · obtain ⟨p, q⟩ := F.kp b u h1 h2
    refine ⟨p, ?_⟩
    show (if b = a then none else w.own b) = none
    split
    · rfl
    · exact q
  · have nb : b ≠ a := fun q => by rw [q, ha] at h1; cases h1
    show upd w.Hf a o b = none
    rw [upd_ne nb]
    exact F.nf b u h1 h2 h3
  · show (if b = a then none else w.own b) = some l ∨ (if b = a then none else w.own b) = none
    split
    · exact .inr rfl
    · exact F.ow b l o h1 h2
/-- a result is shared from now on -/
theorem settle_ok {d : Dat} (F : Fr w0 Hs w H) (R : Rel S n ς σ H w) (h : ResOk S w Hs H σ v r) (e : settle ς r = some (d, ς')) :
    ∃ w', Fr w0 Hs w' H ∧ Rel S n ς' σ H w' ∧ Rep S w'.Hf w'.ads v d := by
  cases r with
  | fr d' =>
    cases e
    exact ⟨w, F, R, h⟩
  | tp d' =>
    cases e
    obtain ⟨a, rfl, h1, h2, h3, h4⟩ := h
    obtain ⟨o, hO⟩ := h4.there
    exact ⟨frz w a o, F.freeze_tmp h1 h3, R.freeze_tmp h2 h3 hO, frz_rep h3 h4 hO⟩
  | sl i =>
    unfold settle at e
    simp only at e
    split at e
    · rename_i d' q
      cases e
      obtain ⟨v', e1, e2⟩ := R.slots _ _ q
      have h : σ[i]? = some (some v) := h
      rw [h] at e1; cases e1
      exact ⟨w, F, R, e2⟩
    · rename_i d' q
      cases e
      obtain ⟨w', v', e1, F', R', rp⟩ := R.freeze_slot q
      have h : σ[i]? = some (some v) := h
      rw [h] at e1; cases e1
      exact ⟨w', F.trans F', R', rp⟩
    · cases e

/-- a new object is laid -/
theorem Rel.laid {p : Addr} {o : HO} (R : Rel S n ς σ H w) (hp : H p = none) : Rel S n ς σ (upd H p o) w ∧ Fr w H w (upd H p o) := by
  have ne : ∀ b u, H b = some u → b ≠ p := fun b u e => ne_of_none e hp
  have oc : ∀ {a d}, OwnC S w.Hf w.ads H a d → OwnC S w.Hf w.ads (upd H p o) a d := fun {a d} h => by
    obtain ⟨u, hu⟩ := h.there
    exact h.mono (Ext.refl _) (fun _ _ h => h) (upd_ne (ne a u hu))
  have so : ∀ {l v s}, SlotOk S w H l v s → SlotOk S w (upd H p o) l v s := fun {l v s} h => by
    cases s with
    | fr d => exact h
    | ow d =>
      obtain ⟨a, e, h1, h2, h3, h4⟩ := h
      exact ⟨a, e, h1, h2, oc h3, h4⟩
  refine ⟨⟨fun a u h => by rw [upd_ne (ne a u (R.sub a u h))]; exact R.sub a u h, R.nof, R.len, fun i s e => ?_, fun k ov e => ?_, R.adk, fun a h => ?_, fun a h => R.own0 a ?_, R.arg, R.arl⟩,
    ⟨Ext.refl _, fun _ _ h => h, fun b u h1 h2 => ⟨by rw [upd_ne (ne b u h1)]; exact h1, h2⟩, fun _ _ _ _ h => h, fun b h => ?_, rfl, rfl, fun _ _ _ _ h => .inl h⟩⟩
  · obtain ⟨v, e1, e2⟩ := R.slots i s e
    exact ⟨v, e1, so e2⟩
  · obtain ⟨a, C, dx, fs, h1, h2, h3, h4, h5, h6, h7⟩ := (R.obs k ov e).ex
    exact ⟨a, C, dx, fs, h1, h2, h3, h4, by rw [upd_ne (ne a _ h5)]; exact h5, h6, fun i f v s e1 e2 => so (h7 i f v s e1 e2)⟩
  · refine R.dom a ?_
    by_cases hb : a = p
    · rw [hb]; exact hp
    · rw [upd_ne hb] at h; exact h
  · by_cases hb : a = p
    · rw [hb]; exact hp
    · rw [upd_ne hb] at h; exact h
  · by_cases hb : b = p
    · rw [hb]; exact hp
    · rw [upd_ne hb] at h; exact h
end

/-! ### outcomes -/
/-- an exception: its class, its fields -/
structure Exn where
  cls : Dat
  flds : List (Str × Dat)
inductive Out (α : Type) where
  | ok (a : α) (ς : St) | ex (x : Exn) (ς : St)
abbrev Act (α : Type) := St → Option (Out α)
def Act.ret {α : Type} (a : α) : Act α := fun ς => some (.ok a ς)
def Act.bnd {α β : Type} (m : Act α) (f : α → Act β) : Act β := fun ς => match m ς with
  | none => none
  | some (.ok a ς') => f a ς'
  | some (.ex x ς') => some (.ex x ς')
/-- what may not be is left out -/
def Act.get {α : Type} (f : St → Option (α × St)) : Act α := fun ς => (f ς).map fun p => .ok p.1 p.2

def ClsOk (S : Sta) (cls : Value) : Dat → Prop
  | .cl c => ∃ C, S.cls c = some C ∧ cls = .ref C
  | .ty m => cls = .type m
  | _ => False
inductive FldsOk (S : Sta) (w : W) : List (Str × V) → List (Str × Dat) → Prop
  | nil : FldsOk S w [] []
  | cons {f : Str} {v : V} {d : Dat} {fs : List (Str × V)} {gs : List (Str × Dat)} : Rep S w.Hf w.ads v d → FldsOk S w fs gs → FldsOk S w ((f, v) :: fs) ((f, d) :: gs)
structure ExOk (S : Sta) (w : W) (H : Hp) (cls : Value) (dd : Option Addr) (x : Exn) : Prop where
  c : ClsOk S cls x.cls
  f : (x.flds = [] ∧ dd = none) ∨ ∃ a fs, dd = some a ∧ H a = some (.xd fs) ∧ w.own a = none ∧ w.H0 a = none ∧ FldsOk S w fs x.flds
def XW (S : Sta) (n : Shp) (w : W) (H : Hp) (x : Exn) (ς' : St) : WX := fun cls dd σ' H' => ∃ w', Fr w H w' H' ∧ Rel S n ς' σ' H' w' ∧ ExOk S w' H' cls dd x
theorem XW.back {S : Sta} {n : Shp} {w w1 : W} {H H1 : Hp} {x : Exn} {ς' : St} {cls : Value} {dd : Option Addr} {σ' : L2.St} {H' : Hp} (F : Fr w H w1 H1) (h : XW S n w1 H1 x ς' cls dd σ' H') : XW S n w H x ς' cls dd σ' H' := by
  obtain ⟨w', F', R, e⟩ := h
  exact ⟨w', F.trans F', R, e⟩
theorem XE.imp {X : Cx} {A B : WX} {u : Value} {s' : Shared} (h : ∀ c d σ H, A c d σ H → B c d σ H) (x : XE X A u s') : XE X B u s' := by
  obtain ⟨a, G, sI, pins, σ, H, cls, d, e, I, nb, up, sky, na, os, ag, q⟩ := x
  exact ⟨a, G, sI, pins, σ, H, cls, d, e, I, nb, up, sky, na, os, ag, h _ _ _ _ q⟩

/-- where one stands -/
structure Ctx extends Sta where
  N : List Str
  sc : Scope
  lvl : Nat
  fnn : Str → Bool
  ro : Nat → Bool
  np : Nat
structure Ctx.Ok (c : Ctx) (X : Cx) : Prop where
  prog : X.prog = c.P
  w : X.w = c.w
  K : X.K = c.K
  mg : X.mg = c.mg
  base : X.base = c.base
  N : X.N = c.N
  sc : X.env.scope = c.sc
  nd : c.N.Nodup
  calm : X.calm = true
  room : Room c.lvl X.A
  fnn : ∀ x, c.fnn x = true → X.fn x = true
  po : PassesOwn (model X.prog X.w) X.A X.env X.xe
abbrev Ctx.n (c : Ctx) : Shp := ⟨c.N.length, c.ro, c.np⟩

/-- behind an expression -/
def NE (c : Ctx) (X : Cx) (pins : List (Addr × Obj)) (σ : L2.St) (w : W) (H : Hp) : Out ER → Value → Shared → Prop
  | .ok r ς', u, s' => ∃ v H' w', Inv X pins σ H' s' ∧ RelV v u ∧ Fr w H w' H' ∧ Rel c.toSta c.n ς' σ H' w' ∧ ResOk c.toSta w' H H' σ v r
  | .ex _ _, _, _ => False
/-- what is thrown is taken -/
def XT {α : Type} (c : Ctx) (X : Cx) (w : W) (H : Hp) : Out α → Prop
  | .ok _ _ => True
  | .ex x ς' => Takes X (XW c.toSta c.n w H x ς')
theorem XT.from {α : Type} {c : Ctx} {X : Cx} {w w1 : W} {H H1 : Hp} {o : Out α} (F : Fr w H w1 H1) (h : XT c X w H o) : XT c X w1 H1 o := by
  cases o with
  | ok a ς' => trivial
  | ex x ς' => exact Takes.imp h fun _ _ _ _ q => XW.back F q
/-- the expression e does f -/
def VE (c : Ctx) (e : Expr) (f : Act ER) : Prop :=
  ∀ X, c.Ok X → ∀ (pins : List (Addr × Obj)) (s : Shared) (σ : L2.St) (H : Hp) (w : W) (ς : St) (o : Out ER), f ς = some o → Inv X pins σ H s → Rel c.toSta c.n ς σ H w → XT c X w H o →
    wpAny (model X.prog X.w) X.A (eval e X.env) (NE c X pins σ w H o) X.xe s
/-- a test -/
def NT (c : Ctx) (X : Cx) (pins : List (Addr × Obj)) (σ : L2.St) (w : W) (H : Hp) : Out Bool → Bool → Shared → Prop
  | .ok b ς', b', s' => b' = b ∧ ∃ H' w', Inv X pins σ H' s' ∧ Fr w H w' H' ∧ Rel c.toSta c.n ς' σ H' w'
  | .ex _ _, _, _ => False
def VT (c : Ctx) (e : Expr) (f : Act Bool) : Prop :=
  ∀ X, c.Ok X → ∀ (whole : Sem Value) (pins : List (Addr × Obj)) (s : Shared) (σ : L2.St) (H : Hp) (w : W) (ς : St) (o : Out Bool), f ς = some o → Inv X pins σ H s → Rel c.toSta c.n ς σ H w → XT c X w H o →
    (whole = eval e X.env ∨ ∃ op es p, e = .BoolOp op es p) → wpAny (model X.prog X.w) X.A (isTrue e X.env whole) (NT c X pins σ w H o) X.xe s

section
variable {c : Ctx} {X : Cx} {pins : List (Addr × Obj)} {s : Shared} {σ : L2.St} {H : Hp} {w : W} {ς : St}
/-- an expression, then what follows -/
theorem ve_then {β : Type} {e : Expr} {f : Act ER} {k : ER → Act β} {o : Out β} (h : VE c e f) (hX : c.Ok X) (I : Inv X pins σ H s) (R : Rel c.toSta c.n ς σ H w) (T : XT c X w H o) (ho : f.bnd k ς = some o) {Q : Value → Shared → Prop}
    (hk : ∀ (r : ER) (ς1 : St) (u : Value) (s1 : Shared) (v : V) (H1 : Hp) (w1 : W), k r ς1 = some o → Inv X pins σ H1 s1 → RelV v u → Fr w H w1 H1 → Rel c.toSta c.n ς1 σ H1 w1 → XT c X w1 H1 o → ResOk c.toSta w1 H H1 σ v r → Q u s1) :
    wpAny (model X.prog X.w) X.A (eval e X.env) Q X.xe s := by
  unfold Act.bnd at ho
  cases q : f ς with
  | none => rw [q] at ho; cases ho
  | some o1 =>
    rw [q] at ho
    cases o1 with
    | ok r ς1 =>
      exact wpAny_mono (h X hX pins s σ H w ς _ q I R trivial) (fun u s1 ⟨v, H1, w1, I1, rv, F1, R1, ro⟩ => hk r ς1 u s1 v H1 w1 ho I1 rv F1 R1 (T.from F1) ro) fun _ _ z => z
    | ex x ς1 =>
      cases ho
      exact wpAny_mono (h X hX pins s σ H w ς _ q I R T) (fun _ _ z => z.elim) fun u s1 z => z
theorem vt_then {β : Type} {e : Expr} {f : Act Bool} {k : Bool → Act β} {o : Out β} (h : VT c e f) (hX : c.Ok X) (I : Inv X pins σ H s) (R : Rel c.toSta c.n ς σ H w) (T : XT c X w H o) (ho : f.bnd k ς = some o) {Q : Bool → Shared → Prop}
    (hk : ∀ (b : Bool) (ς1 : St) (s1 : Shared) (H1 : Hp) (w1 : W), k b ς1 = some o → Inv X pins σ H1 s1 → Fr w H w1 H1 → Rel c.toSta c.n ς1 σ H1 w1 → XT c X w1 H1 o → Q b s1) :
    wpAny (model X.prog X.w) X.A (isTrue e X.env (eval e X.env)) Q X.xe s := by
  unfold Act.bnd at ho
  cases q : f ς with
  | none => rw [q] at ho; cases ho
  | some o1 =>
    rw [q] at ho
    cases o1 with
    | ok r ς1 =>
      refine wpAny_mono (h X hX _ pins s σ H w ς _ q I R trivial (.inl rfl)) (fun u s1 ⟨e, H1, w1, I1, F1, R1⟩ => ?_) fun _ _ z => z
      subst e
      exact hk u ς1 s1 H1 w1 ho I1 F1 R1 (T.from F1)
    | ex x ς1 =>
      cases ho
      exact wpAny_mono (h X hX _ pins s σ H w ς _ q I R T (.inl rfl)) (fun _ _ z => z.elim) fun u s1 z => z
/-- an operation on values that lets nothing out, for any wish -/
theorem op_any {f : Value → Value → Sem Value} {r : R2} (ho : OpR X.nox f r) {x y : V} {u1 u2 : Value} {Q : VK} {E : Value → Shared → Prop} (I : Inv X pins σ H s) (rx : RelV x u1) (ry : RelV y u2) (q : r x y H Q) :
    wpAny (model X.prog X.w) X.A (f u1 u2) (EP X pins σ Q) E s :=
  wpAny_mono (ho pins s σ H x y u1 u2 Q (I.wish _) rx ry q) (fun _ _ ⟨v, H', I', r, q⟩ => ⟨v, H', I'.unwish, r, q⟩) fun _ _ z => False.elim z
end
end VS

namespace VS
open PySem L2 PyProof.Rows

/-! ### data as the library's data -/
mutual
def toPy : Dat → Option PyData
  | .non => some .none
  | .bl b => some (.bool b)
  | .int i => some (.int i)
  | .str x => some (.str x)
  | .tup ds => (toPys ds).map .tuple
  | .lst ds => (toPys ds).map .list
  | _ => none
def toPys : List Dat → Option (List PyData)
  | [] => some []
  | d :: ds => match toPy d, toPys ds with
    | some p, some ps => some (p :: ps)
    | _, _ => none
end

section
variable {S : Sta} {n : Shp} {ς ς' : St} {σ : L2.St} {H H' Hs : Hp} {w w0 w' : W} {v : V} {d : Dat} {r : ER}
mutual
theorem Rep.dp (sub : Ext w.Hf H) : ∀ {v : V} {d : Dat} {p : PyData}, Rep S w.Hf w.ads v d → toPy d = some p → Dp S.K H v p
  | _, _, _, .non, e => by cases e; exact .non
  | _, _, _, .bl b, e => by cases e; exact .bl b
  | _, _, _, .int i, e => by cases e; exact .int i
  | _, _, _, .str x, e => by cases e; exact .str x
  | _, _, _, .ty n, e => by cases e
  | _, _, _, .fn h, e => by cases e
  | _, _, _, .cl h, e => by cases e
  | _, _, _, .obj h, e => by cases e
  | _, .tup ds, _, .tup h r, e => by
    unfold toPy at e
    cases q : toPys ds with
    | none => rw [q] at e; cases e
    | some ps => rw [q] at e; cases e; exact .tup (sub.sqT h) (Reps.dp sub r q)
  | _, .lst ds, _, .lst h r, e => by
    unfold toPy at e
    cases q : toPys ds with
    | none => rw [q] at e; cases e
    | some ps => rw [q] at e; cases e; exact .lst (sub.sqL h) (Reps.dp sub r q)
  | _, _, _, .dicK h r, e => by cases e
  | _, _, _, .dicT h r, e => by cases e
theorem Reps.dp (sub : Ext w.Hf H) : ∀ {vs : List V} {ds : List Dat} {ps : List PyData}, Reps S w.Hf w.ads vs ds → toPys ds = some ps → DpAll S.K H vs ps
  | _, _, _, .nil, e => by cases e; exact .nil
  | _, d :: ds, _, .cons r t, e => by
    unfold toPys at e
    cases q : toPy d with
    | none => rw [q] at e; cases e
    | some p =>
      cases q' : toPys ds with
      | none => rw [q, q'] at e; cases e
      | some ps => rw [q, q'] at e; cases e; exact .cons (Rep.dp sub r q) (Reps.dp sub t q')
end
theorem View.dp {p : PyData} (sub : Ext w.Hf H) (h : View S w H v d) (e : toPy d = some p) : Dp S.K H v p := by
  rcases h with h | ⟨a, rfl, h⟩
  · exact h.dp sub e
  · cases h with
    | lst h r =>
      rename_i vs ds
      unfold toPy at e
      cases q : toPys ds with
      | none => rw [q] at e; cases e
      | some ps => rw [q] at e; cases e; exact .lst (SqL.of h) (r.dp sub q)
    | dicK h r => cases e
    | dicT h r => cases e
theorem View.lst {ds : List Dat} (sub : Ext w.Hf H) (h : View S w H v (.lst ds)) : ∃ a vs, v = .ref a ∧ SqL S.K H a vs ∧ Reps S w.Hf w.ads vs ds := by
  rcases h with h | ⟨a, rfl, h⟩
  · cases h with
    | lst h r => exact ⟨_, _, rfl, sub.sqL h, r⟩
  · cases h with
    | lst h r => exact ⟨_, _, rfl, .inl (.inl h), r⟩
theorem View.tup {ds : List Dat} (sub : Ext w.Hf H) (h : View S w H v (.tup ds)) : ∃ a vs, v = .ref a ∧ SqT S.K H a vs ∧ Reps S w.Hf w.ads vs ds := by
  rcases h with h | ⟨a, rfl, h⟩
  · cases h with
    | tup h r => exact ⟨_, _, rfl, sub.sqT h, r⟩
  · cases h
theorem View.int {i : Int} (h : View S w H v (.int i)) : v = .int i := by
  rcases h with h | ⟨a, rfl, h⟩
  · cases h; rfl
  · cases h
theorem View.str {x : Str} (h : View S w H v (.str x)) : v = .str x := by
  rcases h with h | ⟨a, rfl, h⟩
  · cases h; rfl
  · cases h
theorem View.bl {b : Bool} (h : View S w H v (.bl b)) : v = .bl b := by
  rcases h with h | ⟨a, rfl, h⟩
  · cases h; rfl
  · cases h
theorem View.non (h : View S w H v .non) : v = .non := by
  rcases h with h | ⟨a, rfl, h⟩
  · cases h; rfl
  · cases h
theorem View.ty {m : String} (h : View S w H v (.ty m)) : v = .ty m := by
  rcases h with h | ⟨a, rfl, h⟩
  · cases h; rfl
  · cases h
theorem Reps.length : ∀ {vs : List V} {ds : List Dat}, Reps S w.Hf w.ads vs ds → vs.length = ds.length
  | _, _, .nil => rfl
  | _, _, .cons _ t => congrArg (· + 1) (Reps.length t)
theorem Reps.get : ∀ {vs : List V} {ds : List Dat} {i : Nat} {d : Dat}, Reps S w.Hf w.ads vs ds → ds[i]? = some d → ∃ v, vs[i]? = some v ∧ Rep S w.Hf w.ads v d
  | _, _, _, _, .nil, e => by simp at e
  | _, _, 0, _, .cons r t, e => by simp at e; subst e; exact ⟨_, rfl, r⟩
  | _, _, i + 1, _, .cons r t, e => by
    obtain ⟨v, h1, h2⟩ := Reps.get (i := i) t (by simpa using e)
    exact ⟨v, by simpa using h1, h2⟩
theorem Reps.getV : ∀ {vs : List V} {ds : List Dat} {i : Nat} {v : V}, Reps S w.Hf w.ads vs ds → vs[i]? = some v → ∃ d, ds[i]? = some d ∧ Rep S w.Hf w.ads v d
  | _, _, _, _, .nil, e => by simp at e
  | _, _, 0, _, .cons r t, e => by simp at e; subst e; exact ⟨_, rfl, r⟩
  | _, _, i + 1, _, .cons r t, e => by
    obtain ⟨v, h1, h2⟩ := Reps.getV (i := i) t (by simpa using e)
    exact ⟨v, by simpa using h1, h2⟩
theorem Reps.append : ∀ {vs us : List V} {ds es : List Dat}, Reps S w.Hf w.ads vs ds → Reps S w.Hf w.ads us es → Reps S w.Hf w.ads (vs ++ us) (ds ++ es)
  | _, _, _, _, .nil, q => q
  | _, _, _, _, .cons r t, q => .cons r (Reps.append t q)
theorem Reps.drop : ∀ {vs : List V} {ds : List Dat} (k : Nat), Reps S w.Hf w.ads vs ds → Reps S w.Hf w.ads (vs.drop k) (ds.drop k)
  | _, _, 0, r => r
  | _, _, _ + 1, .nil => .nil
  | _, _, k + 1, .cons _ t => Reps.drop k t
theorem Reps.take : ∀ {vs : List V} {ds : List Dat} (k : Nat), Reps S w.Hf w.ads vs ds → Reps S w.Hf w.ads (vs.take k) (ds.take k)
  | _, _, 0, _ => .nil
  | _, _, _ + 1, .nil => .nil
  | _, _, k + 1, .cons r t => .cons r (Reps.take k t)
theorem Reps.set {v : V} {d : Dat} (q : Rep S w.Hf w.ads v d) : ∀ {vs : List V} {ds : List Dat} (k : Nat), Reps S w.Hf w.ads vs ds → Reps S w.Hf w.ads (vs.set k v) (ds.set k d)
  | _, _, _, .nil => .nil
  | _, _, 0, .cons _ t => .cons q t
  | _, _, k + 1, .cons r t => .cons r (Reps.set q k t)
theorem Reps.reverse : ∀ {vs : List V} {ds : List Dat}, Reps S w.Hf w.ads vs ds → Reps S w.Hf w.ads vs.reverse ds.reverse
  | _, _, .nil => .nil
  | _, _, .cons r t => by
    rw [List.reverse_cons, List.reverse_cons]
    exact (Reps.reverse t).append (.cons r .nil)
theorem Rel.ext (R : Rel S n ς σ H w) : Ext w.Hf H := R.sub
end

section
variable {c : Ctx} {X : Cx} {pins : List (Addr × Obj)} {s s' : Shared} {σ : L2.St} {H : Hp} {w : W} {ς : St} {u : Value} {v : V} {d : Dat}
/-- a result that was there, or no object -/
theorem ne_fr (I : Inv X pins σ H s') (rv : RelV v u) (R : Rel c.toSta c.n ς σ H w) (rp : Rep c.toSta w.Hf w.ads v d) : NE c X pins σ w H (.ok (.fr d) ς) u s' :=
  ⟨v, H, w, I, rv, Fr.refl w H, R, rp⟩
/-- a new list of one's own -/
theorem ne_lst {p : Addr} {vs : List V} {ds : List Dat} (I : Inv X pins σ (upd H p (.lst vs)) s') (hp : H p = none) (R : Rel c.toSta c.n ς σ H w) (rs : Reps c.toSta w.Hf w.ads vs ds) : NE c X pins σ w H (.ok (.tp (.lst ds)) ς) (.ref p) s' := by
  obtain ⟨R', F'⟩ := R.laid (o := .lst vs) hp
  refine ⟨.ref p, _, w, I, rfl, F', R', p, rfl, hp, R.own0 p hp, ?_, .lst upd_same rs⟩
  cases q : w.Hf p with
  | none => rfl
  | some o => have := R.sub p o q; rw [hp] at this; cases this
/-- a new tuple -/
theorem ne_tup {p : Addr} {vs : List V} {ds : List Dat} (I : Inv X pins σ (upd H p (.tup vs)) s') (hp : H p = none) (R : Rel c.toSta c.n ς σ H w) (rs : Reps c.toSta w.Hf w.ads vs ds) : NE c X pins σ w H (.ok (.fr (.tup ds)) ς) (.ref p) s' := by
  obtain ⟨R', F'⟩ := R.laid (o := .tup vs) hp
  have hn : w.Hf p = none := by
    cases q : w.Hf p with
    | none => rfl
    | some o => have := R.sub p o q; rw [hp] at this; cases this
  refine ⟨.ref p, _, frz w p (.tup vs), I, rfl, F'.freeze_tmp hp hn, R'.freeze_tmp (R.own0 p hp) hn upd_same, ?_⟩
  exact .tup (.inl (.inl (by show upd w.Hf p (.tup vs) p = _; exact upd_same))) (rs.mono (frz_ext hn) fun _ _ h => h)
/-- a new dict of one's own -/
theorem ne_dicK {p : Addr} {l : List (Key × V)} {kvs : List (Dat × Dat)} (I : Inv X pins σ (upd H p (.dK l)) s') (hp : H p = none) (R : Rel c.toSta c.n ς σ H w) (rs : RepK c.toSta w.Hf w.ads l kvs) : NE c X pins σ w H (.ok (.tp (.dic kvs)) ς) (.ref p) s' := by
  obtain ⟨R', F'⟩ := R.laid (o := .dK l) hp
  refine ⟨.ref p, _, w, I, rfl, F', R', p, rfl, hp, R.own0 p hp, ?_, .dicK upd_same rs⟩
  cases q : w.Hf p with
  | none => rfl
  | some o => have := R.sub p o q; rw [hp] at this; cases this
end

/-- a two-place operation on data: f of the machine's values does g -/
def P2 (c : Ctx) (f : Value → Value → Sem Value) (g : Dat → Dat → Option ER) : Prop :=
  ∀ X, c.Ok X → ∀ (pins : List (Addr × Obj)) (s : Shared) (σ : L2.St) (H : Hp) (w : W) (ς : St) (x y : V) (u1 u2 : Value) (a b : Dat) (r : ER),
    Inv X pins σ H s → Rel c.toSta c.n ς σ H w → RelV x u1 → RelV y u2 → View c.toSta w H x a → View c.toSta w H y b → g a b = some r →
    wpAny (model X.prog X.w) X.A (f u1 u2) (NE c X pins σ w H (.ok r ς)) (fun _ _ => False) s
/-- from a rule by values -/
theorem P2.of {c : Ctx} {f : Value → Value → Sem Value} {g : Dat → Dat → Option ER}
    (h : ∀ X, c.Ok X → ∀ (pins : List (Addr × Obj)) (s : Shared) (σ : L2.St) (H : Hp) (w : W) (ς : St) (x y : V) (a b : Dat) (r : ER), Inv X pins σ H s → Rel c.toSta c.n ς σ H w → View c.toSta w H x a → View c.toSta w H y b → g a b = some r →
      ∃ (rr : R2) (Q : VK), OpR X.nox f rr ∧ rr x y H Q ∧ ∀ v H' u s', Q v H' → Inv X pins σ H' s' → RelV v u → NE c X pins σ w H (.ok r ς) u s') : P2 c f g :=
  fun X hX pins s σ H w ς x y u1 u2 a b r I R rx ry va vb e => by
    obtain ⟨rr, Q, ho, hq, k⟩ := h X hX pins s σ H w ς x y a b r I R va vb e
    exact wpAny_mono (op_any ho (E := fun _ _ => False) I rx ry hq) (fun u s' ⟨v, H', I', rv, q⟩ => k v H' u s' q I' rv) fun _ _ z => z

def opD (g : Dat → Dat → Option ER) (r1 r2 : ER) : Act ER := fun ς => match cur ς r1, cur ς r2 with
  | some a, some b => (g a b).map fun r => .ok r ς
  | _, _ => none
/-- evaluates both, then the operation -/
def op2 (g : Dat → Dat → Option ER) (fa fb : Act ER) : Act ER := fa.bnd fun r1 => fb.bnd fun r2 => opD g r1 r2

section
variable {c : Ctx} {X : Cx} {a b : Expr} {fa fb : Act ER} {pos : Pos}
theorem NE.from {pins : List (Addr × Obj)} {σ : L2.St} {w w1 : W} {H H1 : Hp} {o : Out ER} {u : Value} {s' : Shared} (F : Fr w H w1 H1) (h : NE c X pins σ w1 H1 o u s') : NE c X pins σ w H o u s' := by
  cases o with
  | ok r ς' =>
    obtain ⟨v, H', w', I, rv, F', R, ro⟩ := h
    exact ⟨v, H', w', I, rv, F.trans F', R, ro.back F.dm⟩
  | ex x ς' => exact h
/-- the frame of any syntax that evaluates two parts and then does f -/
theorem ve_two {f : Value → Value → Sem Value} {g : Dat → Dat → Option ER} (hf : P2 c f g) (ha : VE c a fa) (hb : VE c b fb) (hX : c.Ok X) {pins : List (Addr × Obj)} {s : Shared} {σ : L2.St} {H : Hp} {w : W} {ς : St} {o : Out ER}
    (ho : op2 g fa fb ς = some o) (I : Inv X pins σ H s) (R : Rel c.toSta c.n ς σ H w) (T : XT c X w H o) :
    wpAny (model X.prog X.w) X.A (eval a X.env) (fun v s₁ => wpAny (model X.prog X.w) X.A (eval b X.env) (fun u s₂ => wpAny (model X.prog X.w) X.A (f v u) (NE c X pins σ w H o) X.xe s₂) X.xe s₁) X.xe s := by
  refine ve_then ha hX I R T ho fun r1 ς1 u1 s1 v1 H1 w1 h1 I1 rv1 F1 R1 T1 ro1 => ?_
  refine ve_then hb hX I1 R1 T1 h1 fun r2 ς2 u2 s2 v2 H2 w2 h2 I2 rv2 F2 R2 T2 ro2 => ?_
  unfold opD at h2
  cases e1 : cur ς2 r1 with
  | none => rw [e1] at h2; cases h2
  | some d1 =>
    cases e2 : cur ς2 r2 with
    | none => rw [e1, e2] at h2; cases h2
    | some d2 =>
      rw [e1, e2] at h2
      simp only at h2
      cases e3 : g d1 d2 with
      | none => rw [e3] at h2; cases h2
      | some r =>
        rw [e3] at h2
        cases h2
        refine wpAny_mono (hf X hX pins s2 σ H2 w2 ς2 v1 v2 u1 u2 d1 d2 r I2 R2 rv1 rv2 (R2.view (ro1.carry F2) e1) (R2.view ro2 e2) e3) (fun u s' z => NE.from (F1.trans F2) z) fun _ _ z => z.elim
theorem ve_binop {op : Operator} {g : Dat → Dat → Option ER} (hf : P2 c (binaryOp op) g) (ha : VE c a fa) (hb : VE c b fb) : VE c (.BinOp a op b pos) (op2 g fa fb) :=
  fun X hX pins s σ H w ς o ho I R T => wpAny_BinOp (ve_two hf ha hb hX ho I R T)
theorem ve_cmp {op : CmpOp} {g : Dat → Dat → Option ER} (hf : P2 c (compareOp op) g) (ha : VE c a fa) (hb : VE c b fb) (hm : behindInMarks op b = false) : VE c (.Compare a [op] [b] pos) (op2 g fa fb) :=
  fun X hX pins s σ H w ς o ho I R T => wpAny_Compare1 (ve_two hf ha hb hX ho I R T) hm
/-- a constant -/
def cst (d : Dat) : Act ER := Act.ret (.fr d)
theorem ve_pe {e : Expr} {d : Dat} {v : V} (h : ∀ X : Cx, PE X e (tC v)) (rp : ∀ S Hf ads, Rep S Hf ads v d) : VE c e (cst d) := fun X hX pins s σ H w ς o ho I R T => by
  cases ho
  refine wpAny_mono ((h X.nox).run pins s σ H (fun v' H' => v' = v ∧ H' = H) (I.wish _) ⟨rfl, rfl⟩) (fun u s' ⟨v', H', I', rv, e1, e2⟩ => ?_) fun _ _ z => False.elim z
  subst e1; subst e2
  exact ne_fr I'.unwish rv R (rp _ _ _)
theorem ve_int {i j pos} : VE c (.Constant (.int i) j pos) (cst (.int i)) := ve_pe (v := .int i) (fun X => pe_int) fun _ _ _ => .int i
theorem ve_str {x j pos} : VE c (.Constant (.str x) j pos) (cst (.str x)) := ve_pe (v := .str x) (fun X => pe_str) fun _ _ _ => .str x
theorem ve_bl {b j pos} : VE c (.Constant (.bool b) j pos) (cst (.bl b)) := ve_pe (v := .bl b) (fun X => pe_bl) fun _ _ _ => .bl b
theorem ve_non {j pos} : VE c (.Constant .none j pos) (cst .non) := ve_pe (v := .non) (fun X => pe_non) fun _ _ _ => .non
/-- a name -/
def var (i : Nat) : Act ER := fun ς => match ς.sl[i]? with
  | some (some (.fr d)) => some (.ok (.fr d) ς)
  | some (some (.ow d)) => some (.ok (.sl i) ς)
  | _ => none
theorem ve_var {i : Nat} {x : Str} (hN : c.N[i]? = some x) (hv : Vis c.sc x) (hd : (x == ("__debug__" : Str)) = false) (hcd : (x == ("__classdict__" : Str)) = false) : VE c (.Name x pos) (var i) := fun X hX pins s σ H w ς o ho I R T => by
  have run : ∀ (v : V), σ[i]? = some (some v) → wpAny (model X.prog X.w) X.A (eval (.Name x pos) X.env) (fun u s' => Inv X pins σ H s' ∧ RelV v u) (fun _ _ => False) s := fun v e => by
    have g := (pe_var (X := X.nox) (pos := pos) (by show X.N[i]? = _; rw [hX.N]; exact hN) (by show Vis X.env.scope x; rw [hX.sc]; exact hv) hd hcd).run pins s σ H (fun v' H' => v' = v ∧ H' = H) (I.wish _) ⟨v, e, rfl, rfl⟩
    refine wpAny_mono g (fun u s' ⟨v', H', I', rv, e1, e2⟩ => ?_) fun _ _ z => z
    subst e1; subst e2
    exact ⟨I'.unwish, rv⟩
  unfold var at ho
  split at ho
  · rename_i d e
    cases ho
    obtain ⟨v, e1, e2⟩ := R.slots _ _ e
    exact wpAny_mono (run v e1) (fun u s' ⟨I', rv⟩ => ne_fr I' rv R e2) fun _ _ z => z.elim
  · rename_i d e
    cases ho
    obtain ⟨v, e1, e2⟩ := R.slots _ _ e
    exact wpAny_mono (run v e1) (fun u s' ⟨I', rv⟩ => ⟨v, H, w, I', rv, Fr.refl w H, R, e1⟩) fun _ _ z => z.elim
  · cases ho
end

/-! ### operations on data -/
def intC (f : Int → Int → Dat) (C : Int → Int → Bool) : Dat → Dat → Option ER
  | .int i, .int j => if C i j = true then some (.fr (f i j)) else none
  | _, _ => none
theorem p2_int {c : Ctx} {op : Value → Value → Sem Value} {C : Int → Int → Prop} {f : Int → Int → V} {f' : Int → Int → Dat} {Cb : Int → Int → Bool} (h : ∀ X : Cx, OpR X op (rI C f)) (hc : ∀ i j, Cb i j = true → C i j) (hf : ∀ S Hf ads i j, Rep S Hf ads (f i j) (f' i j)) : P2 c op (intC f' Cb) :=
  P2.of fun X hX pins s σ H w ς x y a b r I R va vb e => by
    unfold intC at e
    split at e
    · rename_i i j
      split at e
      · rename_i hcc
        cases e
        obtain rfl := va.int
        obtain rfl := vb.int
        refine ⟨_, fun v H' => v = f i j ∧ H' = H, h X.nox, ⟨i, j, rfl, rfl, hc i j hcc, rfl, rfl⟩, fun v H' u s' ⟨e1, e2⟩ I' rv => ?_⟩
        subst e1; subst e2
        exact ne_fr I' rv R (hf _ _ _ i j)
      · cases e
    · cases e
theorem rI0_rI {X : Cx} {op : Value → Value → Sem Value} {f : Int → Int → V} (h : OpR X op (rI0 f)) : OpR X op (rI (fun _ _ => True) f) := fun pins s σ H x y v u Q I rx ry ⟨i, j, e1, e2, _, q⟩ => h pins s σ H x y v u Q I rx ry ⟨i, j, e1, e2, q⟩
def yes2 : Int → Int → Bool := fun _ _ => true
/-- one of several operations -/
theorem P2.alt {c : Ctx} {f : Value → Value → Sem Value} {g g' : Dat → Dat → Option ER} (h : P2 c f g) (h' : P2 c f g') : P2 c f (fun a b => match g a b with | some r => some r | none => g' a b) :=
  fun X hX pins s σ H w ς x y u1 u2 a b r I R rx ry va vb e => by
    cases q : g a b with
    | some r' => simp only [q] at e; cases e; exact h X hX pins s σ H w ς x y u1 u2 a b r I R rx ry va vb q
    | none => simp only [q] at e; exact h' X hX pins s σ H w ς x y u1 u2 a b r I R rx ry va vb e
section
variable {c : Ctx}
theorem p2_add_int : P2 c (binaryOp .Add) (intC (fun i j => .int (i + j)) yes2) := p2_int (fun X => rI0_rI op_add) (fun _ _ _ => trivial) fun _ _ _ _ _ => .int _
theorem p2_sub_int : P2 c (binaryOp .Sub) (intC (fun i j => .int (i - j)) yes2) := p2_int (fun X => rI0_rI op_sub) (fun _ _ _ => trivial) fun _ _ _ _ _ => .int _
def mulC (i j : Int) : Bool := decide (-(2 ^ 64) < i ∧ i < 2 ^ 64) || decide (-(2 ^ 64) < j ∧ j < 2 ^ 64)
theorem p2_mul_int : P2 c (binaryOp .Mult) (intC (fun i j => .int (i * j)) mulC) := p2_int (fun X => op_mul) (fun i j h => by
  unfold mulC at h
  rcases Bool.or_eq_true _ _ ▸ h with h | h
  · exact .inl (of_decide_eq_true h)
  · exact .inr (of_decide_eq_true h)) fun _ _ _ _ _ => .int _
def divC (i j : Int) : Bool := decide (0 < j ∧ j < 2 ^ 256)
theorem op_fdivG {X : Cx} : OpR X (binaryOp .FloorDiv) (rI (fun _ j => 0 < j ∧ j < 2 ^ 256) fun i j => .int (i / j)) := opI fun i j _ _ _ _ _ hc q => by
  have h1 : (0 : Int) < j := hc.1
  have h2 : j < 2 ^ 256 := hc.2
  refine floordiv_int (by omega) (by rw [Int.fdiv_eq_ediv_of_nonneg i (by omega)]; exact q) (.inl (PyProof.noPylong_of_log2 ?_))
  have h3 : j.natAbs.log2 < 256 := (Nat.log2_lt (by omega)).mpr (by omega)
  omega
theorem p2_fdiv_int : P2 c (binaryOp .FloorDiv) (intC (fun i j => .int (i / j)) divC) := p2_int (fun X => op_fdivG) (fun i j h => of_decide_eq_true (p := 0 < j ∧ j < 2 ^ 256) h) fun _ _ _ _ _ => .int _
def modC (i j : Int) : Bool := decide (0 < j)
theorem p2_mod_int : P2 c (binaryOp .Mod) (intC (fun i j => .int (i % j)) modC) := p2_int (fun X => op_mod) (fun i j h => of_decide_eq_true h) fun _ _ _ _ _ => .int _
def powC (i j : Int) : Bool := decide (0 ≤ j ∧ j ≤ 1000000 ∧ i.natAbs < 2 ^ 64)
theorem p2_pow_int : P2 c (binaryOp .Pow) (intC (fun i j => .int (i ^ j.toNat)) powC) := p2_int (fun X => op_pow) (fun i j h => of_decide_eq_true (p := 0 ≤ j ∧ j ≤ 1000000 ∧ i.natAbs < 2 ^ 64) h) fun _ _ _ _ _ => .int _
theorem p2_shl_int : P2 c (binaryOp .LShift) (intC (fun i j => .int (i * 2 ^ j.toNat)) powC) := p2_int (fun X => op_shl) (fun i j h => of_decide_eq_true (p := 0 ≤ j ∧ j ≤ 1000000 ∧ i.natAbs < 2 ^ 64) h) fun _ _ _ _ _ => .int _
def shrC (i j : Int) : Bool := decide (0 ≤ j)
theorem p2_shr_int : P2 c (binaryOp .RShift) (intC (fun i j => .int (i / 2 ^ j.toNat)) shrC) := p2_int (fun X => op_shr) (fun i j h => of_decide_eq_true h) fun _ _ _ _ _ => .int _
theorem p2_and_int : P2 c (binaryOp .BitAnd) (intC (fun i j => .int (Builtin.bitAnd i j)) yes2) := p2_int (fun X => rI0_rI op_and) (fun _ _ _ => trivial) fun _ _ _ _ _ => .int _
theorem p2_or_int : P2 c (binaryOp .BitOr) (intC (fun i j => .int (Builtin.bitOr i j)) yes2) := p2_int (fun X => rI0_rI op_or) (fun _ _ _ => trivial) fun _ _ _ _ _ => .int _
theorem p2_xor_int : P2 c (binaryOp .BitXor) (intC (fun i j => .int (Builtin.bitXor i j)) yes2) := p2_int (fun X => rI0_rI op_xor) (fun _ _ _ => trivial) fun _ _ _ _ _ => .int _
theorem p2_lt_int : P2 c (compareOp .Lt) (intC (fun i j => .bl (decide (i < j))) yes2) := p2_int (fun X => rI0_rI op_lt) (fun _ _ _ => trivial) fun _ _ _ _ _ => .bl _
theorem p2_le_int : P2 c (compareOp .LtE) (intC (fun i j => .bl (decide (i ≤ j))) yes2) := p2_int (fun X => rI0_rI op_le) (fun _ _ _ => trivial) fun _ _ _ _ _ => .bl _
theorem p2_gt_int : P2 c (compareOp .Gt) (intC (fun i j => .bl (decide (j < i))) yes2) := p2_int (fun X => rI0_rI op_gt) (fun _ _ _ => trivial) fun _ _ _ _ _ => .bl _
theorem p2_ge_int : P2 c (compareOp .GtE) (intC (fun i j => .bl (decide (j ≤ i))) yes2) := p2_int (fun X => rI0_rI op_ge) (fun _ _ _ => trivial) fun _ _ _ _ _ => .bl _

/-- texts one behind the other -/
def strCat : Dat → Dat → Option ER
  | .str x, .str y => if x.length + y.length ≤ sizeLine then some (.fr (.str (x ++ y))) else none
  | _, _ => none
theorem p2_add_str : P2 c (binaryOp .Add) strCat := P2.of fun X hX pins s σ H w ς x y a b r I R va vb e => by
  unfold strCat at e
  split at e
  · rename_i i j
    split at e
    · rename_i hz
      cases e
      obtain rfl := va.str
      obtain rfl := vb.str
      refine ⟨_, fun v H' => v = .str (i ++ j) ∧ H' = H, op_add_str, ⟨i, j, rfl, rfl, hz, rfl, rfl⟩, fun v H' u s' ⟨e1, e2⟩ I' rv => ?_⟩
      subst e1; subst e2
      exact ne_fr I' rv R (.str _)
    · cases e
  · cases e
/-- lists one behind the other -/
theorem op_catG {X : Cx} : OpR X (binaryOp .Add) (fun x y H Q => ∃ l b xs zs, x = .ref l ∧ y = .ref b ∧ SqL X.K H l xs ∧ SqL X.K H b zs ∧ xs.length + zs.length ≤ sizeLine ∧ ∀ p, H p = none → Q (.ref p) (upd H p (.lst (xs ++ zs)))) := by
  intro pins s σ H x y v u Q I rx ry h
  obtain ⟨l, b, xs, zs, rfl, rfl, hH, hB, hz, q⟩ := h
  cases rx
  cases ry
  obtain ⟨its, r, p1, _⟩ := I.list hH
  obtain ⟨its2, r2, p2, _⟩ := I.list hB
  have hl := r.length
  have hl2 := r2.length
  obtain ⟨⟨cls, dd, data, sl⟩, ho, hc, n, hd⟩ := p1.isList
  obtain ⟨⟨cls2, dd2, data2, sl2⟩, ho2, hc2, n2, hd2⟩ := p2.isList
  simp only at hc hd hc2 hd2
  subst hc hd hc2 hd2
  have ea : its.toArray ++ its2.toArray = (its ++ its2).toArray := by simp
  refine concat_meets ⟨_, ho, rfl⟩ ⟨_, ho2, rfl⟩ noFill_list_add seq_list_add PySem.F.slot_list_add PySem.F.entry_list_add (PySem.F.args_list_add_2 _ _) (list_addW l b its.toArray its2.toArray n n2 dd dd2 sl sl2 (by rw [List.size_toArray, List.size_toArray]; omega)) ⟨ho, ho2, ?_⟩
  rw [ea]
  exact ⟨.ref _, _, I.lnew (t' := s.toks) (r.append r2) (by rw [List.length_append]; omega), rfl, q _ I.fresh⟩
def lstCat : Dat → Dat → Option ER
  | .lst x, .lst y => if x.length + y.length ≤ sizeLine then some (.tp (.lst (x ++ y))) else none
  | _, _ => none
theorem p2_add_lst : P2 c (binaryOp .Add) lstCat := P2.of fun X hX pins s σ H w ς x y a b r I R va vb e => by
  unfold lstCat at e
  split at e
  · rename_i i j
    split at e
    · rename_i hz
      cases e
      obtain ⟨a, vs, rfl, ha, ra⟩ := va.lst R.sub
      obtain ⟨b, us, rfl, hb, rb⟩ := vb.lst R.sub
      refine ⟨_, fun v H' => ∃ p, v = .ref p ∧ H p = none ∧ H' = upd H p (.lst (vs ++ us)), op_catG, ⟨a, b, vs, us, rfl, rfl, by show SqL X.K H a vs; rw [hX.K]; exact ha, by show SqL X.K H b us; rw [hX.K]; exact hb, by rw [ra.length, rb.length]; exact hz, fun p hp => ⟨p, rfl, hp, rfl⟩⟩, fun v H' u s' ⟨p, e1, hp, e2⟩ I' rv => ?_⟩
      subst e1; subst e2
      cases rv
      exact ne_lst I' hp R (ra.append rb)
    · cases e
  · cases e
end
end VS

namespace VS
open PySem L2 PyProof.Rows

section
variable {c : Ctx} {X : Cx} {a b : Expr} {fa fb fc : Act ER} {pos : Pos}
theorem Ctx.Ok.hu (h : c.Ok X) : X.A.units + 64 < cLine := h.room.units
theorem Ctx.Ok.nox (h : c.Ok X) : c.Ok X.nox := ⟨h.prog, h.w, h.K, h.mg, h.base, h.N, h.sc, h.nd, h.calm, h.room, h.fnn, PassesOwn.never⟩

/-! ### more operations -/
/-- == of data -/
def eqP (a b : Dat) : Option Bool := match toPy a, toPy b with
  | some p, some q => if SeqAt.shaped p && SeqAt.shaped q then some (PyData.eqv p q) else none
  | _, _ => none
def scD : Dat → Dat → Option Bool
  | .int i, .int j => some (decide (i = j))
  | .str x, .str y => some (decide (x = y))
  | .bl x, .bl y => some (decide (x = y))
  | .non, .non => some true
  | .non, .int _ => some false
  | .int _, .non => some false
  | .non, .bl _ => some false
  | .bl _, .non => some false
  | .non, .str _ => some false
  | .str _, .non => some false
  | .int _, .str _ => some false
  | .str _, .int _ => some false
  | .bl _, .str _ => some false
  | .str _, .bl _ => some false
  | _, _ => none
def eqD (a b : Dat) : Option Bool := match scD a b with
  | some k => some k
  | none => eqP a b
def eqE (a b : Dat) : Option ER := (eqD a b).map fun k => .fr (.bl k)
def neE (a b : Dat) : Option ER := (eqD a b).map fun k => .fr (.bl (!k))
def toV : Dat → Option V
  | .non => some .non
  | .bl b => some (.bl b)
  | .int i => some (.int i)
  | .str x => some (.str x)
  | _ => none
theorem View.sc {S : Sta} {w : W} {H : Hp} {v : V} {d : Dat} {x : V} (h : View S w H v d) (e : toV d = some x) : v = x := by
  cases d <;> cases e
  · exact h.non
  · exact h.bl
  · exact h.int
  · exact h.str
theorem scD_ok {a b : Dat} {k : Bool} (h : scD a b = some k) : ∃ x y, toV a = some x ∧ toV b = some y ∧ scal x y = true ∧ decide (x = y) = k := by
  unfold scD at h
  split at h <;> cases h <;> exact ⟨_, _, rfl, rfl, rfl, by simp⟩
theorem p2_eq : P2 c (compareOp .Eq) eqE := P2.of fun X hX pins s σ H w ς x y a b r I R va vb e => by
  unfold eqE eqD at e
  cases q : scD a b with
  | some k =>
    rw [q] at e
    cases e
    obtain ⟨x', y', e1, e2, e3, e4⟩ := scD_ok q
    obtain rfl := va.sc e1
    obtain rfl := vb.sc e2
    refine ⟨_, fun v H' => v = .bl k ∧ H' = H, op_eq, ⟨e3, by rw [e4], rfl⟩, fun v H' u s' ⟨e1, e2⟩ I' rv => ?_⟩
    subst e1; subst e2
    exact ne_fr I' rv R (.bl _)
  | none =>
    rw [q] at e
    simp only at e
    unfold eqP at e
    split at e
    · rename_i p q' e1 e2
      split at e
      · rename_i hs
        cases e
        rw [Bool.and_eq_true] at hs
        refine ⟨_, fun v H' => v = .bl (PyData.eqv p q') ∧ H' = H, op_eqD hX.hu, ⟨p, q', by show Dp X.K _ _ _; rw [hX.K]; exact va.dp R.sub e1, by show Dp X.K _ _ _; rw [hX.K]; exact vb.dp R.sub e2, hs.1, hs.2, rfl, rfl⟩, fun v H' u s' ⟨e1, e2⟩ I' rv => ?_⟩
        subst e1; subst e2
        exact ne_fr I' rv R (.bl _)
      · cases e
    · cases e
theorem p2_ne : P2 c (compareOp .NotEq) neE := P2.of fun X hX pins s σ H w ς x y a b r I R va vb e => by
  unfold neE eqD at e
  cases q : scD a b with
  | some k =>
    rw [q] at e
    cases e
    obtain ⟨x', y', e1, e2, e3, e4⟩ := scD_ok q
    obtain rfl := va.sc e1
    obtain rfl := vb.sc e2
    refine ⟨_, fun v H' => v = .bl (!k) ∧ H' = H, op_ne, ⟨e3, by rw [e4], rfl⟩, fun v H' u s' ⟨e1, e2⟩ I' rv => ?_⟩
    subst e1; subst e2
    exact ne_fr I' rv R (.bl _)
  | none =>
    rw [q] at e
    simp only at e
    unfold eqP at e
    split at e
    · rename_i p q' e1 e2
      split at e
      · rename_i hs
        cases e
        rw [Bool.and_eq_true] at hs
        refine ⟨_, fun v H' => v = .bl (!PyData.eqv p q') ∧ H' = H, op_neD hX.hu, ⟨p, q', by show Dp X.K _ _ _; rw [hX.K]; exact va.dp R.sub e1, by show Dp X.K _ _ _; rw [hX.K]; exact vb.dp R.sub e2, hs.1, hs.2, rfl, rfl⟩, fun v H' u s' ⟨e1, e2⟩ I' rv => ?_⟩
        subst e1; subst e2
        exact ne_fr I' rv R (.bl _)
      · cases e
    · cases e
/-- is None -/
def isNonD : Dat → Bool
  | .non => true
  | _ => false
def isE (a b : Dat) : Option ER := match b with
  | .non => some (.fr (.bl (isNonD a)))
  | _ => none
def isntE (a b : Dat) : Option ER := match b with
  | .non => some (.fr (.bl (!isNonD a)))
  | _ => none
theorem View.isNon {S : Sta} {w : W} {H : Hp} {v : V} {d : Dat} (h : View S w H v d) : decide (v = .non) = isNonD d := by
  rcases h with h | ⟨a, rfl, h⟩
  · cases h <;> rfl
  · cases h <;> rfl
theorem p2_is : P2 c (compareOp .Is) isE := P2.of fun X hX pins s σ H w ς x y a b r I R va vb e => by
  unfold isE at e
  split at e
  · cases e
    obtain rfl := vb.non
    refine ⟨_, fun v H' => v = .bl (isNonD a) ∧ H' = H, op_isN, ⟨rfl, by rw [va.isNon], rfl⟩, fun v H' u s' ⟨e1, e2⟩ I' rv => ?_⟩
    subst e1; subst e2
    exact ne_fr I' rv R (.bl _)
  · cases e
theorem p2_isnt : P2 c (compareOp .IsNot) isntE := P2.of fun X hX pins s σ H w ς x y a b r I R va vb e => by
  unfold isntE at e
  split at e
  · cases e
    obtain rfl := vb.non
    refine ⟨_, fun v H' => v = .bl (!isNonD a) ∧ H' = H, op_notN, ⟨rfl, by rw [va.isNon], rfl⟩, fun v H' u s' ⟨e1, e2⟩ I' rv => ?_⟩
    subst e1; subst e2
    exact ne_fr I' rv R (.bl _)
  · cases e

/-- in lists, tuples of data -/
theorem op_inD {X : Cx} (hu : X.A.units + 100 < cLine) (neg : Bool) : OpR X (compareOp (if neg then .NotIn else .In)) (fun x y H Q => ∃ d ps, Dp X.K H x d ∧ (Dp X.K H y (.list ps) ∨ Dp X.K H y (.tuple ps)) ∧ SeqAt.shaped d = true ∧ PyData.canLayAll0 ps = true ∧
    Q (.bl (if neg then !(ps.any fun y => PyData.eqv y d) else ps.any fun y => PyData.eqv y d)) H) := by
  intro pins s σ H x y v u Q I rx ry h
  obtain ⟨d, ps, hd, hp, sd, sp, q⟩ := h
  obtain ⟨bs, rd⟩ := Dp.reads I d x v hd rx
  have h1 := SeqAt.canLay_of_shaped sd
  have h2 := SeqAt.depth_of_shaped sd
  have hum : X.A.units + 1 + min (PyData.depthAll ps) d.depth < cLine := by
    have : min (PyData.depthAll ps) d.depth ≤ d.depth := Nat.min_le_right _ _
    omega
  rcases hp with hp | hp
  · obtain ⟨as, rp⟩ := Dp.reads I (.list ps) y u hp ry
    cases neg with
    | false => exact SeqAt.in_list_reads rp rd sp h1 hum ⟨.bl _, H, I, rfl, q⟩
    | true => exact SeqAt.notIn_list_reads rp rd sp h1 hum ⟨.bl _, H, I, rfl, q⟩
  · obtain ⟨as, rp⟩ := Dp.reads I (.tuple ps) y u hp ry
    cases neg with
    | false => exact SeqAt.in_tuple_reads rp rd sp h1 hum ⟨.bl _, H, I, rfl, q⟩
    | true => exact SeqAt.notIn_tuple_reads rp rd sp h1 hum ⟨.bl _, H, I, rfl, q⟩

theorem Ctx.Ok.hu100 (h : c.Ok X) : X.A.units + 100 < cLine := by have := h.room.un; omega
/-- x in y, for lists and tuples of data, one sign in a text, a text in a text -/
def memP (a : Dat) (ds : List Dat) : Option Bool := match toPy a, toPys ds with
  | some d, some ps => if SeqAt.shaped d && PyData.canLayAll0 ps then some (ps.any fun y => PyData.eqv y d) else none
  | _, _ => none
def memD : Dat → Dat → Option Bool
  | a, .lst ds => memP a ds
  | a, .tup ds => memP a ds
  | _, _ => none
def memS : Dat → Dat → Option Bool
  | .str x, .str y => if x.cps.size = 1 then some (decide (x.cps.getD 0 0 ∈ y.cps.toList)) else none
  | _, _ => none
def inE (neg : Bool) (f : Dat → Dat → Option Bool) (a b : Dat) : Option ER := (f a b).map fun k => .fr (.bl (if neg then !k else k))
theorem p2_memD (neg : Bool) : P2 c (compareOp (if neg then .NotIn else .In)) (inE neg memD) := P2.of fun X hX pins s σ H w ς x y a b r I R va vb e => by
  unfold inE at e
  cases q : memD a b with
  | none => rw [q] at e; cases e
  | some k =>
    rw [q] at e
    cases e
    have go : ∀ (ds : List Dat), (∀ ps, toPys ds = some ps → Dp X.K H y (.list ps) ∨ Dp X.K H y (.tuple ps)) → memP a ds = some k →
        ∃ (rr : R2) (Q : VK), OpR X.nox (compareOp (if neg then .NotIn else .In)) rr ∧ rr x y H Q ∧ ∀ v H' u s', Q v H' → Inv X pins σ H' s' → RelV v u → NE c X pins σ w H (.ok (.fr (.bl (if neg then !k else k))) ς) u s' := fun ds hp e => by
      unfold memP at e
      split at e
      · rename_i d ps e1 e2
        split at e
        · rename_i hs
          rw [Bool.and_eq_true] at hs
          have e := Option.some.inj e
          refine ⟨_, fun v H' => v = .bl (if neg then !k else k) ∧ H' = H, op_inD (X := X.nox) hX.hu100 neg, ⟨d, ps, by show Dp X.K _ _ _; rw [hX.K]; exact va.dp R.sub e1, hp ps e2, hs.1, hs.2, by rw [e], rfl⟩, fun v H' u s' ⟨e1, e2⟩ I' rv => ?_⟩
          subst e1; subst e2
          exact ne_fr I' rv R (.bl _)
        · cases e
      · cases e
    unfold memD at q
    split at q
    · rename_i a' ds
      refine go ds (fun ps hps => .inl ?_) q
      rw [hX.K]
      exact vb.dp R.sub (by unfold toPy; rw [hps]; rfl)
    · rename_i a' ds
      refine go ds (fun ps hps => .inr ?_) q
      rw [hX.K]
      exact vb.dp R.sub (by unfold toPy; rw [hps]; rfl)
    · cases q
theorem str_one {x : Str} (h : x.cps.size = 1) : x = ⟨#[x.cps.getD 0 0]⟩ := by
  obtain ⟨⟨l⟩⟩ := x
  match l, h with
  | [a], _ => rfl
theorem p2_memS (neg : Bool) : P2 c (compareOp (if neg then .NotIn else .In)) (inE neg memS) := P2.of fun X hX pins s σ H w ς x y a b r I R va vb e => by
  unfold inE at e
  cases q : memS a b with
  | none => rw [q] at e; cases e
  | some k =>
    rw [q] at e
    cases e
    unfold memS at q
    split at q
    · rename_i x' y'
      split at q
      · rename_i h1
        have q := Option.some.inj q
        obtain rfl := va.str
        obtain rfl := vb.str
        cases neg with
        | false =>
          refine ⟨_, fun v H' => v = .bl k ∧ H' = H, op_in_sign, ⟨x'.cps.getD 0 0, y', congrArg V.str (str_one h1), rfl, by rw [q], rfl⟩, fun v H' u s' ⟨e1, e2⟩ I' rv => ?_⟩
          subst e1; subst e2
          exact ne_fr I' rv R (.bl _)
        | true =>
          refine ⟨_, fun v H' => v = .bl (!k) ∧ H' = H, op_notIn_sign, ⟨x'.cps.getD 0 0, y', congrArg V.str (str_one h1), rfl, by rw [q], rfl⟩, fun v H' u s' ⟨e1, e2⟩ I' rv => ?_⟩
          subst e1; subst e2
          exact ne_fr I' rv R (.bl _)
      · cases q
    · cases q

/-! ### dicts -/
def keyD : Dat → Option Key
  | .int i => some (.inl i)
  | .str x => some (.inr x)
  | _ => none
theorem keyD_kD (k : Key) : keyD (kD k) = some k := by cases k <;> rfl
theorem keyD_some {d : Dat} {k : Key} (h : keyD d = some k) : d = kD k := by
  cases d <;> cases h <;> rfl
def keysD : List Dat → Option (List Key)
  | [] => some []
  | d :: ds => match keyD d, keysD ds with
    | some k, some ks => some (k :: ks)
    | _, _ => none
def tkeyD : Dat → Option (List Key)
  | .tup ds => keysD ds
  | _ => none
/-- equal keys (ints, texts, tuples of these) -/
def keqD (a b : Dat) : Bool := match a, b with
  | .int i, .int j => decide (i = j)
  | .str x, .str y => decide (x = y)
  | .tup xs, .tup ys => match keysD xs, keysD ys with
    | some k, some l => decide (k = l)
    | _, _ => false
  | _, _ => false
def getD (kvs : List (Dat × Dat)) (k : Dat) : Option Dat := match kvs with
  | [] => none
  | (q, d) :: r => if keqD q k then some d else getD r k
def keyOk (k : Dat) : Bool := (keyD k).isSome || (tkeyD k).isSome
end
end VS

namespace VS
open PySem L2 PyProof.Rows

/-! ### tests -/
def truD : Dat → Option Bool
  | .non => some false
  | .bl b => some b
  | .int i => some (i != 0)
  | .str x => if x.length ≤ sizeLine then some ((x.length : Int) != 0) else none
  | .lst ds => some (!ds.isEmpty)
  | .tup ds => some (!ds.isEmpty)
  | _ => none
def truA (r : ER) : Act Bool := fun ς => ((cur ς r).bind truD).map fun b => .ok b ς
def testA (f : Act ER) : Act Bool := f.bnd truA
section
variable {S : Sta} {n : Shp} {ς ς' : St} {σ : L2.St} {H H' Hs : Hp} {w w0 w' : W} {v : V} {d : Dat} {r : ER}
theorem Reps.isEmpty {vs : List V} {ds : List Dat} (h : Reps S w.Hf w.ads vs ds) : vs.isEmpty = ds.isEmpty := by cases h <;> rfl
theorem View.tru {b : Bool} (sub : Ext w.Hf H) (h : View S w H v d) (e : truD d = some b) : TruV S.K v H b := by
  unfold truD at e
  split at e
  · cases e; obtain rfl := h.non; rfl
  · cases e; obtain rfl := h.bl; rfl
  · cases e; obtain rfl := h.int; rfl
  · split at e
    · rename_i hz
      cases e; obtain rfl := h.str; exact ⟨hz, rfl⟩
    · cases e
  · cases e
    obtain ⟨a, vs, rfl, h1, h2⟩ := h.lst sub
    exact .inl ⟨vs, h1, by rw [h2.isEmpty]⟩
  · cases e
    obtain ⟨a, vs, rfl, h1, h2⟩ := h.tup sub
    exact .inr (.inl ⟨vs, h1, by rw [h2.isEmpty]⟩)
  · cases e
end
section
variable {c : Ctx} {X : Cx} {a b : Expr} {fa fb fc : Act ER} {pos : Pos}
theorem truthy_run (hX : c.Ok X) {pins : List (Addr × Obj)} {s : Shared} {σ : L2.St} {H Hs : Hp} {w w0 : W} {ς : St} {o : Out Bool} {r : ER} {v : V} {u : Value} (ho : truA r ς = some o) (I : Inv X pins σ H s) (R : Rel c.toSta c.n ς σ H w) (F : Fr w0 Hs w H) (rv : RelV v u) (ro : ResOk c.toSta w Hs H σ v r) :
    wpAny (model X.prog X.w) X.A (truthy u) (NT c X pins σ w0 Hs o) X.xe s := by
  unfold truA at ho
  cases e : cur ς r with
  | none => rw [e] at ho; cases ho
  | some d =>
    rw [e] at ho
    cases e2 : truD d with
    | none => simp only [Option.bind_some, e2] at ho; cases ho
    | some b =>
      simp only [Option.bind_some, e2] at ho
      cases ho
      have tv := (R.view ro e).tru R.sub e2
      exact wpAny_mono (tru_ok pins s σ H v u (fun b' H' => b' = b ∧ H' = H) I rv ⟨b, by rw [hX.K]; exact tv, rfl, rfl⟩) (fun b' s' ⟨H', I', z1, z2⟩ => by subst z1; subst z2; exact ⟨rfl, _, w, I', F, R⟩) fun _ _ z => z
/-- a value as a test -/
theorem vt_plain {e : Expr} {f : Act ER} (h : VE c e f) (hb : ∀ op es p, e ≠ .BoolOp op es p) (he : ∀ (env : Env) (whole : Sem Value), isTrue e env whole = (do let v ← whole; standAt e.pos; holding [v] (truthy v))) : VT c e (testA f) := fun X hX whole pins s σ H w ς o ho I R T hw => by
  obtain rfl : whole = eval e X.env := by
    rcases hw with q | ⟨op, es, p, q⟩
    · exact q
    · exact absurd q (hb _ _ _)
  exact isTrue_plain (ve_then h hX I R T ho fun r ς1 u s1 v H1 w1 h1 I1 rv F1 R1 T1 ro => truthy_run hX h1 I1 R1 F1 rv ro) (he _ _)
theorem vt_cmp {op : CmpOp} {g : Dat → Dat → Option ER} (hf : P2 c (compareOp op) g) (ha : VE c a fa) (hb : VE c b fb) (hm : behindInMarks op b = false) : VT c (.Compare a [op] [b] pos) (testA (op2 g fa fb)) := fun X hX whole pins s σ H w ς o ho I R T hw => by
  refine wpAny_isTrue_Compare1 ?_ hm
  unfold testA Act.bnd at ho
  cases q : op2 g fa fb ς with
  | none => rw [q] at ho; cases ho
  | some o1 =>
    rw [q] at ho
    cases o1 with
    | ok r ς1 =>
      have k := ve_two hf ha hb hX q I R (by trivial)
      exact wpAny_mono k (fun v s1 h1 => wpAny_mono h1 (fun u s2 h2 => wpAny_mono h2 (fun c s3 h3 => by
        obtain ⟨v3, H3, w3, I3, rv3, F3, R3, ro3⟩ := h3
        exact truthy_run hX ho I3 R3 F3 rv3 ro3) fun _ _ z => z) fun _ _ z => z) fun _ _ z => z
    | ex x ς1 =>
      cases ho
      have k := ve_two hf ha hb hX q I R T
      exact wpAny_mono k (fun v s1 h1 => wpAny_mono h1 (fun u s2 h2 => wpAny_mono h2 (fun c s3 h3 => h3.elim) fun _ _ z => z) fun _ _ z => z) fun _ _ z => z
theorem NT.from {pins : List (Addr × Obj)} {σ : L2.St} {w w1 : W} {H H1 : Hp} {o : Out Bool} {b : Bool} {s' : Shared} (F : Fr w H w1 H1) (h : NT c X pins σ w1 H1 o b s') : NT c X pins σ w H o b s' := by
  cases o with
  | ok b' ς' =>
    obtain ⟨e, H', w', I, F', R⟩ := h
    exact ⟨e, H', w', I, F.trans F', R⟩
  | ex x ς' => exact h
theorem vt_and_nil : VT c (.BoolOp .And [] pos) (Act.ret true) := fun X hX whole pins s σ H w ς o ho I R T hw => by
  cases ho
  exact isTrue_and_nil ⟨rfl, H, w, I, Fr.refl _ _, R⟩
theorem vt_or_nil : VT c (.BoolOp .Or [] pos) (Act.ret false) := fun X hX whole pins s σ H w ς o ho I R T hw => by
  cases ho
  exact isTrue_or_nil ⟨rfl, H, w, I, Fr.refl _ _, R⟩
def andA (f g : Act Bool) : Act Bool := f.bnd fun b => if b = true then g else Act.ret false
def orA (f g : Act Bool) : Act Bool := f.bnd fun b => if b = true then Act.ret true else g
def notA (f : Act Bool) : Act Bool := f.bnd fun b => Act.ret (!b)
theorem vt_and {rest : List Expr} {f g : Act Bool} (ha : VT c a f) (hr : VT c (.BoolOp .And rest pos) g) : VT c (.BoolOp .And (a :: rest) pos) (andA f g) := fun X hX whole pins s σ H w ς o ho I R T hw => by
  refine isTrue_and (vt_then ha hX I R T ho fun b ς1 s1 H1 w1 h1 I1 F1 R1 T1 => ?_)
  cases b with
  | true =>
    simp only [if_true] at h1 ⊢
    exact wpAny_mono (hr X hX whole pins s1 σ H1 w1 ς1 o h1 I1 R1 T1 (.inr ⟨_, _, _, rfl⟩)) (fun b s' z => NT.from F1 z) fun _ _ z => z
  | false =>
    simp only [Bool.false_eq_true, if_false] at h1 ⊢
    cases h1
    exact ⟨rfl, H1, w1, I1, F1, R1⟩
theorem vt_or {rest : List Expr} {f g : Act Bool} (ha : VT c a f) (hr : VT c (.BoolOp .Or rest pos) g) : VT c (.BoolOp .Or (a :: rest) pos) (orA f g) := fun X hX whole pins s σ H w ς o ho I R T hw => by
  refine isTrue_or (vt_then ha hX I R T ho fun b ς1 s1 H1 w1 h1 I1 F1 R1 T1 => ?_)
  cases b with
  | false =>
    simp only [Bool.false_eq_true, if_false] at h1 ⊢
    exact wpAny_mono (hr X hX whole pins s1 σ H1 w1 ς1 o h1 I1 R1 T1 (.inr ⟨_, _, _, rfl⟩)) (fun b s' z => NT.from F1 z) fun _ _ z => z
  | true =>
    simp only [if_true] at h1 ⊢
    cases h1
    exact ⟨rfl, H1, w1, I1, F1, R1⟩
theorem vt_not {f : Act Bool} (ha : VT c a f) : VT c (.UnaryOp .Not a pos) (notA f) := fun X hX whole pins s σ H w ς o ho I R T hw => by
  refine isTrue_not (vt_then ha hX I R T ho fun b ς1 s1 H1 w1 h1 I1 F1 R1 T1 => ?_)
  cases h1
  exact ⟨rfl, H1, w1, I1, F1, R1⟩
/-! ### as values -/
def blA (f : Act Bool) : Act ER := f.bnd fun b => Act.ret (.fr (.bl b))
def andV (f g : Act ER) : Act ER := f.bnd fun r => (truA r).bnd fun b => if b = true then g else Act.ret r
def orV (f g : Act ER) : Act ER := f.bnd fun r => (truA r).bnd fun b => if b = true then Act.ret r else g
def notV (f : Act ER) : Act ER := f.bnd fun r => (truA r).bnd fun b => Act.ret (.fr (.bl (!b)))
theorem truA_ok {ς ς1 : St} {r : ER} {b : Bool} (h : truA r ς = some (.ok b ς1)) : ς1 = ς := by
  unfold truA at h
  cases e : (cur ς r).bind truD with
  | none => rw [e] at h; cases h
  | some b' => rw [e] at h; cases h; rfl
theorem truA_ex {ς ς1 : St} {r : ER} {x : Exn} (h : truA r ς = some (.ex x ς1)) : False := by
  unfold truA at h
  cases e : (cur ς r).bind truD with
  | none => rw [e] at h; cases h
  | some b' => rw [e] at h; cases h
/-- a value's truth, then what follows -/
theorem tru_then {β : Type} {k : Bool → Act β} {o : Out β} {pins : List (Addr × Obj)} {s : Shared} {σ : L2.St} {H Hs : Hp} {w : W} {ς : St} {r : ER} {v : V} {u : Value} (hX : c.Ok X) (I : Inv X pins σ H s) (R : Rel c.toSta c.n ς σ H w) (rv : RelV v u) (ro : ResOk c.toSta w Hs H σ v r)
    (ho : (truA r).bnd k ς = some o) {Q : Bool → Shared → Prop} (hk : ∀ b s1, k b ς = some o → Inv X pins σ H s1 → Q b s1) : wpAny (model X.prog X.w) X.A (truthy u) Q X.xe s := by
  unfold Act.bnd at ho
  cases q : truA r ς with
  | none => rw [q] at ho; cases ho
  | some o1 =>
    rw [q] at ho
    cases o1 with
    | ex x ς1 => exact (truA_ex q).elim
    | ok b ς1 =>
      obtain rfl := truA_ok q
      unfold truA at q
      cases e : cur ς1 r with
      | none => rw [e] at q; cases q
      | some d =>
        rw [e] at q
        cases e2 : truD d with
        | none => simp only [Option.bind_some, e2] at q; cases q
        | some b' =>
          simp only [Option.bind_some, e2] at q
          cases q
          have tv := (R.view ro e).tru R.sub e2
          exact wpAny_mono (tru_ok pins s σ H v u (fun b' H' => b' = b ∧ H' = H) I rv ⟨b, by rw [hX.K]; exact tv, rfl, rfl⟩) (fun b' s' ⟨H', I', z1, z2⟩ => by subst z1; subst z2; exact hk _ _ ho I') fun _ _ z => z
theorem ve_one {op e f} (h : VE c e f) : VE c (.BoolOp op [e] pos) f := fun X hX pins s σ H w ς o ho I R T => BoolOp_one (h X hX pins s σ H w ς o ho I R T)
theorem ve_and {rest : List Expr} {e2 : Expr} {f g : Act ER} (ha : VE c a f) (hr : VE c (.BoolOp .And (e2 :: rest) pos) g) : VE c (.BoolOp .And (a :: e2 :: rest) pos) (andV f g) := fun X hX pins s σ H w ς o ho I R T => by
  refine BoolOp_and (ve_then ha hX I R T ho fun r ς1 u s1 v H1 w1 h1 I1 rv F1 R1 T1 ro => tru_then hX I1 R1 rv ro h1 fun b s2 h2 I2 => ?_)
  cases b with
  | true =>
    simp only [if_true] at h2 ⊢
    exact wpAny_mono (hr X hX pins s2 σ H1 w1 ς1 o h2 I2 R1 T1) (fun b s' z => NE.from F1 z) fun _ _ z => z
  | false =>
    simp only [Bool.false_eq_true, if_false] at h2 ⊢
    cases h2
    exact ⟨v, H1, w1, I2, rv, F1, R1, ro⟩
theorem ve_or {rest : List Expr} {e2 : Expr} {f g : Act ER} (ha : VE c a f) (hr : VE c (.BoolOp .Or (e2 :: rest) pos) g) : VE c (.BoolOp .Or (a :: e2 :: rest) pos) (orV f g) := fun X hX pins s σ H w ς o ho I R T => by
  refine BoolOp_or (ve_then ha hX I R T ho fun r ς1 u s1 v H1 w1 h1 I1 rv F1 R1 T1 ro => tru_then hX I1 R1 rv ro h1 fun b s2 h2 I2 => ?_)
  cases b with
  | false =>
    simp only [Bool.false_eq_true, if_false] at h2 ⊢
    exact wpAny_mono (hr X hX pins s2 σ H1 w1 ς1 o h2 I2 R1 T1) (fun b s' z => NE.from F1 z) fun _ _ z => z
  | true =>
    simp only [if_true] at h2 ⊢
    cases h2
    exact ⟨v, H1, w1, I2, rv, F1, R1, ro⟩
theorem ve_not {f : Act ER} (ha : VE c a f) : VE c (.UnaryOp .Not a pos) (notV f) := fun X hX pins s σ H w ς o ho I R T => by
  refine UnaryOp_ (ve_then ha hX I R T ho fun r ς1 u s1 v H1 w1 h1 I1 rv F1 R1 T1 ro => not_of (tru_then hX I1 R1 rv ro h1 fun b s2 h2 I2 => ?_))
  cases h2
  exact ⟨.bl (!b), H1, w1, I2, rfl, F1, R1, .bl _⟩
def iteA {α : Type} (f : Act Bool) (g h : Act α) : Act α := f.bnd fun b => if b = true then g else h
theorem ve_ifExp {t : Expr} {ft : Act Bool} (ht : VT c t ft) (ha : VE c a fa) (hb : VE c b fb) : VE c (.IfExp t a b pos) (iteA ft fa fb) := fun X hX pins s σ H w ς o ho I R T => by
  refine wpAny_IfExp (vt_then ht hX I R T ho fun k ς1 s1 H1 w1 h1 I1 F1 R1 T1 => ?_)
  cases k with
  | true =>
    simp only [if_true] at h1 ⊢
    exact wpAny_mono (ha X hX pins s1 σ H1 w1 ς1 o h1 I1 R1 T1) (fun b s' z => NE.from F1 z) fun _ _ z => z
  | false =>
    simp only [Bool.false_eq_true, if_false] at h1 ⊢
    exact wpAny_mono (hb X hX pins s1 σ H1 w1 ς1 o h1 I1 R1 T1) (fun b s' z => NE.from F1 z) fun _ _ z => z
/-- -x -/
def negE : Dat → Option ER
  | .int i => some (.fr (.int (-i)))
  | _ => none
def op1 (g : Dat → Option ER) (f : Act ER) : Act ER := f.bnd fun r ς => ((cur ς r).bind g).map fun q => .ok q ς
theorem ve_neg {f : Act ER} (ha : VE c a f) : VE c (.UnaryOp .USub a pos) (op1 negE f) := fun X hX pins s σ H w ς o ho I R T => by
  refine UnaryOp_ (ve_then ha hX I R T ho fun r ς1 u s1 v H1 w1 h1 I1 rv F1 R1 T1 ro => ?_)
  cases e : cur ς1 r with
  | none => rw [e] at h1; cases h1
  | some d =>
    rw [e] at h1
    simp only [Option.bind_some] at h1
    cases d <;> cases h1
    obtain rfl := (R1.view ro e).int
    rename_i i
    refine wpAny_mono ((un_neg (X := X.nox)) pins s1 σ H1 (.int i) u (fun v' H' => v' = .int (-i) ∧ H' = H1) (I1.wish _) rv ⟨i, rfl, rfl, rfl⟩) (fun u' s' ⟨v', H', I', rv', e1, e2⟩ => ?_) fun _ _ z => z.elim
    subst e1; subst e2
    exact ⟨_, _, w1, I'.unwish, rv', F1, R1, .int _⟩
end
end VS

namespace VS
open PySem L2 PyProof.Rows

/-! ### several results -/
def tpAd : V → ER → List Addr
  | .ref a, .tp _ => [a]
  | _, _ => []
inductive ResOks (S : Sta) (w : W) (Hs H : Hp) (σ : L2.St) : List V → List ER → Prop
  | nil : ResOks S w Hs H σ [] []
  | cons {v : V} {r : ER} {vs : List V} {rs : List ER} : ResOk S w Hs H σ v r → ResOks S w Hs H σ vs rs → (∀ a ∈ tpAd v r, ∀ p ∈ vs.zip rs, a ∉ tpAd p.1 p.2) → ResOks S w Hs H σ (v :: vs) (r :: rs)
section
variable {S : Sta} {n : Shp} {ς ς' : St} {σ : L2.St} {H H' Hs : Hp} {w w0 w' : W} {v : V} {d : Dat} {r : ER} {vs : List V} {rs : List ER}
theorem ResOks.carry (h : ResOks S w Hs H σ vs rs) (f : Fr w H w' H') : ResOks S w' Hs H' σ vs rs := by
  induction h with
  | nil => exact .nil
  | cons h _ d ih => exact .cons (h.carry f) ih d
theorem ResOks.back {Hs' : Hp} (h : ResOks S w Hs' H σ vs rs) (f : ∀ a, Hs' a = none → Hs a = none) : ResOks S w Hs H σ vs rs := by
  induction h with
  | nil => exact .nil
  | cons h _ d ih => exact .cons (h.back f) ih d
theorem ResOks.length (h : ResOks S w Hs H σ vs rs) : vs.length = rs.length := by
  induction h with
  | nil => rfl
  | cons _ _ _ ih => simp [ih]
theorem ResOks.fresh (h : ResOks S w Hs H σ vs rs) : ∀ p ∈ vs.zip rs, ∀ a ∈ tpAd p.1 p.2, Hs a = none := by
  induction h with
  | nil => intro p hp; simp at hp
  | @cons v r vs rs h _ _ ih =>
    intro p hp a ha
    rw [List.zip_cons_cons] at hp
    rcases List.mem_cons.mp hp with rfl | hp
    · cases r with
      | fr d => cases v <;> simp [tpAd] at ha
      | sl i => cases v <;> simp [tpAd] at ha
      | tp d =>
        obtain ⟨b, rfl, h1, _⟩ := h
        simp only [tpAd, List.mem_singleton] at ha
        rw [ha]; exact h1
    · exact ih p hp a ha
def curL (ς : St) : List ER → Option (List Dat)
  | [] => some []
  | r :: rs => match cur ς r, curL ς rs with
    | some d, some ds => some (d :: ds)
    | _, _ => none
inductive Views (S : Sta) (w : W) (H : Hp) : List V → List Dat → Prop
  | nil : Views S w H [] []
  | cons {v : V} {d : Dat} {vs : List V} {ds : List Dat} : View S w H v d → Views S w H vs ds → Views S w H (v :: vs) (d :: ds)
theorem Rel.views (R : Rel S n ς σ H w) (h : ResOks S w Hs H σ vs rs) : ∀ {ds : List Dat}, curL ς rs = some ds → Views S w H vs ds := by
  induction h with
  | nil => intro ds e; cases e; exact .nil
  | @cons v r vs rs h _ _ ih =>
    intro ds e
    unfold curL at e
    split at e
    · rename_i d ds' e1 e2
      cases e
      exact .cons (R.view h e1) (ih e2)
    · cases e
def settleL (ς : St) : List ER → Option (List Dat × St)
  | [] => some ([], ς)
  | r :: rs => match settle ς r with
    | none => none
    | some (d, ς1) => match settleL ς1 rs with
      | none => none
      | some (ds, ς2) => some (d :: ds, ς2)
/-- freezing one leaves the other new ones -/
theorem ResOk.frz {a : Addr} {o : HO} (ha : w.Hf a = none) (hl : a ∉ tpAd v r) (h : ResOk S w Hs H σ v r) : ResOk S (frz w a o) Hs H σ v r := by
  cases r with
  | fr d => exact Rep.mono (frz_ext ha) (fun _ _ h => h) h
  | sl i => exact h
  | tp d =>
    obtain ⟨b, rfl, h1, h2, h3, h4⟩ := h
    have nb : b ≠ a := fun q => hl (by simp [tpAd, q])
    exact ⟨b, rfl, h1, by show (if b = a then none else w.own b) = none; rw [if_neg nb]; exact h2, by show upd w.Hf a o b = none; rw [upd_ne nb]; exact h3, h4.mono (frz_ext ha) (fun _ _ h => h) rfl⟩
theorem ResOks.frz {a : Addr} {o : HO} (ha : w.Hf a = none) (h : ResOks S w Hs H σ vs rs) : (∀ p ∈ vs.zip rs, a ∉ tpAd p.1 p.2) → ResOks S (frz w a o) Hs H σ vs rs := by
  induction h with
  | nil => intro _; exact .nil
  | cons h _ d ih =>
    intro hl
    rw [List.zip_cons_cons] at hl
    exact .cons (h.frz ha (hl _ (List.mem_cons_self ..))) (ih fun p hp => hl p (List.mem_cons_of_mem _ hp)) d
/-- one settled: the others stand -/
theorem settle_ok' {d : Dat} (F : Fr w0 Hs w H) (R : Rel S n ς σ H w) (h : ResOk S w Hs H σ v r) (e : settle ς r = some (d, ς')) :
    ∃ w', Fr w0 Hs w' H ∧ Rel S n ς' σ H w' ∧ Rep S w'.Hf w'.ads v d ∧ Ext w.Hf w'.Hf ∧ AExt w.ads w'.ads ∧ ∀ vs rs, ResOks S w Hs H σ vs rs → (∀ a ∈ tpAd v r, ∀ p ∈ vs.zip rs, a ∉ tpAd p.1 p.2) → ResOks S w' Hs H σ vs rs := by
  cases r with
  | fr d' =>
    cases e
    exact ⟨w, F, R, h, Ext.refl _, fun _ _ h => h, fun _ _ q _ => q⟩
  | tp d' =>
    cases e
    obtain ⟨a, rfl, h1, h2, h3, h4⟩ := h
    obtain ⟨o, hO⟩ := h4.there
    exact ⟨VS.frz w a o, F.freeze_tmp h1 h3, R.freeze_tmp h2 h3 hO, frz_rep h3 h4 hO, frz_ext h3, fun _ _ h => h, fun vs rs q hq => q.frz h3 (hq a (by simp [tpAd]))⟩
  | sl i =>
    unfold settle at e
    simp only at e
    split at e
    · rename_i d' q
      cases e
      obtain ⟨v', e1, e2⟩ := R.slots _ _ q
      have h : σ[i]? = some (some v) := h
      rw [h] at e1; cases e1
      exact ⟨w, F, R, e2, Ext.refl _, fun _ _ h => h, fun _ _ q _ => q⟩
    · rename_i d' q
      cases e
      obtain ⟨w', v', e1, F', R', rp⟩ := R.freeze_slot q
      have h : σ[i]? = some (some v) := h
      rw [h] at e1; cases e1
      exact ⟨w', F.trans F', R', rp, F'.hf, F'.ad, fun vs rs q _ => q.carry F'⟩
    · cases e
theorem settleL_ok : ∀ {rs : List ER} {vs : List V} {w : W} {ς ς' : St} {ds : List Dat}, Fr w0 Hs w H → Rel S n ς σ H w → ResOks S w Hs H σ vs rs → settleL ς rs = some (ds, ς') → ∃ w', Fr w0 Hs w' H ∧ Rel S n ς' σ H w' ∧ Reps S w'.Hf w'.ads vs ds ∧ Ext w.Hf w'.Hf ∧ AExt w.ads w'.ads
  | _, _, w, _, _, _, F, R, .nil, e => by
    cases e
    exact ⟨w, F, R, .nil, Ext.refl _, fun _ _ h => h⟩
  | _, _, w, ς, ς', ds, F, R, .cons h t q, e => by
    unfold settleL at e
    split at e
    · cases e
    · rename_i d ς1 e1
      split at e
      · cases e
      · rename_i ds' ς2 e2
        cases e
        obtain ⟨w1, F1, R1, rp, x1, y1, k⟩ := settle_ok' F R h e1
        obtain ⟨w2, F2, R2, rps, x2, y2⟩ := settleL_ok F1 R1 (k _ _ t q) e2
        exact ⟨w2, F2, R2, .cons (rp.mono x2 y2) rps, x1.trans x2, fun k x h => y2 k x (y1 k x h)⟩
end

/-! ### lists of expressions -/
def NA (c : Ctx) (X : Cx) (pins : List (Addr × Obj)) (σ : L2.St) (w : W) (H : Hp) : Out (List ER) → List Value → Shared → Prop
  | .ok rs ς', us, s' => ∃ vs H' w', Inv X pins σ H' s' ∧ Vals vs us ∧ Fr w H w' H' ∧ Rel c.toSta c.n ς' σ H' w' ∧ ResOks c.toSta w' H H' σ vs rs
  | .ex _ _, _, _ => False
def VA (c : Ctx) (es : List Expr) (f : Act (List ER)) : Prop :=
  ∀ X, c.Ok X → ∀ (pos : Pos) (pins : List (Addr × Obj)) (s : Shared) (σ : L2.St) (H : Hp) (w : W) (ς : St) (o : Out (List ER)), f ς = some o → Inv X pins σ H s → Rel c.toSta c.n ς σ H w → XT c X w H o →
    wpAny (model X.prog X.w) X.A (spliced (backTo pos (starEach es X.env))) (NA c X pins σ w H o) X.xe s
def consA (f : Act ER) (g : Act (List ER)) : Act (List ER) := f.bnd fun r => g.bnd fun rs => Act.ret (r :: rs)
section
variable {c : Ctx} {X : Cx} {a b e : Expr} {fa fb : Act ER} {pos : Pos} {es : List Expr} {f : Act ER} {g : Act (List ER)}
theorem va_nil : VA c [] (Act.ret []) := fun X hX pos pins s σ H w ς o ho I R T => by
  cases ho
  exact Calls.spliced_nil ⟨[], H, w, I, .nil, Fr.refl _ _, R, .nil⟩
/-- a list of expressions, then what follows -/
theorem va_then {β : Type} {k : List ER → Act β} {o : Out β} (h : VA c es g) (hX : c.Ok X) {pins : List (Addr × Obj)} {s : Shared} {σ : L2.St} {H : Hp} {w : W} {ς : St} (I : Inv X pins σ H s) (R : Rel c.toSta c.n ς σ H w) (T : XT c X w H o) (ho : g.bnd k ς = some o) {Q : List Value → Shared → Prop}
    (hk : ∀ (rs : List ER) (ς1 : St) (us : List Value) (s1 : Shared) (vs : List V) (H1 : Hp) (w1 : W), k rs ς1 = some o → Inv X pins σ H1 s1 → Vals vs us → Fr w H w1 H1 → Rel c.toSta c.n ς1 σ H1 w1 → XT c X w1 H1 o → ResOks c.toSta w1 H H1 σ vs rs → Q us s1) :
    wpAny (model X.prog X.w) X.A (spliced (backTo pos (starEach es X.env))) Q X.xe s := by
  unfold Act.bnd at ho
  cases q : g ς with
  | none => rw [q] at ho; cases ho
  | some o1 =>
    rw [q] at ho
    cases o1 with
    | ok r ς1 =>
      exact wpAny_mono (h X hX pos pins s σ H w ς _ q I R trivial) (fun u s1 ⟨v, H1, w1, I1, rv, F1, R1, ro⟩ => hk r ς1 u s1 v H1 w1 ho I1 rv F1 R1 (T.from F1) ro) fun _ _ z => z
    | ex x ς1 =>
      cases ho
      exact wpAny_mono (h X hX pos pins s σ H w ς _ q I R T) (fun _ _ z => z.elim) fun u s1 z => z
theorem va_cons (ha : VE c e f) (hr : VA c es g) (hs : ∀ env, starEach (e :: es) env = (false, eval e env) :: starEach es env) : VA c (e :: es) (consA f g) := fun X hX pos pins s σ H w ς o ho I R T => by
  rw [hs]
  show wpAny _ _ (spliced ((false, eval e X.env) :: backTo pos (starEach es X.env))) _ _ s
  refine Calls.spliced_cons (ve_then ha hX I R T ho fun r ς1 u s1 v H1 w1 h1 I1 rv F1 R1 T1 ro => ?_)
  refine va_then hr hX I1 R1 T1 h1 fun rs ς2 us s2 vs H2 w2 h2 I2 rvs F2 R2 T2 ros => ?_
  cases h2
  refine ⟨v :: vs, H2, w2, I2, .cons rv rvs, F1.trans F2, R2, .cons (ro.carry F2) (ros.back F1.dm) fun a ha p hp hm => ?_⟩
  have hn := ros.fresh p hp a hm
  cases r with
  | fr d => cases v <;> simp [tpAd] at ha
  | sl i => cases v <;> simp [tpAd] at ha
  | tp d =>
    obtain ⟨b, rfl, _, _, _, h4⟩ := ro
    simp only [tpAd, List.mem_singleton] at ha
    obtain ⟨o, h5⟩ := h4.there
    rw [ha, h5] at hn
    cases hn
/-- a tuple, a list of written items -/
def tupA (g : Act (List ER)) : Act ER := g.bnd fun rs ς => (settleL ς rs).bind fun p => if p.1.length ≤ sizeLine then some (.ok (.fr (.tup p.1)) p.2) else none
def lstA (g : Act (List ER)) : Act ER := g.bnd fun rs ς => (settleL ς rs).bind fun p => if p.1.length ≤ sizeLine then some (.ok (.tp (.lst p.1)) p.2) else none
theorem ve_tup {x1} (h : VA c es g) : VE c (.Tuple es x1 pos) (tupA g) := fun X hX pins s σ H w ς o ho I R T => by
  refine wpAny_Tuple_spliced (va_then h hX I R T ho fun rs ς1 us s1 vs H1 w1 h1 I1 rvs F1 R1 T1 ros => ?_)
  cases e : settleL ς1 rs with
  | none => rw [e] at h1; cases h1
  | some p =>
    obtain ⟨ds, ς2⟩ := p
    rw [e] at h1
    simp only [Option.bind_some] at h1
    split at h1
    · rename_i hz
      cases h1
      obtain ⟨w2, F2, R2, rps, _, _⟩ := settleL_ok F1 R1 ros e
      have hl := rps.length
      have hl2 := rvs.length
      refine ⟨by omega, ?_⟩
      have hf : H1 s1.heap.objs.size = none := I1.hok.fresh (Nat.le_refl _)
      have I2 := I1.laid (a := s1.heap.objs.size) (o := .tup vs) (h' := s1.heap.push { cls := .type "tuple", data := .seq us.toArray }) (t' := s1.toks) (fun b u e => Heap.get?_push_of_some _ e) (Nat.le_refl _) ⟨by omega, us, rvs, ⟨_, Heap.get?_push_size _ rfl, rfl, _, rfl⟩⟩
      exact NE.from F2 (ne_tup (w := w2) I2 hf R2 rps)
    · cases h1
theorem ve_lst (h : VA c es g) : VE c (.List es pos) (lstA g) := fun X hX pins s σ H w ς o ho I R T => by
  refine wpAny_List_spliced (va_then h hX I R T ho fun rs ς1 us s1 vs H1 w1 h1 I1 rvs F1 R1 T1 ros => ?_)
  cases e : settleL ς1 rs with
  | none => rw [e] at h1; cases h1
  | some p =>
    obtain ⟨ds, ς2⟩ := p
    rw [e] at h1
    simp only [Option.bind_some] at h1
    split at h1
    · rename_i hz
      cases h1
      obtain ⟨w2, F2, R2, rps, _, _⟩ := settleL_ok F1 R1 ros e
      have hl := rps.length
      have hl2 := rvs.length
      refine ⟨by omega, ?_⟩
      have hf : H1 s1.heap.objs.size = none := I1.hok.fresh (Nat.le_refl _)
      have I2 := I1.laid (a := s1.heap.objs.size) (o := .lst vs) (h' := s1.heap.push { cls := .type "list", data := .seq us.toArray }) (t' := s1.toks) (fun b u e => Heap.get?_push_of_some _ e) (Nat.le_refl _) ⟨by omega, us, 0, rvs, Heap.get?_push_size _ rfl⟩
      exact NE.from F2 (ne_lst (w := w2) I2 hf R2 rps)
    · cases h1
end
end VS

namespace VS
open PySem L2 PyProof.Rows

/-! ### subscripts -/
def PIx (c : Ctx) (g : Dat → Dat → Option ER) : Prop :=
  ∀ X, c.Ok X → ∀ (value slice : Expr) (pins : List (Addr × Obj)) (s : Shared) (σ : L2.St) (H : Hp) (w : W) (ς : St) (x y : V) (u1 u2 : Value) (a b : Dat) (r : ER),
    Inv X pins σ H s → Rel c.toSta c.n ς σ H w → RelV x u1 → RelV y u2 → View c.toSta w H x a → View c.toSta w H y b → g a b = some r → subscripted slice false u1 u2 = operate [u1, u2] (getItem u1 u2) →
    wpAny (model X.prog X.w) X.A (subscriptTail value slice u1 u2) (NE c X pins σ w H (.ok r ς)) (fun _ _ => False) s
section
variable {c : Ctx} {X : Cx} {a b e : Expr} {fa fb : Act ER} {pos : Pos} {es : List Expr} {f : Act ER} {g : Act (List ER)}
theorem PIx.alt {g g' : Dat → Dat → Option ER} (h : PIx c g) (h' : PIx c g') : PIx c (fun a b => match g a b with | some r => some r | none => g' a b) :=
  fun X hX value slice pins s σ H w ς x y u1 u2 a b r I R rx ry va vb e hs => by
    cases q : g a b with
    | some r' => simp only [q] at e; cases e; exact h X hX value slice pins s σ H w ς x y u1 u2 a b r I R rx ry va vb q hs
    | none => simp only [q] at e; exact h' X hX value slice pins s σ H w ς x y u1 u2 a b r I R rx ry va vb e hs
theorem PIx.of {g : Dat → Dat → Option ER}
    (h : ∀ X, c.Ok X → ∀ (pins : List (Addr × Obj)) (s : Shared) (σ : L2.St) (H : Hp) (w : W) (ς : St) (x y : V) (a b : Dat) (r : ER), Inv X pins σ H s → Rel c.toSta c.n ς σ H w → View c.toSta w H x a → View c.toSta w H y b → g a b = some r →
      ∃ (rr : R2) (Q : VK), IxR X.nox rr ∧ rr x y H Q ∧ ∀ v H' u s', Q v H' → Inv X pins σ H' s' → RelV v u → NE c X pins σ w H (.ok r ς) u s') : PIx c g :=
  fun X hX value slice pins s σ H w ς x y u1 u2 a b r I R rx ry va vb e hs => by
    obtain ⟨rr, Q, ho, hq, k⟩ := h X hX pins s σ H w ς x y a b r I R va vb e
    exact wpAny_mono (ho value slice pins s σ H x y u1 u2 Q (I.wish _) rx ry hq hs) (fun u s' ⟨v, H', I', rv, q⟩ => k v H' u s' q I'.unwish rv) fun _ _ z => z
def ixL : Dat → Dat → Option ER
  | .lst ds, .int i => (atI ds i).map .fr
  | _, _ => none
def ixT : Dat → Dat → Option ER
  | .tup ds, .int i => (atI ds i).map .fr
  | _, _ => none
def ixS : Dat → Dat → Option ER
  | .str z, .int i => if z.length ≤ sizeLine then (atI z.cps.toList i).map fun k => .fr (.str ⟨#[k]⟩) else none
  | _, _ => none
theorem Reps.atI {S : Sta} {w : W} {vs : List V} {ds : List Dat} {i : Int} {d : Dat} (h : Reps S w.Hf w.ads vs ds) (e : L2.atI ds i = some d) : ∃ v, L2.atI vs i = some v ∧ Rep S w.Hf w.ads v d := by
  unfold L2.atI at e ⊢
  rw [h.length]
  cases q : ixN ds.length i with
  | none => rw [q] at e; cases e
  | some j =>
    rw [q] at e
    obtain ⟨v, h1, h2⟩ := h.get (i := j) (d := d) e
    exact ⟨v, h1, h2⟩
theorem pix_lst : PIx c ixL := PIx.of fun X hX pins s σ H w ς x y a b r I R va vb e => by
  unfold ixL at e
  split at e
  · rename_i ds i
    cases q : L2.atI ds i with
    | none => rw [q] at e; cases e
    | some d =>
      rw [q] at e
      cases e
      obtain ⟨p, vs, rfl, hp, rp⟩ := va.lst R.sub
      obtain rfl := vb.int
      obtain ⟨v, h1, h2⟩ := rp.atI q
      refine ⟨_, fun v' H' => v' = v ∧ H' = H, ix_list, ⟨p, vs, i, v, rfl, rfl, by show SqL X.K H p vs; rw [hX.K]; exact hp, h1, rfl, rfl⟩, fun v' H' u s' ⟨e1, e2⟩ I' rv => ?_⟩
      subst e1; subst e2
      exact ne_fr I' rv R h2
  · cases e
theorem pix_tup : PIx c ixT := PIx.of fun X hX pins s σ H w ς x y a b r I R va vb e => by
  unfold ixT at e
  split at e
  · rename_i ds i
    cases q : L2.atI ds i with
    | none => rw [q] at e; cases e
    | some d =>
      rw [q] at e
      cases e
      obtain ⟨p, vs, rfl, hp, rp⟩ := va.tup R.sub
      obtain rfl := vb.int
      obtain ⟨v, h1, h2⟩ := rp.atI q
      refine ⟨_, fun v' H' => v' = v ∧ H' = H, ix_tup, ⟨p, vs, i, v, rfl, rfl, by show SqT X.K H p vs; rw [hX.K]; exact hp, h1, rfl, rfl⟩, fun v' H' u s' ⟨e1, e2⟩ I' rv => ?_⟩
      subst e1; subst e2
      exact ne_fr I' rv R h2
  · cases e
theorem pix_str : PIx c ixS := PIx.of fun X hX pins s σ H w ς x y a b r I R va vb e => by
  unfold ixS at e
  split at e
  · rename_i z i
    split at e
    · rename_i hz
      cases q : L2.atI z.cps.toList i with
      | none => rw [q] at e; cases e
      | some d =>
        rw [q] at e
        cases e
        obtain rfl := va.str
        obtain rfl := vb.int
        refine ⟨_, fun v' H' => v' = .str ⟨#[d]⟩ ∧ H' = H, ix_str, ⟨z, i, d, rfl, rfl, hz, q, rfl, rfl⟩, fun v' H' u s' ⟨e1, e2⟩ I' rv => ?_⟩
        subst e1; subst e2
        exact ne_fr I' rv R (.str _)
    · cases e
  · cases e
theorem ve_ix {g : Dat → Dat → Option ER} (hf : PIx c g) (ha : VE c a fa) (hb : VE c b fb) (hs : ∀ o i, subscripted b false o i = operate [o, i] (getItem o i)) : VE c (.Subscript a b pos) (op2 g fa fb) := fun X hX pins s σ H w ς o ho I R T => by
  refine Subscript_ (ve_then ha hX I R T ho fun r1 ς1 u1 s1 v1 H1 w1 h1 I1 rv1 F1 R1 T1 ro1 => ?_)
  refine ve_then hb hX I1 R1 T1 h1 fun r2 ς2 u2 s2 v2 H2 w2 h2 I2 rv2 F2 R2 T2 ro2 => ?_
  unfold opD at h2
  cases e1 : cur ς2 r1 with
  | none => rw [e1] at h2; cases h2
  | some d1 =>
    cases e2 : cur ς2 r2 with
    | none => rw [e1, e2] at h2; cases h2
    | some d2 =>
      rw [e1, e2] at h2
      simp only at h2
      cases e3 : g d1 d2 with
      | none => rw [e3] at h2; cases h2
      | some r =>
        rw [e3] at h2
        cases h2
        exact wpAny_mono (hf X hX a b pins s2 σ H2 w2 ς2 v1 v2 u1 u2 d1 d2 r I2 R2 rv1 rv2 (R2.view (ro1.carry F2) e1) (R2.view ro2 e2) e3 (hs _ _)) (fun u s' z => NE.from (F1.trans F2) z) fun _ _ z => z.elim

/-! ### built-in functions -/
def PN (c : Ctx) (fv : Value) (g : List Dat → Option ER) : Prop :=
  ∀ X, c.Ok X → ∀ (pins : List (Addr × Obj)) (s : Shared) (σ : L2.St) (H : Hp) (w : W) (ς : St) (vs : List V) (us : List Value) (ds : List Dat) (r : ER),
    Inv X pins σ H s → Rel c.toSta c.n ς σ H w → Vals vs us → Views c.toSta w H vs ds → g ds = some r → wpAny (model X.prog X.w) X.A (call fv us) (NE c X pins σ w H (.ok r ς)) (fun _ _ => False) s
theorem PN.of {fv : Value} {g : List Dat → Option ER}
    (h : ∀ X, c.Ok X → ∀ (pins : List (Addr × Obj)) (s : Shared) (σ : L2.St) (H : Hp) (w : W) (ς : St) (vs : List V) (ds : List Dat) (r : ER), Inv X pins σ H s → Rel c.toSta c.n ς σ H w → Views c.toSta w H vs ds → g ds = some r →
      ∃ (rr : List V → Hp → VK → Prop) (Q : VK), CallR X.nox fv rr ∧ rr vs H Q ∧ ∀ v H' u s', Q v H' → Inv X pins σ H' s' → RelV v u → NE c X pins σ w H (.ok r ς) u s') : PN c fv g :=
  fun X hX pins s σ H w ς vs us ds r I R rv va e => by
    obtain ⟨rr, Q, ho, hq, k⟩ := h X hX pins s σ H w ς vs ds r I R va e
    exact wpAny_mono (ho pins s σ H vs us Q (I.wish _) rv hq) (fun u s' ⟨v, H', I', rv, q⟩ => k v H' u s' q I'.unwish rv) fun _ _ z => z
theorem PN.alt {fv : Value} {g g' : List Dat → Option ER} (h : PN c fv g) (h' : PN c fv g') : PN c fv (fun a => match g a with | some r => some r | none => g' a) :=
  fun X hX pins s σ H w ς vs us ds r I R rv va e => by
    cases q : g ds with
    | some r' => simp only [q] at e; cases e; exact h X hX pins s σ H w ς vs us ds r I R rv va q
    | none => simp only [q] at e; exact h' X hX pins s σ H w ς vs us ds r I R rv va e
def callA (g : List Dat → Option ER) (fs : Act (List ER)) : Act ER := fs.bnd fun rs ς => ((curL ς rs).bind g).map fun r => .ok r ς
theorem call_fin {fv : Value} {h : List Dat → Option ER} (hf : PN c fv h) (hX : c.Ok X) {rs : List ER} {ς1 : St} {us : List Value} {s1 : Shared} {vs : List V} {H H1 : Hp} {w w1 : W} {pins : List (Addr × Obj)} {σ : L2.St} {o : Out ER}
    (h1 : ((curL ς1 rs).bind h).map (fun r => Out.ok r ς1) = some o) (I1 : Inv X pins σ H1 s1) (rvs : Vals vs us) (F1 : Fr w H w1 H1) (R1 : Rel c.toSta c.n ς1 σ H1 w1) (ros : ResOks c.toSta w1 H H1 σ vs rs) :
    wpAny (model X.prog X.w) X.A (call fv us) (NE c X pins σ w H o) X.xe s1 := by
  cases e : curL ς1 rs with
  | none => rw [e] at h1; cases h1
  | some ds =>
    rw [e] at h1
    cases e2 : h ds with
    | none => simp only [Option.bind_some, e2] at h1; cases h1
    | some r =>
      simp only [Option.bind_some, e2] at h1
      cases h1
      exact wpAny_mono (hf X hX pins s1 σ H1 w1 ς1 vs us ds r I1 R1 rvs (R1.views ros e) e2) (fun u s' z => NE.from F1 z) fun _ _ z => z.elim
def GlS (c : Ctx) (x : Str) : Prop := c.sc.names.lookup x = some .globalImplicit
theorem GlS.gl {x : Str} (h : GlS c x) (hX : c.Ok X) : Gl X x := by
  show X.env.scope.names.lookup x = _
  rw [hX.sc]; exact h
theorem ve_callB {x : Str} {id : String} {h : List Dat → Option ER} {p : Pos} (hf : PN c (.builtin id) h) (hg : GlS c x) (hm : c.mg x = none) (hv : bootBuiltins x = some (.builtin id)) (ha : VA c (e :: es) g) (hn : x ≠ "__name__") (hdb : (x == ("__debug__" : Str)) = false)
    (he : ∀ env, starEach (e :: es) env = (false, eval e env) :: starEach es env) (hpl : ∀ env, (backTo pos (starEach es env)).any (·.1) = false) : VE c (.Call (.Name x p) (e :: es) [] pos) (callA h g) := fun X hX pins s σ H w ς o ho I R T => by
  refine wpAny_Call_Name_kw (ld_blt I (hg.gl hX) (by rw [hX.mg]; exact hm) hv ?_ hn hdb)
  exact PyProof.Rows.callWith_builtin1 (va_then ha hX I R T ho fun rs ς1 us s1 vs H1 w1 h1 I1 rvs F1 R1 T1 ros => call_fin hf hX h1 I1 rvs F1 R1 ros) (he _) (hpl _)
theorem ve_callTy {x : Str} {Ty : String} {h : List Dat → Option ER} {p : Pos} (hf : PN c (.type Ty) h) (hg : GlS c x) (hm : c.mg x = none) (hv : bootBuiltins x = some (.type Ty)) (ha : VA c (e :: es) g) (hn : x ≠ "__name__") (hdb : (x == ("__debug__" : Str)) = false)
    (he : ∀ env, starEach (e :: es) env = (false, eval e env) :: starEach es env) (hpl : ∀ env, (backTo pos (starEach es env)).any (·.1) = false) : VE c (.Call (.Name x p) (e :: es) [] pos) (callA h g) := fun X hX pins s σ H w ς o ho I R T => by
  refine wpAny_Call_Name_kw (ld_blt I (hg.gl hX) (by rw [hX.mg]; exact hm) hv ?_ hn hdb)
  exact PyProof.Rows.callWith_type1 (va_then ha hX I R T ho fun rs ς1 us s1 vs H1 w1 h1 I1 rvs F1 R1 T1 ros => call_fin hf hX h1 I1 rvs F1 R1 ros) (he _) (hpl _)
/-- a name of the module that holds a constant -/
theorem ve_glob {x : Str} {d : Dat} {u : Value} {v : V} (hg : GlS c x) (hm : c.mg x = some u) (rv : RelV v u) (rp : ∀ Hf ads, Rep c.toSta Hf ads v d) (hd : (x == ("__debug__" : Str)) = false) : VE c (.Name x pos) (cst d) := fun X hX pins s σ H w ς o ho I R T => by
  cases ho
  exact ld_glob I (hg.gl hX) (by rw [hX.mg]; exact hm) (ne_fr I rv R (rp _ _)) hd
/-- a built-in class as a value -/
theorem ve_ty {x : Str} {Ty : String} (hg : GlS c x) (hm : c.mg x = none) (hv : bootBuiltins x = some (.type Ty)) (hn : x ≠ "__name__") (hd : (x == ("__debug__" : Str)) = false) : VE c (.Name x pos) (cst (.ty Ty)) := fun X hX pins s σ H w ς o ho I R T => by
  cases ho
  exact ld_blt I (hg.gl hX) (by rw [hX.mg]; exact hm) hv (ne_fr (v := .ty Ty) I rfl R (.ty _)) hn hd

def lenD : List Dat → Option ER
  | [.str x] => if x.length ≤ sizeLine then some (.fr (.int x.length)) else none
  | [.lst ds] => some (.fr (.int ds.length))
  | [.tup ds] => some (.fr (.int ds.length))
  | _ => none
theorem Views.one {S : Sta} {w : W} {H : Hp} {vs : List V} {d : Dat} (h : Views S w H vs [d]) : ∃ v, vs = [v] ∧ View S w H v d := by
  cases h with
  | cons h t => cases t; exact ⟨_, rfl, h⟩
theorem Views.two {S : Sta} {w : W} {H : Hp} {vs : List V} {d e : Dat} (h : Views S w H vs [d, e]) : ∃ v u, vs = [v, u] ∧ View S w H v d ∧ View S w H u e := by
  cases h with
  | cons h t =>
    obtain ⟨u, rfl, h2⟩ := t.one
    exact ⟨_, u, rfl, h, h2⟩
theorem pn_len : PN c (.builtin "len") lenD := PN.of fun X hX pins s σ H w ς vs ds r I R va e => by
  unfold lenD at e
  split at e
  · split at e
    · rename_i x hz
      cases e
      obtain ⟨v, rfl, hv⟩ := va.one
      obtain rfl := hv.str
      refine ⟨_, fun v' H' => v' = .int x.length ∧ H' = H, call_len, ⟨_, x.length, rfl, ⟨hz, rfl⟩, rfl, rfl⟩, fun v' H' u s' ⟨e1, e2⟩ I' rv => ?_⟩
      subst e1; subst e2
      exact ne_fr I' rv R (.int _)
    · cases e
  · rename_i ds
    cases e
    obtain ⟨v, rfl, hv⟩ := va.one
    obtain ⟨p, vs, rfl, hp, rp⟩ := hv.lst R.sub
    refine ⟨_, fun v' H' => v' = .int ds.length ∧ H' = H, call_len, ⟨_, ds.length, rfl, .inl ⟨vs, by show SqL X.K H p vs; rw [hX.K]; exact hp, rp.length.symm⟩, rfl, rfl⟩, fun v' H' u s' ⟨e1, e2⟩ I' rv => ?_⟩
    subst e1; subst e2
    exact ne_fr I' rv R (.int _)
  · rename_i ds
    cases e
    obtain ⟨v, rfl, hv⟩ := va.one
    obtain ⟨p, vs, rfl, hp, rp⟩ := hv.tup R.sub
    refine ⟨_, fun v' H' => v' = .int ds.length ∧ H' = H, call_len, ⟨_, ds.length, rfl, .inr ⟨vs, by show SqT X.K H p vs; rw [hX.K]; exact hp, rp.length.symm⟩, rfl, rfl⟩, fun v' H' u s' ⟨e1, e2⟩ I' rv => ?_⟩
    subst e1; subst e2
    exact ne_fr I' rv R (.int _)
  · cases e
def absD : List Dat → Option ER
  | [.int i] => some (.fr (.int (if i < 0 then -i else i)))
  | _ => none
theorem pn_abs : PN c (.builtin "abs") absD := PN.of fun X hX pins s σ H w ς vs ds r I R va e => by
  unfold absD at e
  split at e
  · rename_i i
    cases e
    obtain ⟨v, rfl, hv⟩ := va.one
    obtain rfl := hv.int
    refine ⟨_, fun v' H' => v' = .int (if i < 0 then -i else i) ∧ H' = H, call_abs, ⟨i, rfl, rfl, rfl⟩, fun v' H' u s' ⟨e1, e2⟩ I' rv => ?_⟩
    subst e1; subst e2
    exact ne_fr I' rv R (.int _)
  · cases e
def maxD : List Dat → Option ER
  | [.int i, .int j] => some (.fr (.int (if j > i then j else i)))
  | _ => none
theorem pn_max : PN c (.builtin "max") maxD := PN.of fun X hX pins s σ H w ς vs ds r I R va e => by
  unfold maxD at e
  split at e
  · rename_i i j
    cases e
    obtain ⟨v, u, rfl, hv, hu⟩ := va.two
    obtain rfl := hv.int
    obtain rfl := hu.int
    refine ⟨_, fun v' H' => v' = .int (if j > i then j else i) ∧ H' = H, call_max2 hX.calm, ⟨i, j, rfl, rfl, rfl⟩, fun v' H' u s' ⟨e1, e2⟩ I' rv => ?_⟩
    subst e1; subst e2
    exact ne_fr I' rv R (.int _)
  · cases e
def minD : List Dat → Option ER
  | [.int i, .int j] => some (.fr (.int (if j < i then j else i)))
  | _ => none
theorem pn_min : PN c (.builtin "min") minD := PN.of fun X hX pins s σ H w ς vs ds r I R va e => by
  unfold minD at e
  split at e
  · rename_i i j
    cases e
    obtain ⟨v, u, rfl, hv, hu⟩ := va.two
    obtain rfl := hv.int
    obtain rfl := hu.int
    refine ⟨_, fun v' H' => v' = .int (if j < i then j else i) ∧ H' = H, call_min2 hX.calm, ⟨i, j, rfl, rfl, rfl⟩, fun v' H' u s' ⟨e1, e2⟩ I' rv => ?_⟩
    subst e1; subst e2
    exact ne_fr I' rv R (.int _)
  · cases e
end
end VS

namespace VS
open PySem L2 PyProof.Rows

/-! ### statements -/
inductive Flw where
  | nx | bk | ct | rt (r : ER)
/-- what is handed back -/
def RetOk (S : Sta) (w : W) (H : Hp) (v : V) : ER → Prop
  | .fr d => Rep S w.Hf w.ads v d
  | .tp d => ∃ a, v = .ref a ∧ w.H0 a = none ∧ w.own a = none ∧ w.Hf a = none ∧ OwnC S w.Hf w.ads H a d
  | .sl _ => False
def NS (c : Ctx) (X : Cx) (pins : List (Addr × Obj)) (w : W) (H : Hp) : Out Flw → Flow → Shared → Prop
  | .ok .nx ς', .next, s' => ∃ σ' H' w', Inv X pins σ' H' s' ∧ Fr w H w' H' ∧ Rel c.toSta c.n ς' σ' H' w'
  | .ok .bk ς', .brk, s' => ∃ σ' H' w', Inv X pins σ' H' s' ∧ Fr w H w' H' ∧ Rel c.toSta c.n ς' σ' H' w'
  | .ok .ct ς', .cont, s' => ∃ σ' H' w', Inv X pins σ' H' s' ∧ Fr w H w' H' ∧ Rel c.toSta c.n ς' σ' H' w'
  | .ok (.rt r) ς', .ret u, s' => ∃ v σ' H' w', Inv X pins σ' H' s' ∧ RelV v u ∧ Fr w H w' H' ∧ Rel c.toSta c.n ς' σ' H' w' ∧ RetOk c.toSta w' H' v r
  | _, _, _ => False
def VS1 (c : Ctx) (st : Stmt) (g : Act Flw) : Prop :=
  ∀ X, c.Ok X → ∀ (pins : List (Addr × Obj)) (s : Shared) (σ : L2.St) (H : Hp) (w : W) (ς : St) (o : Out Flw), g ς = some o → Inv X pins σ H s → Rel c.toSta c.n ς σ H w → XT c X w H o →
    wpAny (model X.prog X.w) X.A (exec st X.env) (NS c X pins w H o) X.xe s
def VSs (c : Ctx) (sts : List Stmt) (g : Act Flw) : Prop :=
  ∀ X, c.Ok X → ∀ (pins : List (Addr × Obj)) (s : Shared) (σ : L2.St) (H : Hp) (w : W) (ς : St) (o : Out Flw), g ς = some o → Inv X pins σ H s → Rel c.toSta c.n ς σ H w → XT c X w H o →
    wpAny (model X.prog X.w) X.A (execs sts X.env) (NS c X pins w H o) X.xe s
def seqA (f g : Act Flw) : Act Flw := f.bnd fun k => match k with
  | .nx => g
  | k => Act.ret k
section
variable {c : Ctx} {X : Cx} {a b e : Expr} {fa fb : Act ER} {pos : Pos} {es : List Expr} {f : Act ER} {st : Stmt} {rest : List Stmt} {g h : Act Flw}
theorem NS.from {pins : List (Addr × Obj)} {w w1 : W} {H H1 : Hp} {o : Out Flw} {u : Flow} {s' : Shared} (F : Fr w H w1 H1) (h : NS c X pins w1 H1 o u s') : NS c X pins w H o u s' := by
  cases o with
  | ex x ς' => cases u <;> exact h
  | ok k ς' =>
    cases k with
    | nx => cases u <;> first | exact h | (obtain ⟨σ', H', w', I, F', R⟩ := h; exact ⟨σ', H', w', I, F.trans F', R⟩)
    | bk => cases u <;> first | exact h | (obtain ⟨σ', H', w', I, F', R⟩ := h; exact ⟨σ', H', w', I, F.trans F', R⟩)
    | ct => cases u <;> first | exact h | (obtain ⟨σ', H', w', I, F', R⟩ := h; exact ⟨σ', H', w', I, F.trans F', R⟩)
    | rt r => cases u <;> first | exact h | (obtain ⟨v, σ', H', w', I, rv, F', R, ro⟩ := h; exact ⟨v, σ', H', w', I, rv, F.trans F', R, ro⟩)
theorem vss_nil : VSs c [] (Act.ret .nx) := fun X hX pins s σ H w ς o ho I R T => by
  cases ho
  exact wpAny_execs_nil ⟨σ, H, w, I, Fr.refl _ _, R⟩
theorem vss_cons (h1 : VS1 c st g) (h2 : VSs c rest h) : VSs c (st :: rest) (seqA g h) := fun X hX pins s σ H w ς o ho I R T => by
  unfold seqA Act.bnd at ho
  cases q : g ς with
  | none => rw [q] at ho; cases ho
  | some o1 =>
    rw [q] at ho
    cases o1 with
    | ex x ς1 =>
      cases ho
      exact wpAny_execs_cons (wpAny_mono (h1 X hX pins s σ H w ς _ q I R T) (fun fl s1 z => by cases fl <;> exact z.elim) fun _ _ z => z)
    | ok k ς1 =>
      refine wpAny_execs_cons (wpAny_mono (h1 X hX pins s σ H w ς _ q I R trivial) (fun fl s1 z => ?_) fun _ _ z => z)
      cases k with
      | nx =>
        cases fl <;> first | exact z.elim | skip
        obtain ⟨σ1, H1, w1, I1, F1, R1⟩ := z
        exact wpAny_mono (h2 X hX pins s1 σ1 H1 w1 ς1 o ho I1 R1 (T.from F1)) (fun fl s2 z => NS.from F1 z) fun _ _ z => z
      | bk => cases ho; cases fl <;> first | exact z.elim | exact z
      | ct => cases ho; cases fl <;> first | exact z.elim | exact z
      | rt r => cases ho; cases fl <;> first | exact z.elim | exact z
theorem vss_one (h1 : VS1 c st g) : VSs c [st] g := fun X hX pins s σ H w ς o ho I R T => by
  refine wpAny_execs_cons (wpAny_mono (h1 X hX pins s σ H w ς _ ho I R T) (fun fl s1 z => ?_) fun _ _ z => z)
  cases fl with
  | next =>
    cases o with
    | ok k ς' => cases k <;> first | exact z.elim | exact wpAny_execs_nil z
    | ex x ς' => exact z.elim
  | _ => exact z
/-- a name is stored -/
def setR (ς : St) (i : Nat) : ER → Option St
  | .fr d => some (ς.set i (some (.fr d)))
  | .tp d => some (ς.set i (some (.ow d)))
  | .sl j => (settle ς (.sl j)).map fun p => p.2.set i (some (.fr p.1))
theorem Rel.set_fr {S : Sta} {n : Shp} {ς : St} {σ : L2.St} {H : Hp} {w : W} {i : Nat} {v : V} {d : Dat} (R : Rel S n ς σ H w) (hi : i < n.n) (hl : σ.length = n.n) (hr : n.ro i = false) (rp : Rep S w.Hf w.ads v d) : Rel S n (ς.set i (some (.fr d))) (σ.set i (some v)) H w := by
  refine ⟨R.sub, R.nof, by rw [St.set_len]; exact R.len, fun j s e => ?_, R.obs, R.adk, R.dom, R.own0, fun j u h1 h2 => ?_, R.arl⟩
  · by_cases hj : i = j
    · subst hj
      have hi' : i < ς.sl.length := by rw [R.len]; exact hi
      have e' : (ς.sl.set i (some (.fr d)))[i]? = some (some s) := e
      rw [List.getElem?_set_self hi'] at e'
      cases e'
      exact ⟨v, List.getElem?_set_self (by rw [hl]; exact hi), rp⟩
    · rw [St.set_ne hj] at e
      obtain ⟨u, h1, h2⟩ := R.slots j s e
      exact ⟨u, by rw [List.getElem?_set_ne hj]; exact h1, h2⟩
  · have hj : i ≠ j := fun q => by rw [q, h1] at hr; cases hr
    rw [List.getElem?_set_ne hj]
    exact R.arg j u h1 h2
def take (w : W) (a : Addr) (l : Loc) : W := { w with own := fun b => if b = a then some l else w.own b }
theorem Rel.set_ow {S : Sta} {n : Shp} {ς : St} {σ : L2.St} {H : Hp} {w : W} {i : Nat} {a : Addr} {d : Dat} (R : Rel S n ς σ H w) (hi : i < n.n) (hl : σ.length = n.n) (hr : n.ro i = false) (h1 : w.own a = none) (h2 : w.Hf a = none) (h3 : OwnC S w.Hf w.ads H a d) (h0 : w.H0 a = none) :
    Rel S n (ς.set i (some (.ow d))) (σ.set i (some (.ref a))) H (take w a (.slot i)) := by
  obtain ⟨o, hO⟩ := h3.there
  have other : ∀ {l : Loc} {v : V} {s : Slot}, SlotOk S w H l v s → SlotOk S (take w a (.slot i)) H l v s := fun {l v s} h => by
    cases s with
    | fr d => exact h
    | ow d =>
      obtain ⟨b, e, q1, q2, q3, q4⟩ := h
      have nb : b ≠ a := fun q => by rw [q, h1] at q1; cases q1
      exact ⟨b, e, by show (if b = a then some (Loc.slot i) else w.own b) = _; rw [if_neg nb]; exact q1, q2, q3, by cases l <;> exact q4⟩
  refine ⟨R.sub, fun b u e => ?_, by rw [St.set_len]; exact R.len, fun j s e => ?_, fun k ov e => ?_, R.adk, R.dom, fun b e => ?_, fun j u q1 q2 => ?_, R.arl⟩
  · have nb : b ≠ a := fun q => by have e' : w.Hf b = some u := e; rw [q, h2] at e'; cases e'
    show (if b = a then some (Loc.slot i) else w.own b) = none
    rw [if_neg nb]
    exact R.nof b u e
  · by_cases hj : i = j
    · subst hj
      have hi' : i < ς.sl.length := by rw [R.len]; exact hi
      have e' : (ς.sl.set i (some (.ow d)))[i]? = some (some s) := e
      rw [List.getElem?_set_self hi'] at e'
      cases e'
      exact ⟨.ref a, List.getElem?_set_self (by rw [hl]; exact hi), a, rfl, by show (if a = a then some (Loc.slot i) else w.own a) = _; rw [if_pos rfl], h2, h3, .inl h0⟩
    · rw [St.set_ne hj] at e
      obtain ⟨u, q1, q2⟩ := R.slots j s e
      exact ⟨u, by rw [List.getElem?_set_ne hj]; exact q1, other q2⟩
  · obtain ⟨b, C, dx, fs, q1, q2, q3, q4, q5, q6, q7⟩ := (R.obs k ov e).ex
    have nb : b ≠ a := fun q => by rw [q, h1] at q3; cases q3
    exact ⟨b, C, dx, fs, q1, q2, by show (if b = a then some (Loc.slot i) else w.own b) = _; rw [if_neg nb]; exact q3, q4, q5, q6, fun i f v s e1 e2 => other (q7 i f v s e1 e2)⟩
  · have nb : b ≠ a := fun q => by rw [q, hO] at e; cases e
    show (if b = a then some (Loc.slot i) else w.own b) = none
    rw [if_neg nb]
    exact R.own0 b e
  · have hj : i ≠ j := fun q => by rw [q, q1] at hr; cases hr
    rw [List.getElem?_set_ne hj]
    exact R.arg j u q1 q2
theorem Fr.take {w0 w : W} {Hs H : Hp} {a : Addr} {l : Loc} (F : Fr w0 Hs w H) (h : Hs a = none) : Fr w0 Hs (VS.take w a l) H := by
  refine ⟨F.hf, F.ad, fun b u h1 h2 => ?_, F.nf, F.dm, F.h0, F.as, fun b l' o h1 h2 => ?_⟩
  · obtain ⟨p, q⟩ := F.kp b u h1 h2
    refine ⟨p, ?_⟩
    have nb : b ≠ a := fun q => by rw [q, h] at h1; cases h1
    show (if b = a then some l else w.own b) = none
    rw [if_neg nb]
    exact q
  · have nb : b ≠ a := fun q => by rw [q, h] at h1; cases h1
    show (if b = a then some l else w.own b) = some l' ∨ (if b = a then some l else w.own b) = none
    rw [if_neg nb]
    exact F.ow b l' o h1 h2
theorem setR_ok {S : Sta} {n : Shp} {ς ς' : St} {σ : L2.St} {H Hs : Hp} {w w0 : W} {i : Nat} {v : V} {r : ER} (F : Fr w0 Hs w H) (R : Rel S n ς σ H w) (hd : ∀ a, Hs a = none → w.H0 a = none) (hi : i < n.n) (hl : σ.length = n.n) (hr : n.ro i = false) (ro : ResOk S w Hs H σ v r) (e : setR ς i r = some ς') :
    ∃ w', Fr w0 Hs w' H ∧ Rel S n ς' (σ.set i (some v)) H w' := by
  cases r with
  | fr d =>
    cases e
    exact ⟨w, F, R.set_fr hi hl hr ro⟩
  | tp d =>
    cases e
    obtain ⟨a, rfl, h1, h2, h3, h4⟩ := ro
    exact ⟨take w a (.slot i), F.take h1, R.set_ow hi hl hr h2 h3 h4 (hd a h1)⟩
  | sl j =>
    have e : (settle ς (.sl j)).map (fun p => p.2.set i (some (.fr p.1))) = some ς' := e
    cases q : settle ς (.sl j) with
    | none => rw [q] at e; cases e
    | some p =>
      rw [q] at e
      cases e
      obtain ⟨w', F', R', rp⟩ := settle_ok (d := p.1) (ς' := p.2) F R ro (by rw [q])
      exact ⟨w', F', R'.set_fr hi hl hr rp⟩
def setA (i : Nat) (f : Act ER) : Act Flw := f.bnd fun r ς => (setR ς i r).map fun ς' => .ok .nx ς'
/-- x = e -/
theorem vs_set {i : Nat} {x : Str} {pos' : Pos} (hi : c.N[i]? = some x) (hx : L2.Loc c.sc x) (hr : c.ro i = false) (he : VE c e f) (hf : c.fnn x = true ∨ c.sc.names.lookup x = some .local) (hs : ∀ (env : Env), swapsWith e (some (.Name x pos')) pos.line env = pure false) :
    VS1 c (.Assign [.Name x pos'] e pos) (setA i f) := fun X hX pins s σ H w ς o ho I R T => by
  refine wpAny_Assign_Name (ve_then he hX I R T ho fun r ς1 u s1 v H1 w1 h1 I1 rv F1 R1 T1 ro => ?_) (hs _)
  cases q : setR ς1 i r with
  | none => rw [q] at h1; cases h1
  | some ς2 =>
    rw [q] at h1
    cases h1
    have hlen : i < c.N.length := (List.getElem?_eq_some_iff.mp hi).1
    obtain ⟨w2, F2, R2⟩ := setR_ok F1 R1 (fun a h => by rw [F1.h0]; exact R.dom a h) hlen (by rw [I1.len, hX.N]) hr ro q
    refine store_ok I1 (by rw [hX.N]; exact hX.nd) (by rw [hX.N]; exact hi) (by rw [hX.sc]; exact hx) rv (fun s2 I2 => ⟨_, H1, w2, I2, F2, R2⟩) ?_
    rcases hf with hf | hf
    · exact .inl (hX.fnn x hf)
    · exact .inr (by rw [hX.sc]; exact hf)

/-! ### return, if, expressions -/
/-- what is handed back: a name's own container goes out, if it was not handed in -/
def outR (par : Nat → Bool) (ς : St) : ER → Option (ER × St)
  | .fr d => some (.fr d, ς)
  | .tp d => some (.tp d, ς)
  | .sl i => match ς.sl[i]? with
    | some (some (.fr d)) => some (.fr d, ς)
    | some (some (.ow d)) => if par i = true then some (.fr d, ς.set i (some (.fr d))) else some (.tp d, ς.set i none)
    | _ => none
def drop (w : W) (a : Addr) : W := { w with own := fun b => if b = a then none else w.own b }
theorem Rel.move {S : Sta} {n : Shp} {ς : St} {σ : L2.St} {H : Hp} {w : W} {i : Nat} {d : Dat} (R : Rel S n ς σ H w) (e : ς.sl[i]? = some (some (.ow d))) : ∃ a, σ[i]? = some (some (.ref a)) ∧ w.own a = some (.slot i) ∧ w.Hf a = none ∧ OwnC S w.Hf w.ads H a d ∧ Young w (.ref a) a (.slot i) ∧ Rel S n (ς.set i none) σ H (drop w a) := by
  obtain ⟨v, ev, a, rfl, ho, hn, hc, hy⟩ := R.slots _ _ e
  refine ⟨a, ev, ho, hn, hc, hy, ?_⟩
  have other : ∀ {l : Loc} {v : V} {s : Slot}, l ≠ .slot i → SlotOk S w H l v s → SlotOk S (drop w a) H l v s := fun {l v s} hl h => by
    cases s with
    | fr d => exact h
    | ow d =>
      obtain ⟨b, e, q1, q2, q3, q4⟩ := h
      have nb : b ≠ a := fun q => by rw [q, ho] at q1; exact hl (Option.some.inj q1).symm
      exact ⟨b, e, by show (if b = a then none else w.own b) = _; rw [if_neg nb]; exact q1, q2, q3, by cases l <;> exact q4⟩
  refine ⟨R.sub, fun b u e => ?_, by rw [St.set_len]; exact R.len, fun j s e => ?_, fun k ov e => ?_, R.adk, R.dom, fun b e => ?_, R.arg, R.arl⟩
  · show (if b = a then none else w.own b) = none
    split
    · rfl
    · exact R.nof b u e
  · by_cases hj : i = j
    · subst hj
      rw [St.set_same (by assumption)] at e
      cases e
    · rw [St.set_ne hj] at e
      obtain ⟨u, q1, q2⟩ := R.slots j s e
      exact ⟨u, q1, other (fun q => by cases q; exact hj rfl) q2⟩
  · obtain ⟨b, C, dx, fs, q1, q2, q3, q4, q5, q6, q7⟩ := (R.obs k ov e).ex
    have nb : b ≠ a := fun q => by rw [q, ho] at q3; cases q3
    exact ⟨b, C, dx, fs, q1, q2, by show (if b = a then none else w.own b) = _; rw [if_neg nb]; exact q3, q4, q5, q6, fun i f v s e1 e2 => other (fun q => by cases q) (q7 i f v s e1 e2)⟩
  · show (if b = a then none else w.own b) = none
    split
    · rfl
    · exact R.own0 b e
theorem Fr.drop {w0 w : W} {Hs H : Hp} {a : Addr} (F : Fr w0 Hs w H) : Fr w0 Hs (VS.drop w a) H := by
  refine ⟨F.hf, F.ad, fun b u h1 h2 => ?_, F.nf, F.dm, F.h0, F.as, fun b l' o h1 h2 => ?_⟩
  · obtain ⟨p, q⟩ := F.kp b u h1 h2
    refine ⟨p, ?_⟩
    show (if b = a then none else w.own b) = none
    split
    · rfl
    · exact q
  · show (if b = a then none else w.own b) = some l' ∨ (if b = a then none else w.own b) = none
    split
    · exact .inr rfl
    · exact F.ow b l' o h1 h2
def retA (par : Nat → Bool) (f : Act ER) : Act Flw := f.bnd fun r ς => (outR par ς r).map fun p => .ok (.rt p.1) p.2
theorem out_ok {c : Ctx} {par : Nat → Bool} {ς ς' : St} {σ : L2.St} {H Hs : Hp} {w w0 : W} {v : V} {r q : ER} (F : Fr w0 Hs w H) (R : Rel c.toSta c.n ς σ H w) (hd : ∀ a, Hs a = none → w.H0 a = none) (ro : ResOk c.toSta w Hs H σ v r)
    (hpar : ∀ i, par i = false → w.args[i]? = none) (e : outR par ς r = some (q, ς')) : ∃ w', Fr w0 Hs w' H ∧ Rel c.toSta c.n ς' σ H w' ∧ RetOk c.toSta w' H v q := by
  cases r with
  | fr d =>
    cases e
    exact ⟨w, F, R, ro⟩
  | tp d =>
    cases e
    obtain ⟨a, rfl, h1, h2⟩ := ro
    exact ⟨w, F, R, a, rfl, hd a h1, h2⟩
  | sl i =>
    unfold outR at e
    simp only at e
    split at e
    · rename_i d z
      cases e
      obtain ⟨v', e1, e2⟩ := R.slots _ _ z
      have ro : σ[i]? = some (some v) := ro
      rw [ro] at e1; cases e1
      exact ⟨w, F, R, e2⟩
    · rename_i d z
      split at e
      · cases e
        obtain ⟨w', v', e1, F', R', rp⟩ := R.freeze_slot z
        have ro : σ[i]? = some (some v) := ro
        rw [ro] at e1; cases e1
        exact ⟨w', F.trans F', R', rp⟩
      · rename_i hpi
        cases e
        obtain ⟨a, e1, h1, h2, h3, h4, R'⟩ := R.move z
        have ro : σ[i]? = some (some v) := ro
        rw [ro] at e1; cases e1
        refine ⟨drop w a, F.drop, R', a, rfl, ?_, by show (if a = a then none else w.own a) = none; rw [if_pos rfl], h2, h3⟩
        rcases h4 with h4 | h4
        · exact h4
        · rw [hpar i (by simpa using hpi)] at h4; cases h4
    · cases e
/-- return e; the first names are the parameters -/
theorem vs_ret (he : VE c e f) : VS1 c (.Return (some e) pos) (retA (fun i => decide (i < c.np)) f) := fun X hX pins s σ H w ς o ho I R T => by
  refine wpAny_Return_some (ve_then he hX I R T ho fun r ς1 u s1 v H1 w1 h1 I1 rv F1 R1 T1 ro => ?_)
  cases q : outR (fun i => decide (i < c.np)) ς1 r with
  | none => rw [q] at h1; cases h1
  | some p =>
    rw [q] at h1
    cases h1
    obtain ⟨w2, F2, R2, ro2⟩ := out_ok (par := fun i => decide (i < c.np)) (q := p.1) (ς' := p.2) F1 R1 (fun a h => by rw [F1.h0]; exact R.dom a h) ro (fun i hi => R1.arl i (by show c.np ≤ i; simpa using hi)) (by rw [q])
    exact ⟨v, σ, H1, w2, I1, rv, F2, R2, ro2⟩
theorem vs_retN : VS1 c (.Return none pos) (Act.ret (.rt (.fr .non))) := fun X hX pins s σ H w ς o ho I R T => by
  cases ho
  exact wpAny_Return_none ⟨.non, σ, H, w, I, rfl, Fr.refl _ _, R, .non⟩
theorem vs_pass : VS1 c (.Pass pos) (Act.ret .nx) := fun X hX pins s σ H w ς o ho I R T => by
  cases ho
  exact wpAny_Pass ⟨σ, H, w, I, Fr.refl _ _, R⟩
theorem vs_break : VS1 c (.Break pos) (Act.ret .bk) := fun X hX pins s σ H w ς o ho I R T => by
  cases ho
  exact wpAny_Break ⟨σ, H, w, I, Fr.refl _ _, R⟩
theorem vs_cont : VS1 c (.Continue pos) (Act.ret .ct) := fun X hX pins s σ H w ς o ho I R T => by
  cases ho
  exact wpAny_Continue ⟨σ, H, w, I, Fr.refl _ _, R⟩
theorem vs_doc {x j pos pos'} : VS1 c (.Expr (.Constant (.str x) j pos) pos') (Act.ret .nx) := fun X hX pins s σ H w ς o ho I R T => by
  cases ho
  refine wpAny_mono ((ps_doc (X := X.nox) (x := x) (j := j) (pos := pos) (pos' := pos')).run pins s σ H { nx := fun σ' H' => σ' = σ ∧ H' = H, rt := fun _ _ => False } (I.wish _) ⟨rfl, rfl⟩) (fun fl s' z => ?_) fun _ _ z => False.elim z
  cases fl with
  | next => obtain ⟨σ', H', I', rfl, rfl⟩ := z; exact ⟨_, _, w, I'.unwish, Fr.refl _ _, R⟩
  | ret u => obtain ⟨_, _, _, _, _, z⟩ := z; exact z.elim
  | brk => obtain ⟨_, _, _, z⟩ := z; exact z.elim
  | cont => obtain ⟨_, _, _, z⟩ := z; exact z.elim
def dropA (f : Act ER) : Act Flw := f.bnd fun _ => Act.ret .nx
theorem vs_expr (he : VE c e f) (hs : ∀ env : Env, swapsWith e none pos.line env = pure false) : VS1 c (.Expr e pos) (dropA f) := fun X hX pins s σ H w ς o ho I R T => by
  refine wpAny_Expr_any (ve_then he hX I R T ho fun r ς1 u s1 v H1 w1 h1 I1 rv F1 R1 T1 ro => ?_) I.quiet (hs _)
  cases h1
  exact ⟨σ, H1, w1, I1, F1, R1⟩
theorem vs_if {t : Expr} {as bs : List Stmt} {ft : Act Bool} (ht : VT c t ft) (ha : VSs c as g) (hb : VSs c bs h) : VS1 c (.If t as bs pos) (iteA ft g h) := fun X hX pins s σ H w ς o ho I R T => by
  refine wpAny_If (vt_then ht hX I R T ho fun k ς1 s1 H1 w1 h1 I1 F1 R1 T1 => ?_)
  cases k with
  | true =>
    simp only [if_true] at h1 ⊢
    exact wpAny_mono (ha X hX pins s1 σ H1 w1 ς1 o h1 I1 R1 T1) (fun b s' z => NS.from F1 z) fun _ _ z => z
  | false =>
    simp only [Bool.false_eq_true, if_false] at h1 ⊢
    exact wpAny_mono (hb X hX pins s1 σ H1 w1 ς1 o h1 I1 R1 T1) (fun b s' z => NS.from F1 z) fun _ _ z => z
end
end VS

namespace VS
open PySem L2 PyProof.Rows

/-! ### while -/
def whileA (ft : Act Bool) (g : Act Flw) : Nat → Act Flw
  | 0 => fun _ => none
  | n + 1 => ft.bnd fun b => if b = true then g.bnd fun k => match k with
      | .nx => whileA ft g n
      | .ct => whileA ft g n
      | .bk => Act.ret .nx
      | .rt r => Act.ret (.rt r)
    else Act.ret .nx
section
variable {c : Ctx} {X : Cx} {a b e : Expr} {fa fb : Act ER} {pos : Pos} {es : List Expr} {f : Act ER} {st : Stmt} {rest body : List Stmt} {g h : Act Flw}
/-- a block, then what follows -/
theorem vss_then {β : Type} {k : Flw → Act β} {o : Out β} {sts : List Stmt} (h : VSs c sts g) (hX : c.Ok X) {pins : List (Addr × Obj)} {s : Shared} {σ : L2.St} {H : Hp} {w : W} {ς : St} (I : Inv X pins σ H s) (R : Rel c.toSta c.n ς σ H w) (T : XT c X w H o) (ho : g.bnd k ς = some o) {Q : Flow → Shared → Prop}
    (hk : ∀ (fl : Flw) (ς1 : St) (u : Flow) (s1 : Shared), k fl ς1 = some o → NS c X pins w H (.ok fl ς1) u s1 → Q u s1) :
    wpAny (model X.prog X.w) X.A (execs sts X.env) Q X.xe s := by
  unfold Act.bnd at ho
  cases q : g ς with
  | none => rw [q] at ho; cases ho
  | some o1 =>
    rw [q] at ho
    cases o1 with
    | ok r ς1 => exact wpAny_mono (h X hX pins s σ H w ς _ q I R trivial) (fun u s1 z => hk r ς1 u s1 ho z) fun _ _ z => z
    | ex x ς1 =>
      cases ho
      exact wpAny_mono (h X hX pins s σ H w ς _ q I R T) (fun u _ z => by cases u <;> exact z.elim) fun u s1 z => z
theorem vs_while {t : Expr} {ft : Act Bool} (n : Nat) (ht : VT c t ft) (hb : VSs c body g) : VS1 c (.While t body [] pos) (whileA ft g n) := fun X hX pins s σ H w ς o ho I R T => by
  refine wpAny_While (codeAny_whileLoop (fun n s' => ∃ σ' H' w' ς', Inv X pins σ' H' s' ∧ Fr w H w' H' ∧ Rel c.toSta c.n ς' σ' H' w' ∧ whileA ft g n ς' = some o) ?_ n ⟨σ, H, w, ς, I, Fr.refl _ _, R, ho⟩)
  rintro n s1 ⟨σ1, H1, w1, ς1, I1, F1, R1, h1⟩
  cases n with
  | zero => cases h1
  | succ n =>
    refine wpAny_passesOwn hX.po (vt_then ht hX I1 R1 (T.from F1) h1 fun b ς2 s2 H2 w2 h2 I2 F2 R2 T2 => ?_)
    cases b with
    | false =>
      simp only [Bool.false_eq_true, if_false] at h2 ⊢
      cases h2
      exact wpAny_execs_nil ⟨σ1, H2, w2, I2, F1.trans F2, R2⟩
    | true =>
      simp only [if_true] at h2 ⊢
      refine wpAny_passesOwn hX.po (vss_then hb hX I2 R2 T2 h2 fun fl ς3 u s3 h3 z => ?_)
      cases fl with
      | nx =>
        cases u <;> first | exact z.elim | skip
        obtain ⟨σ3, H3, w3, I3, F3, R3⟩ := z
        exact ⟨n, Nat.lt_succ_self n, σ3, H3, w3, ς3, I3, (F1.trans F2).trans F3, R3, h3⟩
      | ct =>
        cases u <;> first | exact z.elim | skip
        obtain ⟨σ3, H3, w3, I3, F3, R3⟩ := z
        exact ⟨n, Nat.lt_succ_self n, σ3, H3, w3, ς3, I3, (F1.trans F2).trans F3, R3, h3⟩
      | bk =>
        cases u <;> first | exact z.elim | skip
        cases h3
        obtain ⟨σ3, H3, w3, I3, F3, R3⟩ := z
        exact ⟨σ3, H3, w3, I3, (F1.trans F2).trans F3, R3⟩
      | rt r =>
        cases u <;> first | exact z.elim | skip
        cases h3
        obtain ⟨v, σ3, H3, w3, I3, rv, F3, R3, ro⟩ := z
        exact ⟨v, σ3, H3, w3, I3, rv, (F1.trans F2).trans F3, R3, ro⟩

end
/-! ### what a loop walks -/
/-- the walk yields the data ds, one a turn; what it yields is shared -/
structure WalkOk (c : Ctx) (J : It) (ds : List Dat) (w : W) : Prop where
  go : ∀ (i : Nat) (w' : W) (H' : Hp), i < ds.length → Ext w.Hf w'.Hf → Ext w'.Hf H' → J.go i H'
  stop : ∀ (w' : W) (H' : Hp), Ext w.Hf w'.Hf → Ext w'.Hf H' → J.stop ds.length H'
  yld : ∀ (i : Nat) (x : V) (H' : Hp) (w' : W) (H'' : Hp) (ς : St) (σ : L2.St), i < ds.length → Rel c.toSta c.n ς σ H' w' → Ext w.Hf w'.Hf → AExt w.ads w'.ads → J.yld i H' x H'' → ∃ w'', Fr w' H' w'' H'' ∧ Rel c.toSta c.n ς σ H'' w'' ∧ ∃ d, ds[i]? = some d ∧ Rep c.toSta w''.Hf w''.ads x d
/-- an iterable: f leaves what it walks -/
def VI (c : Ctx) (tg iter : Expr) (f : Act (List Dat)) : Prop :=
  ∀ X, c.Ok X → ∀ (pins : List (Addr × Obj)) (s : Shared) (σ : L2.St) (H : Hp) (w : W) (ς : St) (o : Out (List Dat)), f ς = some o → Inv X pins σ H s → Rel c.toSta c.n ς σ H w → XT c X w H o →
    wpAny (model X.prog X.w) X.A (eval iter X.env) (fun v s1 => wpAny (model X.prog X.w) X.A (pyIter v) (fun itv s2 => match o with
      | .ok ds ς' => PIE X pins σ tg (fun J H' => ∃ w', Fr w H w' H' ∧ Rel c.toSta c.n ς' σ H' w' ∧ WalkOk c J ds w') itv s2
      | .ex _ _ => False) X.xe s1) X.xe s
section
variable {c : Ctx} {X : Cx} {a b e tg iter : Expr} {fa fb : Act ER} {pos : Pos} {es : List Expr} {f : Act ER} {st : Stmt} {rest body : List Stmt} {g h : Act Flw} {fi : Act (List Dat)}
theorem walk_list {a : Addr} {vs : List V} {ds : List Dat} {w : W} (h : SqL c.K w.Hf a vs) (r : Reps c.toSta w.Hf w.ads vs ds) : WalkOk c (Itl c.K a) ds w where
  go := fun i w' H' hi e1 e2 => by
    have hl : i < vs.length := by rw [r.length]; exact hi
    exact ⟨vs, vs[i], e2.sqL (e1.sqL h), by simp [hl]⟩
  stop := fun w' H' e1 e2 => ⟨vs, e2.sqL (e1.sqL h), by rw [r.length]; exact Nat.le_refl _⟩
  yld := fun i x H' w' H'' ς σ hi R e1 ea y => by
    obtain ⟨rfl, y⟩ := y
    have q := y vs (Ext.sqL R.sub (e1.sqL h))
    obtain ⟨d, h1, h2⟩ := (r.mono e1 ea).getV q
    exact ⟨w', Fr.refl _ _, R, d, h1, h2⟩
theorem walk_tup {a : Addr} {vs : List V} {ds : List Dat} {w : W} (h : SqT c.K w.Hf a vs) (r : Reps c.toSta w.Hf w.ads vs ds) : WalkOk c (Itt c.K a) ds w where
  go := fun i w' H' hi e1 e2 => by
    have hl : i < vs.length := by rw [r.length]; exact hi
    exact ⟨vs, vs[i], e2.sqT (e1.sqT h), by simp [hl]⟩
  stop := fun w' H' e1 e2 => ⟨vs, e2.sqT (e1.sqT h), by rw [r.length]; exact Nat.le_refl _⟩
  yld := fun i x H' w' H'' ς σ hi R e1 ea y => by
    obtain ⟨rfl, y⟩ := y
    have q := y vs (Ext.sqT R.sub (e1.sqT h))
    obtain ⟨d, h1, h2⟩ := (r.mono e1 ea).getV q
    exact ⟨w', Fr.refl _ _, R, d, h1, h2⟩
def rangeD (lo : Int) (n : Nat) : List Dat := (List.range n).map fun (i : Nat) => Dat.int (lo + (i : Int))
theorem walk_range (lo : Int) (n : Nat) (w : W) : WalkOk c (Itr lo n) (rangeD lo n) w where
  go := fun i w' H' hi e1 e2 => by
    have hl : i < n := by simpa [rangeD] using hi
    exact hl
  stop := fun w' H' e1 e2 => by
    show n ≤ _
    simp [rangeD]
  yld := fun i x H' w' H'' ς σ hi R e1 ea y => by
    obtain ⟨rfl, rfl⟩ := y
    have hl : i < n := by simpa [rangeD] using hi
    exact ⟨w', Fr.refl _ _, R, .int (lo + (i : Int)), by simp [rangeD, hl], .int _⟩
def signsD (x : Str) : List Dat := x.cps.toList.map fun k => .str ⟨#[k]⟩
theorem walk_str (x : Str) (w : W) : WalkOk c (Its x) (signsD x) w where
  go := fun i w' H' hi e1 e2 => by
    have hl : i < x.cps.size := by simpa [signsD] using hi
    exact hl
  stop := fun w' H' e1 e2 => by
    show x.cps.size ≤ _
    simp [signsD]
  yld := fun i y H' w' H'' ς σ hi R e1 ea y => by
    obtain ⟨rfl, k, hk, rfl⟩ := y
    refine ⟨w', Fr.refl _ _, R, .str ⟨#[k]⟩, ?_, .str _⟩
    have hk' : x.cps.toList[i]? = some k := by simpa using hk
    simp [signsD, hk']

/-- an iterable's data: a list, a tuple, a text -/
def walkD : Dat → Option (List Dat)
  | .lst ds => some ds
  | .tup ds => some ds
  | .str x => some (signsD x)
  | _ => none
def iterA (f : Act ER) : Act (List Dat) := f.bnd fun r ς => (settle ς r).bind fun p => (walkD p.1).map fun ds => .ok ds p.2
theorem itc_K {J : It} {X : Cx} (hX : c.Ok X) (a : Addr) : Itl X.K a = Itl c.K a := by rw [hX.K]
/-- a value that is walked -/
theorem vi_val (he : VE c e f) : VI c tg e (iterA f) := fun X hX pins s σ H w ς o ho I R T => by
  refine ve_then he hX I R T ho fun r ς1 u s1 v H1 w1 h1 I1 rv F1 R1 T1 ro => ?_
  cases e1 : settle ς1 r with
  | none => rw [e1] at h1; cases h1
  | some p =>
    obtain ⟨d, ς2⟩ := p
    rw [e1] at h1
    simp only [Option.bind_some] at h1
    cases e2 : walkD d with
    | none => rw [e2] at h1; cases h1
    | some ds =>
      rw [e2] at h1
      cases h1
      obtain ⟨w2, F2, R2, rp⟩ := settle_ok F1 R1 ro e1
      have fromPI : ∀ {wi : TI}, PI X.nox tg e wi → True := fun _ => trivial
      -- by the rule for the value itself: a name that holds it
      cases d with
      | lst ds' =>
        cases e2
        cases rp with
        | lst hl rs =>
          rename_i a vs
          cases rv
          obtain ⟨its, rvl, p, hz⟩ := I1.list (X := X) (by rw [hX.K]; exact Ext.sqL R2.sub hl)
          refine wpAny_pyIter_list p.isList ?_
          refine ⟨s1.heap.objs.size, [s1.heap.objs.size], _, _, H1, rfl, I1.kept (t' := s1.toks) fun b o e => Heap.get?_push_of_some _ e, turn_list a _, ⟨_, Heap.get?_push_size _ rfl, rfl, rfl⟩, fun b hb => ?_, ⟨w2, F2, R2, by rw [hX.K]; exact walk_list hl rs⟩⟩
          have e : b = s1.heap.objs.size := by simpa using hb
          subst e
          exact I1.fpOk (Nat.le_refl _) (I1.hok.fresh (Nat.le_refl _))
      | tup ds' =>
        cases e2
        cases rp with
        | tup hl rs =>
          rename_i a vs
          cases rv
          obtain ⟨its, rvl, p, hz⟩ := I1.tuple (X := X) (by rw [hX.K]; exact Ext.sqT R2.sub hl)
          refine wpAny_pyIter_tuple (show s1.heap.IsTuple a its.toArray from p) ?_
          refine ⟨s1.heap.objs.size, [s1.heap.objs.size], _, _, H1, rfl, I1.kept (t' := s1.toks) fun b o e => Heap.get?_push_of_some _ e, turn_tuple a _, ⟨_, Heap.get?_push_size _ rfl, rfl, rfl⟩, fun b hb => ?_, ⟨w2, F2, R2, by rw [hX.K]; exact walk_tup hl rs⟩⟩
          have e : b = s1.heap.objs.size := by simpa using hb
          subst e
          exact I1.fpOk (Nat.le_refl _) (I1.hok.fresh (Nat.le_refl _))
      | str x =>
        cases e2
        cases rp
        obtain ⟨t, rfl⟩ := rv
        cases ha : x.cps.all (· < 128)
        · exact wpAny_pyIter_wide ha (pi_one (tk := s1.toks) I1 _ (turn_str _ x t "str_iterator" (.inr rfl)) ⟨_, Heap.get?_push_size _ rfl, rfl, rfl⟩ ⟨w2, F2, R2, walk_str x w2⟩)
        · exact wpAny_pyIter_ascii ha (pi_one (tk := s1.toks) I1 _ (turn_str _ x t "str_ascii_iterator" (.inl rfl)) ⟨_, Heap.get?_push_size _ rfl, rfl, rfl⟩ ⟨w2, F2, R2, walk_str x w2⟩)
      | _ => cases e2
end
end VS

namespace VS
open PySem L2 PyProof.Rows

/-! ### targets -/
/-- a target takes a shared datum -/
def VG (c : Ctx) (tg : Expr) (t : Dat → St → Option St) (is : List Nat) : Prop :=
  ∀ X, c.Ok X → ∀ (pins : List (Addr × Obj)) (s : Shared) (σ : L2.St) (H : Hp) (w : W) (ς ς' : St) (v : V) (u : Value) (d : Dat), t d ς = some ς' → Inv X pins σ H s → Rel c.toSta c.n ς σ H w → RelV v u → Rep c.toSta w.Hf w.ads v d →
    wpAny (model X.prog X.w) X.A (assign tg X.env u) (fun _ s' => ∃ σ' w', Inv X pins σ' H s' ∧ Fr w H w' H ∧ Rel c.toSta c.n ς' σ' H w' ∧ ∀ j, j ∉ is → σ'[j]? = σ[j]?) (fun _ _ => False) s
def VGs (c : Ctx) (tgs : List Expr) (t : List Dat → St → Option St) (is : List Nat) : Prop :=
  ∀ X, c.Ok X → ∀ (pins : List (Addr × Obj)) (s : Shared) (σ : L2.St) (H : Hp) (w : W) (ς ς' : St) (vs : List V) (us : List Value) (ds : List Dat), t ds ς = some ς' → Inv X pins σ H s → Rel c.toSta c.n ς σ H w → Vals vs us → Reps c.toSta w.Hf w.ads vs ds →
    wpAny (model X.prog X.w) X.A (assignInOrder ((assignEach tgs X.env).map (·.2)) us) (fun _ s' => ∃ σ' w', Inv X pins σ' H s' ∧ Fr w H w' H ∧ Rel c.toSta c.n ς' σ' H w' ∧ ∀ j, j ∉ is → σ'[j]? = σ[j]?) (fun _ _ => False) s
section
variable {c : Ctx} {X : Cx} {a b e tg iter : Expr} {fa fb : Act ER} {pos : Pos} {es : List Expr} {f : Act ER} {st : Stmt} {rest body : List Stmt} {g h : Act Flw} {fi : Act (List Dat)}
def tgName (i : Nat) (d : Dat) (ς : St) : Option St := some (ς.set i (some (.fr d)))
theorem vg_name {i : Nat} {x : Str} (hi : c.N[i]? = some x) (hx : L2.Loc c.sc x) (hr : c.ro i = false) (hf : c.fnn x = true ∨ c.sc.names.lookup x = some .local) : VG c (.Name x pos) (tgName i) [i] := fun X hX pins s σ H w ς ς' v u d ht I R rv rp => by
  cases ht
  have hlen : i < c.N.length := (List.getElem?_eq_some_iff.mp hi).1
  refine wpAny_assign_Name (store_ok I (by rw [hX.N]; exact hX.nd) (by rw [hX.N]; exact hi) (by rw [hX.sc]; exact hx) rv (fun s2 I2 => ⟨_, w, I2, Fr.refl _ _, R.set_fr hlen (by rw [I.len, hX.N]) hr rp, fun j hj => List.getElem?_set_ne (fun q => hj (by simp [q]))⟩) ?_)
  rcases hf with hf | hf
  · exact .inl (hX.fnn x hf)
  · exact .inr (by rw [hX.sc]; exact hf)
def tgNil : List Dat → St → Option St
  | [], ς => some ς
  | _ :: _, _ => none
def tgCons (t : Dat → St → Option St) (u : List Dat → St → Option St) : List Dat → St → Option St
  | [], _ => none
  | d :: ds, ς => (t d ς).bind (u ds)
theorem vgs_nil : VGs c [] tgNil [] := fun X hX pins s σ H w ς ς' vs us ds ht I R rv rp => by
  cases rp with
  | nil =>
    cases ht
    cases rv
    exact assignInOrder_nil ⟨σ, w, I, Fr.refl _ _, R, fun _ _ => rfl⟩
  | cons r t => cases ht
theorem vgs_cons {t : Dat → St → Option St} {u : List Dat → St → Option St} {is js : List Nat} (h1 : VG c e t is) (h2 : VGs c es u js) (hs : ∀ env : Env, (assignEach (e :: es) env).map (·.2) = assign e env :: (assignEach es env).map (·.2)) : VGs c (e :: es) (tgCons t u) (is ++ js) := fun X hX pins s σ H w ς ς' vs us ds ht I R rv rp => by
  cases rp with
  | nil => cases ht
  | cons r q =>
    rename_i v d vs ds
    cases rv with
    | cons rv rvs =>
      have ht : (t d ς).bind (u ds) = some ς' := ht
      cases e1 : t d ς with
      | none => rw [e1] at ht; cases ht
      | some ς1 =>
        rw [e1] at ht
        rw [hs]
        refine assignInOrder_cons (wpAny_mono (h1 X hX pins s σ H w ς ς1 _ _ d e1 I R rv r) (fun _ s1 ⟨σ1, w1, I1, F1, R1, k1⟩ => ?_) fun _ _ z => z)
        exact wpAny_mono (h2 X hX pins s1 σ1 H w1 ς1 ς' _ _ ds ht I1 R1 rvs (q.mono F1.hf F1.ad)) (fun _ s2 ⟨σ2, w2, I2, F2, R2, k2⟩ => ⟨σ2, w2, I2, F1.trans F2, R2, fun j hj => (k2 j (fun z => hj (List.mem_append_right _ z))).trans (k1 j (fun z => hj (List.mem_append_left _ z)))⟩) fun _ _ z => z
def tgTup (n : Nat) (t : List Dat → St → Option St) : Dat → St → Option St
  | .tup ds, ς => if ds.length = n then t ds ς else none
  | _, _ => none
theorem vg_tup {k : Nat} {n : Nat} {t : List Dat → St → Option St} {is : List Nat} (h : VGs c es t is) (hn : ∀ env : Env, (assignEach es env).length = n) (hst : ∀ env : Env, (assignEach es env).findIdx? (·.1) = none) : VG c (.Tuple es k pos) (tgTup n t) is := fun X hX pins s σ H w ς ς' v u d ht I R rv rp => by
  unfold tgTup at ht
  split at ht
  · rename_i ds
    split at ht
    · rename_i hl
      cases rp with
      | tup hq rs =>
        cases rv
        obtain ⟨its, rvl, htup, hz⟩ := I.tuple (X := X) (by rw [hX.K]; exact Ext.sqT R.sub hq)
        have hl1 := rs.length
        have hl2 := rvl.length
        refine assign_Tuple_tuple (I.ok.hd hX.calm) htup (by simp [hn, ← hl, ← hl2, hl1]) (hst _) fun h' hx => ?_
        have I1 : Inv X pins σ H { s with heap := h' } := I.kept (t' := s.toks) fun b o e => hx b o (Nat.ne_of_lt (Heap.lt_size e)) e
        exact h X hX pins _ σ H w ς ς' _ _ ds ht I1 R (by simpa using rvl) rs
    · cases ht
  · cases ht

/-! ### for -/
def forA (t : Dat → St → Option St) (g : Act Flw) : List Dat → Act Flw
  | [] => Act.ret .nx
  | d :: ds => fun ς => match t d ς with
    | none => none
    | some ς' => g.bnd (fun k => match k with
      | .nx => forA t g ds
      | .ct => forA t g ds
      | .bk => Act.ret .nx
      | .rt r => Act.ret (.rt r)) ς'
theorem vi_then {β : Type} {k : List Dat → Act β} {o : Out β} (h : VI c tg iter fi) (hX : c.Ok X) {pins : List (Addr × Obj)} {s : Shared} {σ : L2.St} {H : Hp} {w : W} {ς : St} (I : Inv X pins σ H s) (R : Rel c.toSta c.n ς σ H w) (T : XT c X w H o) (ho : fi.bnd k ς = some o) {Q : Value → Shared → Prop}
    (hk : ∀ (ds : List Dat) (ς1 : St) (u : Value) (s1 : Shared), k ds ς1 = some o → PIE X pins σ tg (fun J H' => ∃ w', Fr w H w' H' ∧ Rel c.toSta c.n ς1 σ H' w' ∧ WalkOk c J ds w') u s1 → Q u s1) :
    wpAny (model X.prog X.w) X.A (eval iter X.env) (fun v s1 => wpAny (model X.prog X.w) X.A (pyIter v) Q X.xe s1) X.xe s := by
  unfold Act.bnd at ho
  cases q : fi ς with
  | none => rw [q] at ho; cases ho
  | some o1 =>
    rw [q] at ho
    cases o1 with
    | ok r ς1 => exact wpAny_mono (h X hX pins s σ H w ς _ q I R trivial) (fun u s1 z => wpAny_mono z (fun u s2 z => hk r ς1 u s2 ho z) fun _ _ z => z) fun _ _ z => z
    | ex x ς1 =>
      cases ho
      exact wpAny_mono (h X hX pins s σ H w ς _ q I R T) (fun u s1 z => wpAny_mono z (fun u s2 z => z.elim) fun _ _ z => z) fun u s1 z => z
theorem vs_for {t : Dat → St → Option St} {is : List Nat} (hi : VI c tg iter fi) (hg : VG c tg t is) (hb : VSs c body g) (hs : ∀ env x, foldedSetIterable iter env x = pure x) : VS1 c (.For tg iter body [] pos) (fi.bnd (forA t g)) := fun X hX pins s σ H w ς o ho I R T => by
  refine wpAny_For (vi_then hi hX I R T ho fun ds ς1 itv s2 h1 z => ?_) (hs _)
  obtain ⟨it, fp, tn, J, H2, rfl, I2, Tn, st2, f2, w2, F2, R2, WK⟩ := z
  have stat : ∀ {H' : Hp}, (∀ b ∈ fp, H' b = none) → ∀ b ∈ fp, FpOk X pins H' b := fun hn b hb => ⟨hn b hb, (f2 b hb).2⟩
  refine codeAny_forLoop_any (fun n s' => ∃ i σ' H' w' ς' ds', Inv X pins σ' H' s' ∧ tn i s'.heap ∧ (∀ b ∈ fp, H' b = none) ∧ Fr w2 H2 w' H' ∧ Rel c.toSta c.n ς' σ' H' w' ∧ n = ds'.length ∧ ds' = ds.drop i ∧ i ≤ ds.length ∧ forA t g ds' ς' = some o) ?_ ds.length
    ⟨0, σ, H2, w2, ς1, ds, I2, st2, fun b hb => (f2 b hb).1, Fr.refl _ _, R2, rfl, by simp, by simp, h1⟩
  rintro n s3 ⟨i, σ3, H3, w3, ς3, ds3, I3, st3, fr3, F3, R3, hn, hd, hl, h3⟩
  cases ds3 with
  | nil =>
    have hi : i = ds.length := by have := congrArg List.length hd; simp at this; omega
    subst hi
    have stop := WK.stop w3 H3 F3.hf R3.sub
    refine wpAny_passesOwn hX.po (wpAny_mono (Tn.done X rfl rfl rfl hX.calm ds.length pins s3 σ3 H3 X.xe I3 (stat fr3) st3 stop) (fun r s4 ⟨hr, I4⟩ => ?_) fun _ _ z => z)
    subst hr
    cases h3
    exact wpAny_execs_nil ⟨σ3, H3, w3, I4, F2.trans F3, R3⟩
  | cons d ds3 =>
    have hi : i < ds.length := by have := congrArg List.length hd; simp at this; omega
    have hdi : ds[i]? = some d := by
      have q : (ds.drop i)[0]? = some d := by rw [← hd]; rfl
      rw [List.getElem?_drop] at q
      simpa using q
    have hdn : ds3 = ds.drop (i + 1) := by
      have q : (ds.drop i).drop 1 = ds3 := by rw [← hd]; rfl
      rw [List.drop_drop] at q
      exact q.symm
    have go := WK.go i w3 H3 hi F3.hf R3.sub
    refine wpAny_passesOwn hX.po (wpAny_mono (Tn.item X rfl rfl rfl hX.calm i pins s3 σ3 H3 X.xe I3 (stat fr3) st3 go) (fun r s4 ⟨u, hr, h4⟩ => ?_) fun _ _ z => z)
    subst hr
    refine wpAny_passesOwn hX.po (wpAny_mono h4 (fun _ s5 ⟨x, H5, I5, r5, y5, st5, fr5⟩ => ?_) fun _ _ z => z)
    obtain ⟨w5, F5, R5, d', hd', rp5⟩ := WK.yld i x H3 w3 H5 ς3 σ3 hi R3 F3.hf F3.ad y5
    rw [hdi] at hd'
    cases hd'
    have I5' := I5.pinned (stat fr5) (Tn.obj _ _ st5)
    have h3 : (match t d ς3 with | none => none | some ς' => g.bnd (fun k => match k with | .nx => forA t g ds3 | .ct => forA t g ds3 | .bk => Act.ret .nx | .rt r => Act.ret (.rt r)) ς') = some o := h3
    cases e6 : t d ς3 with
    | none => rw [e6] at h3; cases h3
    | some ς6 =>
      rw [e6] at h3
      simp only at h3
      refine wpAny_passesOwn hX.po (wpAny_mono (hg X hX _ s5 σ3 H5 w5 ς3 ς6 x u d e6 I5' R5 r5 rp5) (fun _ s6 ⟨σ6, w6, I6, F6, R6, _⟩ => ?_) fun _ _ z => z.elim)
      have F06 := ((F2.trans F3).trans F5).trans F6
      refine wpAny_passesOwn hX.po (vss_then hb hX I6 R6 (T.from F06) h3 fun fl ς7 u7 s7 h7 z => ?_)
      have again : ∀ {σ7 : L2.St} {H7 : Hp} {w7 : W}, Inv X (pins ++ pinsAt fp s5.heap) σ7 H7 s7 → Fr w6 H5 w7 H7 → Rel c.toSta c.n ς7 σ7 H7 w7 → forA t g ds3 ς7 = some o → ∃ m, m < n ∧ ∃ i σ' H' w' ς' ds', Inv X pins σ' H' s7 ∧ tn i s7.heap ∧ (∀ b ∈ fp, H' b = none) ∧ Fr w2 H2 w' H' ∧ Rel c.toSta c.n ς' σ' H' w' ∧ m = ds'.length ∧ ds' = ds.drop i ∧ i ≤ ds.length ∧ forA t g ds' ς' = some o := fun {σ7 H7 w7} I7 F7 R7 q7 => by
        refine ⟨ds3.length, by rw [hn]; simp, i + 1, σ7, H7, w7, ς7, ds3, I7.unpinned, Tn.keep _ _ _ st5 fun b hb o e => (I7.pin (b, o) (List.mem_append_right _ (List.mem_append_right _ (mem_pinsAt hb e)))).1, fun b hb => ?_, ((F3.trans F5).trans F6).trans F7, R7, rfl, hdn, hi, q7⟩
        obtain ⟨o, e, _⟩ := Tn.obj _ _ st5 b hb
        exact (I7.pin (b, o) (List.mem_append_right _ (List.mem_append_right _ (mem_pinsAt hb e)))).2.1
      cases fl with
      | nx =>
        cases u7 <;> first | exact z.elim | skip
        obtain ⟨σ7, H7, w7, I7, F7, R7⟩ := z
        exact again I7 F7 R7 h7
      | ct =>
        cases u7 <;> first | exact z.elim | skip
        obtain ⟨σ7, H7, w7, I7, F7, R7⟩ := z
        exact again I7 F7 R7 h7
      | bk =>
        cases u7 <;> first | exact z.elim | skip
        cases h7
        obtain ⟨σ7, H7, w7, I7, F7, R7⟩ := z
        exact ⟨σ7, H7, w7, I7.unpinned, F06.trans F7, R7⟩
      | rt r =>
        cases u7 <;> first | exact z.elim | skip
        cases h7
        obtain ⟨v, σ7, H7, w7, I7, rv, F7, R7, ro⟩ := z
        exact ⟨v, σ7, H7, w7, I7.unpinned, rv, F06.trans F7, R7, ro⟩
end
end VS

namespace VS
open PySem L2 PyProof.Rows

/-! ### defs -/
/-- what a call leaves: the answer (or the exception), what stands under the parameters, the objects -/
inductive FOut where
  | ok (r : ER) (outs : List Slot) (ob : List OVal) | ex (x : Exn) (outs : List Slot) (ob : List OVal)
abbrev FD := List Slot → List OVal → Option FOut
structure Entry (S : Sta) (w : W) (vs : List V) (H : Hp) (args : List Slot) (ob : List OVal) : Prop where
  sub : ∀ a o, w.Hf a = some o → H a = some o
  nof : ∀ a o, w.Hf a = some o → w.own a = none
  own0 : ∀ a, H a = none → w.own a = none
  h0 : w.H0 = H
  as : w.args = vs
  len : vs.length = args.length
  arg : ∀ i s, args[i]? = some s → ∃ v, vs[i]? = some v ∧ SlotOk S w H (.slot i) v s
  obs : ∀ k o, ob[k]? = some o → ObOk S w H k o
  adk : ∀ k a, w.ads k = some a → k < ob.length
structure RelX (S : Sta) (w : W) (vs : List V) (H : Hp) (outs : List Slot) (ob : List OVal) : Prop where
  sub : ∀ a o, w.Hf a = some o → H a = some o
  nof : ∀ a o, w.Hf a = some o → w.own a = none
  own0 : ∀ a, H a = none → w.own a = none
  arg : ∀ i s, outs[i]? = some s → ∃ v, vs[i]? = some v ∧ SlotOk S w H (.slot i) v s
  obs : ∀ k o, ob[k]? = some o → ObOk S w H k o
  adk : ∀ k a, w.ads k = some a → k < ob.length
/-- the promise of a def that does F -/
def spV (S : Sta) (np : Nat) (F : FD) : Sp := fun vs H Q E => ∃ (w : W) (args : List Slot) (ob : List OVal) (o : FOut), args.length = np ∧ Entry S w vs H args ob ∧ F args ob = some o ∧
  match o with
  | .ok r outs ob' => ∀ v H' w', Fr w H w' H' → RelX S w' vs H' outs ob' → RetOk S w' H' v r → Q v H'
  | .ex x outs ob' => ∀ cls dd H' w', Fr w H w' H' → RelX S w' vs H' outs ob' → ExOk S w' H' cls dd x → E cls dd H'
/-- what stands under the parameters at the end -/
def outsO (ς : St) : List Slot → Nat → Option (List Slot)
  | [], _ => some []
  | .fr d :: r, i => (outsO ς r (i + 1)).map (Slot.fr d :: ·)
  | .ow _ :: r, i => match ς.sl[i]? with
    | some (some s) => (outsO ς r (i + 1)).map (s :: ·)
    | _ => none
/-- what is handed in as its own stands under a name that is never stored -/
def roOk (ro : Nat → Bool) : List Slot → Nat → Bool
  | [], _ => true
  | .fr _ :: r, i => roOk ro r (i + 1)
  | .ow _ :: r, i => ro i && roOk ro r (i + 1)
def runB (n np : Nat) (ro : Nat → Bool) (g : Act Flw) : FD := fun args ob =>
  if args.length = np ∧ roOk ro args 0 = true then
    match g ⟨args.map some ++ List.replicate (n - args.length) none, ob⟩ with
    | some (.ok .nx ς) => (outsO ς args 0).map fun outs => .ok (.fr .non) outs ς.ob
    | some (.ok (.rt r) ς) => (outsO ς args 0).map fun outs => .ok r outs ς.ob
    | some (.ex x ς) => (outsO ς args 0).map fun outs => .ex x outs ς.ob
    | _ => none
  else none
section
variable {S : Sta} {n : Shp} {ς : St} {σ : L2.St} {H H' : Hp} {w w0 w' : W} {vs : List V}
theorem outs_ok (R : Rel S n ς σ H' w') (F : Fr w H w' H') (ro : Nat → Bool) (hn : n.ro = ro) (has : w'.args = vs) : ∀ (args : List Slot) (k : Nat) (outs : List Slot), roOk ro args k = true → (∀ i s, args[i]? = some s → ∃ v, vs[k + i]? = some v ∧ SlotOk S w H (.slot (k + i)) v s) → outsO ς args k = some outs →
    ∀ i s, outs[i]? = some s → ∃ v, vs[k + i]? = some v ∧ SlotOk S w' H' (.slot (k + i)) v s
  | [], k, outs, hr, ha, e => by
    cases e
    intro i s q
    simp at q
  | .fr d :: r, k, outs, hr, ha, e => by
    have e : (outsO ς r (k + 1)).map (Slot.fr d :: ·) = some outs := e
    cases q : outsO ς r (k + 1) with
    | none => rw [q] at e; cases e
    | some os =>
      rw [q] at e
      cases e
      have ih := outs_ok R F ro hn has r (k + 1) os hr (fun i s h => by
        have := ha (i + 1) s (by simpa using h)
        rwa [show k + (i + 1) = k + 1 + i by omega] at this) q
      intro i s h
      cases i with
      | zero =>
        simp at h
        subst h
        obtain ⟨v, h1, h2⟩ := ha 0 _ rfl
        exact ⟨v, h1, Rep.mono F.hf F.ad h2⟩
      | succ i =>
        have := ih i s (by simpa using h)
        rwa [show k + (i + 1) = k + 1 + i by omega]
  | .ow d :: r, k, outs, hr, ha, e => by
    have hr : (ro k && roOk ro r (k + 1)) = true := hr
    rw [Bool.and_eq_true] at hr
    have e : (match ς.sl[k]? with | some (some s) => (outsO ς r (k + 1)).map (s :: ·) | _ => none) = some outs := e
    split at e
    · rename_i s0 hs0
      cases q : outsO ς r (k + 1) with
      | none => rw [q] at e; cases e
      | some os =>
        rw [q] at e
        cases e
        have ih := outs_ok R F ro hn has r (k + 1) os hr.2 (fun i s h => by
          have := ha (i + 1) s (by simpa using h)
          rwa [show k + (i + 1) = k + 1 + i by omega] at this) q
        intro i s h
        cases i with
        | zero =>
          simp at h
          subst h
          obtain ⟨v, h1, h2⟩ := ha 0 _ rfl
          obtain ⟨v', h3, h4⟩ := R.slots k _ hs0
          have h5 := R.arg k v (by rw [hn]; exact hr.1) (by rw [has]; simpa using h1)
          rw [h5] at h3
          cases h3
          exact ⟨v, h1, by simpa using h4⟩
        | succ i =>
          have := ih i s (by simpa using h)
          rwa [show k + (i + 1) = k + 1 + i by omega]
    · cases e
end

/-- THE RULE for a def: its body does g -/
theorem fn_vs {c : Ctx} {k : Nat} {f : Addr} {name qual : Str} {params : Arguments} {body : List Stmt} {dV kV doc pm cdv ct oc : Value} {an od : Option Addr} {osl : Array (Option Value)} {ps : List Str} {g : Act Flw}
    (lk : c.K.lookup f = some ⟨oc, od, .func (PySem.W.fnOf name qual params body c.sc dV kV doc pm an cdv ct), osl⟩) (hcd : PySem.W.codeIn c.K cdv qual = true) (Sc : FnScope c.N ps c.sc) (hl : c.lvl = k) (hnp : c.np = ps.length)
    (hb : VSs c body g) : FnOk c.P c.w c.K c.mg c.base (CX c.P c.w) (k + 1) f (PySem.W.fnOf name qual params body c.sc dV kV doc pm an cdv ct) ps (spV c.toSta ps.length (runB c.N.length ps.length c.ro g)) := by
  refine fn_of lk hcd Sc (fun vs H Q E ⟨w, args, ob, o, hl, en, _⟩ => by rw [en.len, hl]) fun A outer s H vs Q E hr hsp => ?_
  obtain ⟨w, args, ob, o, hal, en, ho, hq⟩ := hsp
  generalize hX : cxOf (CX c.P c.w) c.P c.w c.K c.mg c.base c.N qual c.sc f cdv A outer s H E = X
  refine ⟨fun D σ H => ∀ pins s', Inv X pins σ H s' → wpAny (model X.prog X.w) X.A (execs body X.env) (SP X pins D) X.xe s', ⟨fun pins s' σ H D I h => h pins s' I⟩, fun pins s1 I1 => ?_⟩
  have hOk : c.Ok X := by
    subst hX
    exact ⟨rfl, rfl, rfl, rfl, rfl, rfl, rfl, Sc.nd, rfl, by rw [hl]; exact hr, fun _ _ => rfl, passes_of rfl⟩
  have hpl : ps.length ≤ c.N.length := by have := congrArg List.length Sc.pre; rw [List.length_take] at this; omega
  unfold runB at ho
  rw [hal] at ho
  split at ho
  · rename_i hcond
    have hst : start c.N vs = (vs.map some ++ List.replicate (c.N.length - vs.length) none) := rfl
    have R0 : Rel c.toSta c.n ⟨args.map some ++ List.replicate (c.N.length - ps.length) none, ob⟩ (start c.N vs) H w := by
      refine ⟨en.sub, en.nof, ?_, fun i s hs => ?_, en.obs, en.adk, fun a h => by rw [en.h0]; exact h, en.own0, fun i v _ h => ?_, fun i h => ?_⟩
      · show (args.map some ++ List.replicate (c.N.length - ps.length) none).length = c.N.length
        rw [List.length_append, List.length_map, List.length_replicate, hal]; omega
      · have hs : (args.map some ++ List.replicate (c.N.length - ps.length) (none : Option Slot))[i]? = some (some s) := hs
        by_cases hi : i < args.length
        · rw [List.getElem?_append_left (by simpa using hi), List.getElem?_map] at hs
          cases q : args[i]? with
          | none => rw [q] at hs; cases hs
          | some s' =>
            rw [q] at hs
            cases hs
            obtain ⟨v, h1, h2⟩ := en.arg i s q
            refine ⟨v, ?_, h2⟩
            rw [hst, List.getElem?_append_left (by rw [List.length_map, en.len]; exact hi), List.getElem?_map, h1]
            rfl
        · rw [List.getElem?_append_right (by simpa using hi), List.getElem?_replicate] at hs
          split at hs <;> cases hs
      · rw [en.as] at h
        have hi : i < vs.length := (List.getElem?_eq_some_iff.mp h).1
        rw [hst, List.getElem?_append_left (by simpa using hi), List.getElem?_map, h]
        rfl
      · rw [en.as]
        refine List.getElem?_eq_none ?_
        rw [en.len, hal, ← hnp]
        exact h
    have relx : ∀ {ς' : St} {σ' : L2.St} {H' : Hp} {w' : W} {outs : List Slot}, Fr w H w' H' → Rel c.toSta c.n ς' σ' H' w' → outsO ς' args 0 = some outs → RelX c.toSta w' vs H' outs ς'.ob := fun {ς' σ' H' w' outs} F R q =>
      ⟨R.sub, R.nof, R.own0, by
        have := outs_ok R F c.ro rfl (by rw [F.as, en.as]) args 0 outs hcond.2 (fun i s h => by simpa using en.arg i s h) q
        intro i s h
        simpa using this i s h, R.obs, R.adk⟩
    cases hg : g ⟨args.map some ++ List.replicate (c.N.length - ps.length) none, ob⟩ with
    | none => rw [hg] at ho; cases ho
    | some o1 =>
      rw [hg] at ho
      have run : XT c X w H o1 → wpAny (model X.prog X.w) X.A (execs body X.env) (NS c X pins w H o1) X.xe s1 := fun T => hb X hOk pins s1 (start c.N vs) H w _ o1 hg I1 R0 T
      cases o1 with
      | ex x ς' =>
        simp only at ho
        cases q : outsO ς' args 0 with
        | none => rw [q] at ho; cases ho
        | some outs =>
          rw [q] at ho
          cases ho
          refine wpAny_mono (run ?_) (fun fl s2 z => by cases fl <;> exact z.elim) fun _ _ z => z
          have tk : Takes X (fun cls d _ H => E cls d H) := by subst hX; exact takes_of rfl rfl rfl rfl
          exact Takes.imp tk fun cls d σ' H' ⟨w', F', R', e'⟩ => hq cls d H' w' F' (relx F' R' q) e'
      | ok fl ς' =>
        refine wpAny_mono (run trivial) (fun u s2 z => ?_) fun _ _ z => z
        cases fl with
        | nx =>
          simp only at ho
          cases q : outsO ς' args 0 with
          | none => rw [q] at ho; cases ho
          | some outs =>
            rw [q] at ho
            cases ho
            cases u <;> first | exact z.elim | skip
            obtain ⟨σ', H', w', I', F', R'⟩ := z
            exact ⟨σ', H', I', hq .non H' w' F' (relx F' R' q) .non⟩
        | rt r =>
          simp only at ho
          cases q : outsO ς' args 0 with
          | none => rw [q] at ho; cases ho
          | some outs =>
            rw [q] at ho
            cases ho
            cases u <;> first | exact z.elim | skip
            obtain ⟨v, σ', H', w', I', rv, F', R', ro⟩ := z
            exact ⟨v, σ', H', I', rv, hq v H' w' F' (relx F' R' q) ro⟩
        | bk => cases ho
        | ct => cases ho
  · cases ho
end VS

namespace VS
open PySem L2 PyProof.Rows

/-! ### calls of defs -/
/-- the arguments: those that the def may change stay names, all others are shared -/
def settleIO (ς : St) : List Bool → List ER → Option (List ER × St)
  | _, [] => some ([], ς)
  | io, r :: rs => match (if io.headD false = true then (match r with | .sl j => some (ER.sl j, ς) | r => (settle ς r).map fun p => (ER.fr p.1, p.2)) else (settle ς r).map fun p => (ER.fr p.1, p.2)) with
    | none => none
    | some (r', ς1) => (settleIO ς1 io.tail rs).map fun p => (r' :: p.1, p.2)
def argO (ς : St) : ER → Option Slot
  | .fr d => some (.fr d)
  | .sl j => match ς.sl[j]? with
    | some (some s) => some s
    | _ => none
  | .tp _ => none
def argsO (ς : St) : List ER → Option (List Slot)
  | [] => some []
  | r :: rs => match argO ς r, argsO ς rs with
    | some s, some ss => some (s :: ss)
    | _, _ => none
def slots : List ER → List Nat
  | [] => []
  | .sl j :: rs => j :: slots rs
  | _ :: rs => slots rs
/-- behind the call the names have what stands under the parameters -/
def putBack (ς : St) : List ER → List Slot → St
  | .sl j :: rs, s :: ss => putBack (ς.set j (some s)) rs ss
  | _ :: rs, _ :: ss => putBack ς rs ss
  | _, _ => ς
def frOk : List Slot → List Slot → Bool
  | [], [] => true
  | .fr _ :: as, .fr _ :: os => frOk as os
  | .fr _ :: _, .ow _ :: _ => false
  | .ow _ :: as, _ :: os => frOk as os
  | _, _ => false
theorem frOk_len : ∀ {as os : List Slot}, frOk as os = true → os.length = as.length
  | [], [], _ => rfl
  | .fr _ :: as, .fr _ :: os, h => by simp [frOk_len (as := as) (os := os) h]
  | .fr _ :: _, .ow _ :: _, h => by cases h
  | .ow _ :: as, .fr _ :: os, h => by simp [frOk_len (as := as) (os := os) h]
  | .ow _ :: as, .ow _ :: os, h => by simp [frOk_len (as := as) (os := os) h]
  | [], _ :: _, h => by cases h
  | .fr _ :: _, [], h => by cases h
  | .ow _ :: _, [], h => by cases h
theorem frOk_at : ∀ {as os : List Slot} {i : Nat} {d : Dat}, frOk as os = true → as[i]? = some (.fr d) → ∀ s, os[i]? = some s → ∃ d', s = .fr d'
  | [], _, _, _, _, e, _, _ => by simp at e
  | .fr _ :: as, .fr d' :: os, 0, _, h, e, s, e2 => by simp at e2; exact ⟨d', e2.symm⟩
  | .fr _ :: as, .fr _ :: os, i + 1, _, h, e, s, e2 => frOk_at (as := as) (os := os) (i := i) h (by simpa using e) s (by simpa using e2)
  | .fr _ :: _, .ow _ :: _, _, _, h, _, _, _ => by cases h
  | .ow _ :: as, .fr _ :: os, i + 1, _, h, e, s, e2 => frOk_at (as := as) (os := os) (i := i) h (by simpa using e) s (by simpa using e2)
  | .ow _ :: as, .ow _ :: os, i + 1, _, h, e, s, e2 => frOk_at (as := as) (os := os) (i := i) h (by simpa using e) s (by simpa using e2)
  | .ow _ :: as, _, 0, _, h, e, s, e2 => by simp at e
  | .fr _ :: _, [], _, _, h, _, _, _ => by cases h
  | .ow _ :: _, [], _ + 1, _, h, _, _, _ => by cases h
def passF (F : FD) (io : List Bool) (rs : List ER) : Act ER := fun ς => match settleIO ς io rs with
  | none => none
  | some (rs', ς1) => match argsO ς1 rs' with
    | none => none
    | some args => if (slots rs').Nodup then match F args ς1.ob with
        | none => none
        | some (.ok r outs ob) => if frOk args outs = true then some (.ok r (putBack { ς1 with ob := ob } rs' outs)) else none
        | some (.ex x outs ob) => if frOk args outs = true then some (.ex x (putBack { ς1 with ob := ob } rs' outs)) else none
      else none
section
variable {S : Sta} {n : Shp} {ς ς' : St} {σ : L2.St} {H H' Hs : Hp} {w w0 w' : W} {v : V} {d : Dat} {r : ER} {vs : List V} {rs : List ER}
theorem settleIO_ok : ∀ {io : List Bool} {rs : List ER} {vs : List V} {w : W} {ς ς' : St} {rs' : List ER}, Fr w0 Hs w H → Rel S n ς σ H w → ResOks S w Hs H σ vs rs → settleIO ς io rs = some (rs', ς') →
    ∃ w', Fr w0 Hs w' H ∧ Rel S n ς' σ H w' ∧ ResOks S w' Hs H σ vs rs' ∧ (∀ r ∈ rs', ∀ d, r ≠ .tp d) ∧ Ext w.Hf w'.Hf ∧ AExt w.ads w'.ads
  | _, _, _, w, _, _, _, F, R, .nil, e => by
    unfold settleIO at e
    cases e
    exact ⟨w, F, R, .nil, fun r h => by simp at h, Ext.refl _, fun _ _ h => h⟩
  | io, r :: rs, v :: vs, w, ς, ς', rs', F, R, .cons h t q, e => by
    unfold settleIO at e
    have fin : ∀ {d : Dat} {ς1 : St}, settle ς r = some (d, ς1) → (settleIO ς1 io.tail rs).map (fun p => (ER.fr d :: p.1, p.2)) = some (rs', ς') → ∃ w', Fr w0 Hs w' H ∧ Rel S n ς' σ H w' ∧ ResOks S w' Hs H σ (v :: vs) rs' ∧ (∀ r ∈ rs', ∀ d, r ≠ .tp d) ∧ Ext w.Hf w'.Hf ∧ AExt w.ads w'.ads := fun {d ς1} e1 e2 => by
      obtain ⟨w1, F1, R1, rp, x1, y1, k⟩ := settle_ok' F R h e1
      cases q2 : settleIO ς1 io.tail rs with
      | none => rw [q2] at e2; cases e2
      | some p =>
        rw [q2] at e2
        cases e2
        obtain ⟨w2, F2, R2, ros, nt, x2, y2⟩ := settleIO_ok (ς' := p.2) (rs' := p.1) F1 R1 (k _ _ t q) q2
        refine ⟨w2, F2, R2, .cons (rp.mono x2 y2) ros (fun a ha => by cases v <;> simp [tpAd] at ha), fun r hr d => ?_, x1.trans x2, fun k x h => y2 k x (y1 k x h)⟩
        rcases List.mem_cons.mp hr with rfl | hr
        · intro z; cases z
        · exact nt r hr d
    split at e
    · cases e
    · rename_i r' ς1 e1
      split at e1
      · split at e1
        · rename_i j
          cases e1
          cases q2 : settleIO ς io.tail rs with
          | none => rw [q2] at e; cases e
          | some p =>
            rw [q2] at e
            cases e
            obtain ⟨w2, F2, R2, ros, nt, x2, y2⟩ := settleIO_ok (ς' := p.2) (rs' := p.1) F R t q2
            refine ⟨w2, F2, R2, .cons h ros (fun a ha => by cases v <;> simp [tpAd] at ha), fun r hr d => ?_, x2, y2⟩
            rcases List.mem_cons.mp hr with rfl | hr
            · intro z; cases z
            · exact nt r hr d
        · cases q1 : settle ς r with
          | none => rw [q1] at e1; cases e1
          | some p => rw [q1] at e1; cases e1; exact fin q1 e
      · cases q1 : settle ς r with
        | none => rw [q1] at e1; cases e1
        | some p => rw [q1] at e1; cases e1; exact fin q1 e
/-- under which parameter a name's container is handed in -/
def pmap (ς : St) : List ER → Nat → Nat → Option Nat
  | [], _, _ => none
  | .sl j :: rs, i, k => if j = k then some i else pmap ς rs (i + 1) k
  | _ :: rs, i, k => pmap ς rs (i + 1) k
theorem pmap_some {ς : St} : ∀ {rs : List ER} {i k m : Nat}, pmap ς rs i k = some m → k ∈ slots rs
  | [], _, _, _, e => by cases e
  | .sl j :: rs, i, k, m, e => by
    unfold pmap at e
    split at e
    · rename_i h; subst h; simp [slots]
    · simp [slots, pmap_some e]
  | .fr d :: rs, i, k, m, e => by unfold pmap at e; simp [slots, pmap_some e]
  | .tp d :: rs, i, k, m, e => by unfold pmap at e; simp [slots, pmap_some e]
theorem pmap_none {ς : St} : ∀ {rs : List ER} {i k : Nat}, k ∉ slots rs → pmap ς rs i k = none := fun {rs i k} h => by
  cases q : pmap ς rs i k with
  | none => rfl
  | some m => exact absurd (pmap_some q) h
theorem pmap_at {ς : St} : ∀ {rs : List ER} {i k j : Nat}, (slots rs).Nodup → rs[j]? = some (.sl k) → pmap ς rs i k = some (i + j)
  | [], _, _, _, _, e => by simp at e
  | .sl l :: rs, i, k, 0, hn, e => by simp at e; subst e; simp [pmap]
  | .sl l :: rs, i, k, j + 1, hn, e => by
    have hn : (l :: slots rs).Nodup := hn
    rw [List.nodup_cons] at hn
    have e : rs[j]? = some (.sl k) := by simpa using e
    have hk : k ∈ slots rs := by
      have := pmap_at (ς := ς) (i := 0) hn.2 e
      exact pmap_some this
    have hne : l ≠ k := fun q => hn.1 (q ▸ hk)
    unfold pmap
    rw [if_neg hne, pmap_at hn.2 e]
    congr 1
    omega
  | .fr d :: rs, i, k, j, hn, e => by
    cases j with
    | zero => simp at e
    | succ j =>
      unfold pmap
      rw [pmap_at (rs := rs) (i := i + 1) (k := k) (j := j) hn (by simpa using e)]
      congr 1
      omega
  | .tp d :: rs, i, k, j, hn, e => by
    cases j with
    | zero => simp at e
    | succ j =>
      unfold pmap
      rw [pmap_at (rs := rs) (i := i + 1) (k := k) (j := j) hn (by simpa using e)]
      congr 1
      omega
/-- the callee's ghosts -/
def inW (w : W) (H : Hp) (vs : List V) (ς : St) (rs : List ER) : W where
  Hf := w.Hf
  own := fun b => match w.own b with
    | some (.slot j) => (pmap ς rs 0 j).map Loc.slot
    | x => x
  ads := w.ads
  H0 := H
  args := vs
/-- the caller's, behind the call -/
def outW (w wc : W) : W where
  Hf := wc.Hf
  own := fun b => match w.own b with
    | some (.slot j) => if (wc.Hf b).isNone = true then some (.slot j) else none
    | _ => match wc.own b with
      | some (.slot _) => none
      | x => x
  ads := wc.ads
  H0 := w.H0
  args := w.args
theorem argsO_get {ς : St} : ∀ {rs : List ER} {args : List Slot} {i : Nat} {s : Slot}, argsO ς rs = some args → args[i]? = some s → ∃ r, rs[i]? = some r ∧ argO ς r = some s
  | [], args, i, s, e, q => by cases e; simp at q
  | r :: rs, args, i, s, e, q => by
    unfold argsO at e
    split at e
    · rename_i s0 ss e1 e2
      cases e
      cases i with
      | zero => simp at q; subst q; exact ⟨r, rfl, e1⟩
      | succ i =>
        obtain ⟨r', h1, h2⟩ := argsO_get (i := i) e2 (by simpa using q)
        exact ⟨r', by simpa using h1, h2⟩
    · cases e
theorem argsO_len {ς : St} : ∀ {rs : List ER} {args : List Slot}, argsO ς rs = some args → args.length = rs.length
  | [], args, e => by cases e; rfl
  | r :: rs, args, e => by
    unfold argsO at e
    split at e
    · rename_i s0 ss e1 e2
      cases e
      simp [argsO_len e2]
    · cases e
theorem ResOks.get {w : W} {Hs H : Hp} : ∀ {vs : List V} {rs : List ER} {i : Nat} {r : ER}, ResOks S w Hs H σ vs rs → rs[i]? = some r → ∃ v, vs[i]? = some v ∧ ResOk S w Hs H σ v r
  | _, _, _, _, .nil, e => by simp at e
  | _, _, 0, _, .cons h _ _, e => by simp at e; subst e; exact ⟨_, rfl, h⟩
  | _, _, i + 1, _, .cons _ t _, e => by
    obtain ⟨v, h1, h2⟩ := ResOks.get (i := i) t (by simpa using e)
    exact ⟨v, by simpa using h1, h2⟩
theorem in_entry {ς : St} {w : W} {args : List Slot} (R : Rel S n ς σ H w) (ros : ResOks S w Hs H σ vs rs) (e : argsO ς rs = some args) (hn : (slots rs).Nodup) (nt : ∀ r ∈ rs, ∀ d, r ≠ .tp d) : Entry S (inW w H vs ς rs) vs H args ς.ob := by
  refine ⟨R.sub, fun a o h => ?_, fun a h => ?_, rfl, rfl, by rw [ros.length, argsO_len e], fun i s q => ?_, fun k ov h => ?_, R.adk⟩
  · show (match w.own a with | some (.slot j) => (pmap ς rs 0 j).map Loc.slot | x => x) = none
    rw [R.nof a o h]
  · show (match w.own a with | some (.slot j) => (pmap ς rs 0 j).map Loc.slot | x => x) = none
    rw [R.own0 a h]
  · obtain ⟨r, h1, h2⟩ := argsO_get e q
    obtain ⟨v, h3, h4⟩ := ros.get h1
    refine ⟨v, h3, ?_⟩
    cases r with
    | fr d => cases h2; exact h4
    | tp d => cases h2
    | sl j =>
      have h2 : (match ς.sl[j]? with | some (some s) => some s | _ => none) = some s := h2
      split at h2
      · rename_i s0 hs0
        cases h2
        obtain ⟨v', h5, h6⟩ := R.slots j _ hs0
        have h4 : σ[j]? = some (some v) := h4
        rw [h4] at h5; cases h5
        cases s with
        | fr d => exact h6
        | ow d =>
          obtain ⟨a, e1, e2, e3, e4, e5⟩ := h6
          refine ⟨a, e1, ?_, e3, e4, .inr h3⟩
          show (match w.own a with | some (.slot j) => (pmap ς rs 0 j).map Loc.slot | x => x) = _
          rw [e2]
          simp only
          rw [pmap_at hn h1]
          simp
      · cases h2
  · obtain ⟨a, C, dx, fs, q1, q2, q3, q4, q5, q6, q7⟩ := (R.obs k ov h).ex
    refine ⟨a, C, dx, fs, q1, q2, ?_, q4, q5, q6, fun i f v s e1 e2 => ?_⟩
    · show (match w.own a with | some (.slot j) => (pmap ς rs 0 j).map Loc.slot | x => x) = _
      rw [q3]
    · have h7 := q7 i f v s e1 e2
      cases s with
      | fr d => exact h7
      | ow d =>
        obtain ⟨b, e1, e2, e3, e4, e5⟩ := h7
        refine ⟨b, e1, ?_, e3, e4, trivial⟩
        show (match w.own b with | some (.slot j) => (pmap ς rs 0 j).map Loc.slot | x => x) = _
        rw [e2]

theorem putBack_len : ∀ (rs : List ER) (ss : List Slot) (ς : St), (putBack ς rs ss).sl.length = ς.sl.length
  | [], _, ς => by unfold putBack; rfl
  | .sl j :: rs, s :: ss, ς => by unfold putBack; rw [putBack_len rs ss, St.set_len]
  | .sl j :: rs, [], ς => by unfold putBack; rfl
  | .fr d :: rs, s :: ss, ς => by unfold putBack; rw [putBack_len rs ss]
  | .fr d :: rs, [], ς => by unfold putBack; rfl
  | .tp d :: rs, s :: ss, ς => by unfold putBack; rw [putBack_len rs ss]
  | .tp d :: rs, [], ς => by unfold putBack; rfl
theorem putBack_ob : ∀ (rs : List ER) (ss : List Slot) (ς : St), (putBack ς rs ss).ob = ς.ob
  | [], _, ς => by unfold putBack; rfl
  | .sl j :: rs, s :: ss, ς => by unfold putBack; rw [putBack_ob rs ss]; rfl
  | .sl j :: rs, [], ς => by unfold putBack; rfl
  | .fr d :: rs, s :: ss, ς => by unfold putBack; rw [putBack_ob rs ss]
  | .fr d :: rs, [], ς => by unfold putBack; rfl
  | .tp d :: rs, s :: ss, ς => by unfold putBack; rw [putBack_ob rs ss]
  | .tp d :: rs, [], ς => by unfold putBack; rfl
/-- a name behind the call: as it was, or what stands under its parameter -/
theorem putBack_get : ∀ (rs : List ER) (ss : List Slot) (ς : St) (k : Nat) (x : Slot), (putBack ς rs ss).sl[k]? = some (some x) → (slots rs).Nodup → ss.length = rs.length →
    (k ∉ slots rs ∧ ς.sl[k]? = some (some x)) ∨ ∃ i : Nat, rs[i]? = some (ER.sl k) ∧ ss[i]? = some x
  | [], ss, ς, k, x, e, hn, hl => by
    unfold putBack at e
    exact .inl ⟨by simp [slots], e⟩
  | .sl j :: rs, s :: ss, ς, k, x, e, hn, hl => by
    unfold putBack at e
    have hn : (j :: slots rs).Nodup := hn
    rw [List.nodup_cons] at hn
    rcases putBack_get rs ss (ς.set j (some s)) k x e hn.2 (by simpa using hl) with ⟨h1, h2⟩ | ⟨i, h1, h2⟩
    · by_cases hk : j = k
      · subst hk
        have hj : j < ς.sl.length := by
          have := (List.getElem?_eq_some_iff.mp h2).1
          rw [St.set_len] at this
          exact this
        have h2 : (ς.sl.set j (some s))[j]? = some (some x) := h2
        rw [List.getElem?_set_self hj] at h2
        cases h2
        exact .inr ⟨0, rfl, rfl⟩
      · rw [St.set_ne hk] at h2
        refine .inl ⟨?_, h2⟩
        show k ∉ j :: slots rs
        intro z
        rcases List.mem_cons.mp z with z | z
        · exact hk z.symm
        · exact h1 z
    · exact .inr ⟨i + 1, by simpa using h1, by simpa using h2⟩
  | .fr d :: rs, s :: ss, ς, k, x, e, hn, hl => by
    unfold putBack at e
    rcases putBack_get rs ss ς k x e hn (by simpa using hl) with h | ⟨i, h1, h2⟩
    · exact .inl h
    · exact .inr ⟨i + 1, by simpa using h1, by simpa using h2⟩
  | .tp d :: rs, s :: ss, ς, k, x, e, hn, hl => by
    unfold putBack at e
    rcases putBack_get rs ss ς k x e hn (by simpa using hl) with h | ⟨i, h1, h2⟩
    · exact .inl h
    · exact .inr ⟨i + 1, by simpa using h1, by simpa using h2⟩
  | .sl j :: rs, [], ς, k, x, e, hn, hl => by simp at hl
  | .fr d :: rs, [], ς, k, x, e, hn, hl => by simp at hl
  | .tp d :: rs, [], ς, k, x, e, hn, hl => by simp at hl
/-- behind the call -/
theorem out_rel {ς : St} {w wc : W} {outs args : List Slot} {ob : List OVal} (R : Rel S n ς σ H w) (ros : ResOks S w Hs H σ vs rs) (ea : argsO ς rs = some args) (hn : (slots rs).Nodup) (hl : outs.length = rs.length)
    (F : Fr (inW w H vs ς rs) H wc H') (RX : RelX S wc vs H' outs ob) (hsame : ∀ (i : Nat) (d : Dat), args[i]? = some (Slot.fr d) → ∀ s, outs[i]? = some s → ∃ d', s = Slot.fr d') : Fr w H (outW w wc) H' ∧ Rel S n (putBack { ς with ob := ob } rs outs) σ H' (outW w wc) := by
  have ownIn : ∀ b, w.own b = none → (inW w H vs ς rs).own b = none := fun b h => by
    show (match w.own b with | some (.slot j) => (pmap ς rs 0 j).map Loc.slot | x => x) = none
    rw [h]
  have ownOut : ∀ b, w.own b = none → wc.own b = none → (outW w wc).own b = none := fun b h1 h2 => by
    show (match w.own b with | some (.slot j) => if (wc.Hf b).isNone = true then some (Loc.slot j) else none | _ => match wc.own b with | some (.slot _) => none | x => x) = none
    rw [h1, h2]
  have there : ∀ {b o}, H b = some o → ∃ o', H' b = some o' := fun {b o} h => by
    cases q : H' b with
    | some o' => exact ⟨o', rfl⟩
    | none => rw [F.dm b q] at h; cases h
  have other : ∀ {b : Addr} {l : Loc} {o : HO}, H b = some o → wc.own b = some l → (∀ i, l ≠ .slot i) → w.own b = some l := fun {b l o} hb h hl => by
    cases q : w.own b with
    | none =>
      have := (F.kp b o hb (ownIn b q)).2
      rw [h] at this; cases this
    | some l' =>
      have hin : ∀ x, (inW w H vs ς rs).own b = some x → x = l := fun x hx => by
        rcases F.ow b x o hb hx with z | z
        · rw [h] at z; exact (Option.some.inj z).symm
        · rw [h] at z; cases z
      cases l' with
      | slot j =>
        have hi : (inW w H vs ς rs).own b = (pmap ς rs 0 j).map Loc.slot := by
          show (match w.own b with | some (.slot j) => (pmap ς rs 0 j).map Loc.slot | x => x) = _
          rw [q]
        cases q2 : pmap ς rs 0 j with
        | none =>
          rw [q2] at hi
          have := (F.kp b o hb hi).2
          rw [h] at this; cases this
        | some m =>
          rw [q2] at hi
          exact absurd (hin _ hi).symm (hl m)
      | fld k f =>
        have hi : (inW w H vs ς rs).own b = some (.fld k f) := by
          show (match w.own b with | some (.slot j) => (pmap ς rs 0 j).map Loc.slot | x => x) = _
          rw [q]
        rw [hin _ hi]
      | obj k =>
        have hi : (inW w H vs ς rs).own b = some (.obj k) := by
          show (match w.own b with | some (.slot j) => (pmap ς rs 0 j).map Loc.slot | x => x) = _
          rw [q]
        rw [hin _ hi]
  refine ⟨⟨F.hf, F.ad, fun b o h1 h2 => ⟨(F.kp b o h1 (ownIn b h2)).1, ownOut b h2 (F.kp b o h1 (ownIn b h2)).2⟩, fun b o h1 h2 h3 => F.nf b o h1 (ownIn b h2) h3, F.dm, rfl, rfl, fun b l o h1 h2 => ?_⟩, ?_⟩
  · show (match w.own b with | some (.slot j) => if (wc.Hf b).isNone = true then some (Loc.slot j) else none | _ => match wc.own b with | some (.slot _) => none | x => x) = some l ∨ (match w.own b with | some (.slot j) => if (wc.Hf b).isNone = true then some (Loc.slot j) else none | _ => match wc.own b with | some (.slot _) => none | x => x) = none
    rw [h2]
    cases l with
    | slot j =>
      simp only
      split
      · exact .inl rfl
      · exact .inr rfl
    | fld k f =>
      have hi : (inW w H vs ς rs).own b = some (.fld k f) := by
        show (match w.own b with | some (.slot j) => (pmap ς rs 0 j).map Loc.slot | x => x) = _
        rw [h2]
      simp only
      rcases F.ow b _ o h1 hi with z | z <;> rw [z]
      · exact .inl rfl
      · exact .inr rfl
    | obj k =>
      have hi : (inW w H vs ς rs).own b = some (.obj k) := by
        show (match w.own b with | some (.slot j) => (pmap ς rs 0 j).map Loc.slot | x => x) = _
        rw [h2]
      simp only
      rcases F.ow b _ o h1 hi with z | z <;> rw [z]
      · exact .inl rfl
      · exact .inr rfl
  · have keepOwn : ∀ {b : Addr} {j : Nat}, w.own b = some (.slot j) → wc.Hf b = none → (outW w wc).own b = some (.slot j) := fun {b j} h1 h2 => by
      show (match w.own b with | some (.slot j) => if (wc.Hf b).isNone = true then some (Loc.slot j) else none | _ => match wc.own b with | some (.slot _) => none | x => x) = _
      rw [h1]
      simp [h2]
    have newOwn : ∀ {b : Addr} {l : Loc} {o : HO}, wc.own b = some l → (∀ i, l ≠ .slot i) → (outW w wc).own b = some l := fun {b l o} h hl => by
      show (match w.own b with | some (.slot j) => if (wc.Hf b).isNone = true then some (Loc.slot j) else none | _ => match wc.own b with | some (.slot _) => none | x => x) = _
      have hw : ∀ j, w.own b ≠ some (.slot j) := fun j hj => by
        cases q : H b with
        | none => rw [R.own0 b q] at hj; cases hj
        | some o =>
          have := other q h hl
          rw [hj] at this
          exact hl j (Option.some.inj this).symm
      cases q : w.own b with
      | none =>
        simp only [h]
        cases l with
        | slot i => exact absurd rfl (hl i)
        | _ => rfl
      | some l' =>
        cases l' with
        | slot j => exact absurd q (hw j)
        | _ =>
          simp only [h]
          cases l with
          | slot i => exact absurd rfl (hl i)
          | _ => rfl
    refine ⟨RX.sub, fun a o h => ?_, by rw [putBack_len]; exact R.len, fun k s e => ?_, fun k ov h => ?_, fun k a h => ?_, fun a h => R.dom a (F.dm a h), fun a h => ?_, R.arg, R.arl⟩
    · have hf : wc.Hf a = some o := h
      show (match w.own a with | some (.slot j) => if (wc.Hf a).isNone = true then some (Loc.slot j) else none | _ => match wc.own a with | some (.slot _) => none | x => x) = none
      split
      · rw [hf]; rfl
      · rw [RX.nof a o hf]
    · rcases putBack_get rs outs { ς with ob := ob } k s e hn hl with ⟨h1, h2⟩ | ⟨i, h1, h2⟩
      · have h2 : ς.sl[k]? = some (some s) := h2
        obtain ⟨v, h3, h4⟩ := R.slots k s h2
        refine ⟨v, h3, ?_⟩
        cases s with
        | fr d => exact Rep.mono F.hf F.ad h4
        | ow d =>
          obtain ⟨a, e1, e2, e3, e4, e5⟩ := h4
          obtain ⟨o, ho⟩ := e4.there
          have hin : (inW w H vs ς rs).own a = none := by
            show (match w.own a with | some (.slot j) => (pmap ς rs 0 j).map Loc.slot | x => x) = none
            rw [e2]
            simp only
            rw [pmap_none h1]
            rfl
          obtain ⟨p, q⟩ := F.kp a o ho hin
          have nf := F.nf a o ho hin e3
          exact ⟨a, e1, keepOwn e2 nf, nf, e4.mono F.hf F.ad (p.trans ho.symm), e5⟩
      · obtain ⟨v, h3, h4⟩ := RX.arg i s h2
        obtain ⟨v', h5, h6⟩ := ros.get h1
        rw [h3] at h5
        cases h5
        have h6 : σ[k]? = some (some v) := h6
        refine ⟨v, h6, ?_⟩
        cases s with
        | fr d => exact h4
        | ow d =>
          obtain ⟨a, e1, e2, e3, e4, e5⟩ := h4
          -- what was handed in was a container of the name's own
          have hlen := argsO_len ea
          have hi : i < args.length := by rw [hlen]; exact (List.getElem?_eq_some_iff.mp h1).1
          obtain ⟨sa, hsa⟩ : ∃ sa, args[i]? = some sa := ⟨args[i], List.getElem?_eq_getElem hi⟩
          cases sa with
          | fr d0 =>
            obtain ⟨d', z⟩ := hsame i d0 hsa _ h2
            cases z
          | ow d0 =>
            obtain ⟨r0, g1, g2⟩ := argsO_get ea hsa
            rw [h1] at g1
            cases g1
            have g2 : (match ς.sl[k]? with | some (some s) => some s | _ => none) = some (Slot.ow d0) := g2
            split at g2
            · rename_i s0 hs0
              cases g2
              obtain ⟨v2, g3, b, g4, g5, g6, g7, g8⟩ := R.slots k _ hs0
              rw [h6] at g3
              cases g3
              rw [e1] at g4
              cases g4
              exact ⟨a, e1, keepOwn g5 e3, e3, e4, g8⟩
            · cases g2
    · rw [putBack_ob] at h
      obtain ⟨a, C, dx, fs, q1, q2, q3, q4, q5, q6, q7⟩ := (RX.obs k ov h).ex
      refine ⟨a, C, dx, fs, q1, q2, newOwn (o := .own a) q3 (fun i z => by cases z), q4, q5, q6, fun i f v s e1 e2 => ?_⟩
      have h7 := q7 i f v s e1 e2
      cases s with
      | fr d => exact h7
      | ow d =>
        obtain ⟨b, e1, e2, e3, e4, e5⟩ := h7
        exact ⟨b, e1, newOwn (o := .own a) e2 (fun i z => by cases z), e3, e4, trivial⟩
    · rw [putBack_ob]
      exact RX.adk k a h
    · have h1 := R.own0 a (F.dm a h)
      exact ownOut a h1 (RX.own0 a h)
end
end VS

namespace VS
open PySem L2 PyProof.Rows

/-- a def of the module that does F -/
structure FnAt (S : Sta) (lvl : Nat) (x : Str) (np : Nat) (F : FD) (dd : List Dat) : Prop where
  ex : ∃ (f : Addr) (fd : FuncData) (k : Nat) (ps : List Str) (ds : List Value) (dvs : List V), S.mg x = some (.ref f) ∧ PySem.W.keepIn S.K (.ref f) = true ∧ FnOk S.P S.w S.K S.mg S.base (CX S.P S.w) k f fd ps (spV S np F) ∧ k ≤ lvl ∧ Binds S.K fd ps ds ∧ Vals dvs ds ∧
    ∀ (w : W), Reps S w.Hf w.ads dvs dd
section
variable {c : Ctx} {X : Cx} {a b e : Expr} {fa fb : Act ER} {pos : Pos} {es : List Expr} {f : Act ER} {g : Act (List ER)}
theorem ResOks.app {S : Sta} {w : W} {Hs H : Hp} {σ : L2.St} {vs : List V} {rs : List ER} {us : List V} {ds : List Dat} (h : ResOks S w Hs H σ vs rs) (q : Reps S w.Hf w.ads us ds) : ResOks S w Hs H σ (vs ++ us) (rs ++ ds.map .fr) := by
  induction h with
  | nil =>
    have go : ∀ {us : List V} {ds : List Dat}, Reps S w.Hf w.ads us ds → ResOks S w Hs H σ us (ds.map .fr) := by
      intro us ds q
      induction us generalizing ds with
      | nil => cases q; exact .nil
      | cons u us ih =>
        cases q with
        | cons r t => exact .cons r (ih t) (fun a ha => by cases u <;> simp [tpAd] at ha)
    exact go q
  | @cons v r vs rs h1 h2 h3 ih =>
    refine .cons h1 ih fun a ha p hp => ?_
    have hz : (vs ++ us).zip (rs ++ ds.map ER.fr) = vs.zip rs ++ us.zip (ds.map ER.fr) := List.zip_append h2.length
    have hp : p ∈ (vs ++ us).zip (rs ++ ds.map ER.fr) := hp
    rw [hz] at hp
    rcases List.mem_append.mp hp with hp | hp
    · exact h3 a ha p hp
    · obtain ⟨v', r'⟩ := p
      have hm := (List.of_mem_zip hp).2
      obtain ⟨d, _, rfl⟩ := List.mem_map.mp hm
      intro z
      cases v' <;> simp [tpAd] at z
/-- the def runs -/
theorem call_run {np : Nat} {F : FD} {io : List Bool} {f : Addr} {fd : FuncData} {k : Nat} {ps : List Str} (hX : c.Ok X) (FO : FnOk c.P c.w c.K c.mg c.base (CX c.P c.w) k f fd ps (spV c.toSta np F)) (hk : k ≤ c.lvl) {pins : List (Addr × Obj)} {s1 : Shared} {σ : L2.St} {H H1 : Hp} {w w1 : W} {ς1 : St}
    {o : Out ER} {us ds : List Value} {vs dvs : List V} {rs : List ER} {dd : List Dat} (hb : Binds c.K fd ps ds) (hd : Vals dvs ds) (hdd : ∀ w : W, Reps c.toSta w.Hf w.ads dvs dd) (hlen : rs.length + dd.length = np)
    (h1 : passF F io (rs ++ dd.map .fr) ς1 = some o) (I1 : Inv X pins σ H1 s1) (rvs : Vals vs us) (F1 : Fr w H w1 H1) (R1 : Rel c.toSta c.n ς1 σ H1 w1) (T : XT c X w H o) (ros : ResOks c.toSta w1 H H1 σ vs rs) :
    wpAny (model X.prog X.w) X.A (call (.ref f) us) (NE c X pins σ w H o) X.xe s1 := by
  have FO' : FnOk X.prog X.w X.K X.mg X.base (CX c.P c.w) k f fd ps (spV c.toSta np F) := by rw [hX.prog, hX.w, hX.K, hX.mg, hX.base]; exact FO
  have hb' : Binds X.K fd ps ds := by rw [hX.K]; exact hb
  have hr : Room k X.A := hX.room.mono hk
  unfold passF at h1
  split at h1
  · cases h1
  · rename_i rs' ς2 e1
    split at h1
    · cases h1
    · rename_i args e2
      split at h1
      · rename_i hn
        obtain ⟨w2, F2, R2, ros2, nt, _, _⟩ := settleIO_ok F1 R1 (ros.app (hdd w1)) e1
        have en := in_entry R2 ros2 e2 hn nt
        have halen := argsO_len e2
        have hvl := ros2.length
        have hrl := ros.length
        have hdl := (hdd w1).length
        have hnp : args.length = np := by rw [halen, ← hvl, List.length_append, hrl, hdl]; exact hlen
        split at h1
        · cases h1
        · rename_i r outs ob e3
          split at h1
          · rename_i hfr
            cases h1
            have hol : outs.length = rs'.length := by rw [frOk_len hfr, halen]
            refine wpAny_mono (run_fn (E := fun _ _ _ => False) (Q := fun v H' => ∃ w', Fr w H w' H' ∧ Rel c.toSta c.n (putBack { ς2 with ob := ob } rs' outs) σ H' w' ∧ ResOk c.toSta w' H H' σ v r) FO' hr hb' hd (fun _ _ _ _ _ _ _ ⟨_, _, _, _, _, _, _, _, _, _, _, _, z⟩ => z.elim) I1 rvs
              ⟨_, args, ς2.ob, _, hnp, en, e3, fun v H' wc Fc RX ro => ?_⟩) (fun u s' ⟨v, H', I', rv, w', F', R', ro⟩ => ⟨v, H', w', I', rv, F', R', ro⟩) fun _ _ z => z
            obtain ⟨F3, R3⟩ := out_rel R2 ros2 e2 hn hol Fc RX (fun i d ha s hs => frOk_at hfr ha s hs)
            refine ⟨outW w2 wc, F2.trans F3, R3, ?_⟩
            cases r with
            | fr d => exact ro
            | sl i => exact ro.elim
            | tp d =>
              obtain ⟨a, rfl, h1, h2, h3, h4⟩ := ro
              rw [Fc.h0] at h1
              have h1 : H1 a = none := h1
              refine ⟨a, rfl, F1.dm a h1, ?_, h3, h4⟩
              have hw2 := R2.own0 a h1
              show (match w2.own a with | some (.slot j) => if (wc.Hf a).isNone = true then some (Loc.slot j) else none | _ => match wc.own a with | some (.slot _) => none | x => x) = none
              rw [hw2, h2]
          · cases h1
        · rename_i x outs ob e3
          split at h1
          · rename_i hfr
            cases h1
            have hol : outs.length = rs'.length := by rw [frOk_len hfr, halen]
            have tk : Takes X (XW c.toSta c.n w H x (putBack { ς2 with ob := ob } rs' outs)) := T
            refine wpAny_mono (run_fnSD (CX := CX X.prog X.w) (sp := spV c.toSta np F) (E := fun σ cls dd H' => XW c.toSta c.n w H x (putBack { ς2 with ob := ob } rs' outs) cls dd σ H') (Q := fun _ _ => False) (by rw [hX.prog, hX.w]; rw [hX.prog, hX.w] at FO'; exact FO') hr hb' hd (passAt tk σ) I1 rvs
              ⟨_, args, ς2.ob, _, hnp, en, e3, fun cls dd H' wc Fc RX ex => ?_⟩) (fun u s' ⟨v, H', I', rv, z⟩ => z.elim) fun _ _ z => z
            obtain ⟨F3, R3⟩ := out_rel R2 ros2 e2 hn hol Fc RX (fun i d ha s hs => frOk_at hfr ha s hs)
            refine ⟨outW w2 wc, F2.trans F3, R3, ex.c, ?_⟩
            rcases ex.f with z | ⟨a, fs, q1, q2, q3, q5, q4⟩
            · exact .inl z
            · rw [Fc.h0] at q5
              have q5 : H1 a = none := q5
              refine .inr ⟨a, fs, q1, q2, ?_, R2.dom a q5, ?_⟩
              · have hw2 := R2.own0 a q5
                show (match w2.own a with | some (.slot j) => if (wc.Hf a).isNone = true then some (Loc.slot j) else none | _ => match wc.own a with | some (.slot _) => none | x => x) = none
                rw [hw2, q3]
              · have go : ∀ {fs gs}, FldsOk c.toSta wc fs gs → FldsOk c.toSta (outW w2 wc) fs gs := by
                  intro fs gs h
                  induction h with
                  | nil => exact .nil
                  | cons r _ ih => exact .cons r ih
                exact go q4
          · cases h1
      · cases h1

/-- x(e, ..), x a def of the module; io: which arguments it may change -/
def defA (np : Nat) (F : FD) (io : List Bool) (dd : List Dat) (g : Act (List ER)) : Act ER := g.bnd fun rs ς => if rs.length + dd.length = np then passF F io (rs ++ dd.map .fr) ς else none
theorem ve_call {x : Str} {np : Nat} {F : FD} {io : List Bool} {dd : List Dat} {p : Pos} (hF : FnAt c.toSta c.lvl x np F dd) (hg : GlS c x) (ha : VA c (e :: es) g) (hdb : (x == ("__debug__" : Str)) = false)
    (he : ∀ env, starEach (e :: es) env = (false, eval e env) :: starEach es env) (hpl : ∀ env, (backTo pos (starEach es env)).any (·.1) = false) : VE c (.Call (.Name x p) (e :: es) [] pos) (defA np F io dd g) := fun X hX pins s σ H w ς o ho I R T => by
  obtain ⟨fa, fd, k, ps, ds, dvs, hm, hkp, FO, hk, hb, hd, hdd⟩ := hF.ex
  refine wpAny_Call_Name_kw (ld_glob I (hg.gl hX) (by rw [hX.mg]; exact hm) ?_ hdb)
  refine PySem.W.callWith_K (h₀ := X.base) I.ok.mod.kin (by rw [hX.K]; exact hkp) (va_then ha hX I R T ho fun rs ς1 us s1 vs H1 w1 h1 I1 rvs F1 R1 T1 ros => ⟨I1.kIn, ?_⟩) (he _) (hpl _)
  split at h1
  · rename_i hlen
    exact call_run hX FO hk hb hd hdd hlen h1 I1 rvs F1 R1 T ros
  · cases h1
theorem ve_call0 {x : Str} {np : Nat} {F : FD} {io : List Bool} {dd : List Dat} {p : Pos} (hF : FnAt c.toSta c.lvl x np F dd) (hg : GlS c x) (hdb : (x == ("__debug__" : Str)) = false) : VE c (.Call (.Name x p) [] [] pos) (defA np F io dd (Act.ret [])) := fun X hX pins s σ H w ς o ho I R T => by
  obtain ⟨fa, fd, k, ps, ds, dvs, hm, hkp, FO, hk, hb, hd, hdd⟩ := hF.ex
  refine wpAny_Call_Name_kw (ld_glob I (hg.gl hX) (by rw [hX.mg]; exact hm) ?_ hdb)
  refine PySem.W.callWith_K0 I.kIn (by rw [hX.K]; exact hkp) ?_
  unfold defA Act.bnd Act.ret at ho
  simp only at ho
  split at ho
  · rename_i hlen
    exact call_run hX FO hk hb hd hdd hlen ho I .nil (Fr.refl w H) R T .nil
  · cases ho
end
end VS

namespace VS
open PySem L2 PyProof.Rows

/-! ### list comprehensions -/
def wipeS : List Nat → St → St
  | [], ς => ς
  | v :: vs, ς => (wipeS vs ς).set v none
theorem wipeS_len : ∀ (vs : List Nat) (ς : St), (wipeS vs ς).sl.length = ς.sl.length
  | [], ς => rfl
  | v :: vs, ς => by unfold wipeS; rw [St.set_len, wipeS_len vs ς]
theorem wipeS_ob : ∀ (vs : List Nat) (ς : St), (wipeS vs ς).ob = ς.ob
  | [], ς => rfl
  | v :: vs, ς => by unfold wipeS; exact wipeS_ob vs ς
theorem wipeS_some : ∀ {vs : List Nat} {ς : St} {i : Nat} {s : Slot}, (wipeS vs ς).sl[i]? = some (some s) → ς.sl[i]? = some (some s) ∧ i ∉ vs
  | [], ς, i, s, h => ⟨h, by simp⟩
  | v :: vs, ς, i, s, h => by
    unfold wipeS at h
    by_cases hi : v = i
    · subst hi
      have hl : v < (wipeS vs ς).sl.length := by
        have := (List.getElem?_eq_some_iff.mp h).1
        rwa [St.set_len] at this
      have h : ((wipeS vs ς).sl.set v none)[v]? = some (some s) := h
      rw [List.getElem?_set_self hl] at h
      cases h
    · rw [St.set_ne hi] at h
      obtain ⟨h1, h2⟩ := wipeS_some h
      exact ⟨h1, by simp only [List.mem_cons, not_or]; exact ⟨fun e => hi e.symm, h2⟩⟩
theorem wipe_out {σ : L2.St} {j : Nat} : ∀ {vs : List Nat}, j ∉ vs → (wipe σ vs)[j]? = σ[j]?
  | [], h => rfl
  | v :: vs, h => by
    simp only [List.mem_cons, not_or] at h
    unfold wipe
    rw [List.getElem?_set_ne (fun q => h.1 q.symm), wipe_out h.2]
theorem wipe_in {σ : L2.St} {j : Nat} : ∀ {vs : List Nat}, j ∈ vs → j < σ.length → (wipe σ vs)[j]? = some none
  | [], h, _ => by simp at h
  | v :: vs, h, hl => by
    unfold wipe
    by_cases hv : v = j
    · subst hv
      exact List.getElem?_set_self (by rw [wipe_length]; exact hl)
    · rw [List.getElem?_set_ne hv]
      rcases List.mem_cons.mp h with h | h
      · exact absurd h.symm hv
      · exact wipe_in h hl
theorem wipe_eq {σ σ' : L2.St} {vs : List Nat} (hl : σ'.length = σ.length) (h : ∀ j, j ∉ vs → σ'[j]? = σ[j]?) : wipe σ' vs = wipe σ vs := by
  apply List.ext_getElem?
  intro j
  by_cases hj : j ∈ vs
  · by_cases hlt : j < σ.length
    · rw [wipe_in hj hlt, wipe_in hj (by omega)]
    · rw [List.getElem?_eq_none (by rw [wipe_length]; omega), List.getElem?_eq_none (by rw [wipe_length]; omega)]
  · rw [wipe_out hj, wipe_out hj, h j hj]
theorem Rel.wipe {S : Sta} {n : Shp} {ς : St} {σ σ' : L2.St} {H : Hp} {w : W} {vs : List Nat} (R : Rel S n ς σ' H w) (he : L2.wipe σ' vs = L2.wipe σ vs) (hr : ∀ j ∈ vs, n.ro j = false) : Rel S n (wipeS vs ς) (L2.wipe σ vs) H w := by
  refine ⟨R.sub, R.nof, by rw [wipeS_len]; exact R.len, fun i s e => ?_, by rw [wipeS_ob]; exact R.obs, by rw [wipeS_ob]; exact R.adk, R.dom, R.own0, fun i v h1 h2 => ?_, R.arl⟩
  · obtain ⟨h1, h2⟩ := wipeS_some e
    obtain ⟨v, h3, h4⟩ := R.slots i s h1
    exact ⟨v, by rw [← he, wipe_out h2]; exact h3, h4⟩
  · have hj : i ∉ vs := fun q => by rw [hr i q] at h1; cases h1
    rw [← he, wipe_out hj]
    exact R.arg i v h1 h2
/-- a list that is being made changes -/
theorem Rel.poke {S : Sta} {n : Shp} {ς : St} {σ : L2.St} {H : Hp} {w : W} {D : Addr} {o o' : HO} (R : Rel S n ς σ H w) (h1 : w.own D = none) (h2 : w.Hf D = none) (h3 : H D = some o) : Rel S n ς σ (upd H D o') w := by
  have so : ∀ {l v s}, SlotOk S w H l v s → SlotOk S w (upd H D o') l v s := fun {l v s} h => by
    cases s with
    | fr d => exact h
    | ow d =>
      obtain ⟨a, e, q1, q2, q3, q4⟩ := h
      have na : a ≠ D := fun q => by rw [q, h1] at q1; cases q1
      exact ⟨a, e, q1, q2, q3.mono (Ext.refl _) (fun _ _ h => h) (upd_ne na), q4⟩
  have nn : ∀ a, (upd H D o') a = none → H a = none := fun a h => by
    by_cases ha : a = D
    · rw [ha, upd_same] at h; cases h
    · rwa [upd_ne ha] at h
  refine ⟨fun a u h => ?_, R.nof, R.len, fun i s e => ?_, fun k ov e => ?_, R.adk, fun a h => R.dom a (nn a h), fun a h => R.own0 a (nn a h), R.arg, R.arl⟩
  · have na : a ≠ D := fun q => by rw [q, h2] at h; cases h
    rw [upd_ne na]
    exact R.sub a u h
  · obtain ⟨v, e1, e2⟩ := R.slots i s e
    exact ⟨v, e1, so e2⟩
  · obtain ⟨a, C, dx, fs, q1, q2, q3, q4, q5, q6, q7⟩ := (R.obs k ov e).ex
    have na : a ≠ D := fun q => by rw [q, h1] at q3; cases q3
    exact ⟨a, C, dx, fs, q1, q2, q3, q4, by rw [upd_ne na]; exact q5, q6, fun i f v s e1 e2 => so (q7 i f v s e1 e2)⟩
/-- a clause's tests -/
def VTs (c : Ctx) (ifs : List Expr) (f : Act Bool) : Prop :=
  ∀ X, c.Ok X → ∀ (pins : List (Addr × Obj)) (s : Shared) (σ : L2.St) (H : Hp) (w : W) (ς : St) (o : Out Bool), f ς = some o → Inv X pins σ H s → Rel c.toSta c.n ς σ H w → XT c X w H o →
    wpAny (model X.prog X.w) X.A (forIn ifs true fun c r => if r = true then do let ok ← isTrue c X.env (eval c X.env); pure (ForInStep.yield ok) else pure (ForInStep.yield r)) (NT c X pins σ w H o) X.xe s
theorem vts_nil {c : Ctx} : VTs c [] (Act.ret true) := fun X hX pins s σ H w ς o ho I R T => by
  cases ho
  exact wpAny_tests_nil ⟨rfl, H, w, I, Fr.refl _ _, R⟩
theorem vts_one {c : Ctx} {e : Expr} {f : Act Bool} (h : VT c e f) : VTs c [e] f := fun X hX pins s σ H w ς o ho I R T => wpAny_tests_one (h X hX _ pins s σ H w ς o ho I R T (.inl rfl))

def lcRun (vs : List Nat) (t : Dat → St → Option St) (ft : Act Bool) (fe : Act ER) : List Dat → St → Option (List Dat × St)
  | [], ς => some ([], ς)
  | d :: ds, ς => match t d ς with
    | none => none
    | some ς1 => match ft ς1 with
      | some (.ok true ς2) => match fe ς2 with
        | some (.ok r ς3) => match settle ς3 r with
          | some (x, ς4) => (lcRun vs t ft fe ds (wipeS vs ς4)).map fun p => (x :: p.1, p.2)
          | none => none
        | _ => none
      | some (.ok false ς2) => lcRun vs t ft fe ds (wipeS vs ς2)
      | _ => none
/-- the block's own names as they were -/
def restore (ς0 : St) : List Nat → St → St
  | [], ς => ς
  | v :: vs, ς => (restore ς0 vs ς).set v (ς0.sl[v]?.join)
def noOwn (ς : St) (vs : List Nat) : Bool := vs.all fun v => match ς.sl[v]? with
  | some (some (.ow _)) => false
  | _ => true
def lcA (vs : List Nat) (t : Dat → St → Option St) (ft : Act Bool) (fe : Act ER) (fi : Act (List Dat)) : Act ER := fi.bnd fun ds ς => if noOwn ς vs = true then
    match lcRun vs t ft fe ds (wipeS vs ς) with
    | some (xs, ς') => if xs.length ≤ sizeLine then some (.ok (.tp (.lst xs)) (restore ς vs ς')) else none
    | none => none
  else none
def Ctx.blk (c : Ctx) (scope : Scope) : Ctx := { c with sc := relS scope c.sc, fnn := fun x => scope.names.lookup x == some .cell }
theorem Ctx.Ok.blk {c : Ctx} {X : Cx} (h : c.Ok X) {s : Shared} {H : Hp} {scope : Scope} {C : Addr} {cl : List (Str × Addr)} {fp : List Addr} : (c.blk scope).Ok (X.blk s H scope (compEnvC scope cl C X.env) fp) :=
  ⟨h.prog, h.w, h.K, h.mg, h.base, h.N, by show relS scope X.env.scope = relS scope c.sc; rw [h.sc], h.nd, h.calm, h.room, fun x hx => hx, PassesOwn.never⟩

theorem restore_len (ς0 : St) : ∀ (vs : List Nat) (ς : St), (restore ς0 vs ς).sl.length = ς.sl.length
  | [], ς => rfl
  | v :: vs, ς => by unfold restore; rw [St.set_len, restore_len ς0 vs ς]
theorem restore_ob (ς0 : St) : ∀ (vs : List Nat) (ς : St), (restore ς0 vs ς).ob = ς.ob
  | [], ς => rfl
  | v :: vs, ς => by unfold restore; exact restore_ob ς0 vs ς
theorem restore_get {ς0 : St} : ∀ {vs : List Nat} {ς : St} {i : Nat} {s : Slot}, (restore ς0 vs ς).sl[i]? = some (some s) → (i ∈ vs ∧ ς0.sl[i]? = some (some s)) ∨ (i ∉ vs ∧ ς.sl[i]? = some (some s))
  | [], ς, i, s, h => .inr ⟨by simp, h⟩
  | v :: vs, ς, i, s, h => by
    unfold restore at h
    by_cases hi : v = i
    · subst hi
      have hl : v < (restore ς0 vs ς).sl.length := by
        have := (List.getElem?_eq_some_iff.mp h).1
        rwa [St.set_len] at this
      have h : ((restore ς0 vs ς).sl.set v (ς0.sl[v]?.join))[v]? = some (some s) := h
      rw [List.getElem?_set_self hl] at h
      refine .inl ⟨List.mem_cons_self .., ?_⟩
      have h : (ς0.sl[v]?).join = some s := Option.some.inj h
      cases q : ς0.sl[v]? with
      | none => rw [q] at h; cases h
      | some x => rw [q] at h; cases h; rfl
    · rw [St.set_ne hi] at h
      rcases restore_get h with ⟨h1, h2⟩ | ⟨h1, h2⟩
      · exact .inl ⟨List.mem_cons_of_mem _ h1, h2⟩
      · exact .inr ⟨by simp only [List.mem_cons, not_or]; exact ⟨fun e => hi e.symm, h1⟩, h2⟩
theorem Rel.restore {S : Sta} {n : Shp} {ς0 ς : St} {σ : L2.St} {H H0 : Hp} {w w0 : W} {vs : List Nat} (R0 : Rel S n ς0 σ H0 w0) (hno : noOwn ς0 vs = true) (F : Fr w0 H0 w H) (R : Rel S n ς (L2.wipe σ vs) H w) (hr : ∀ j ∈ vs, n.ro j = false) : Rel S n (restore ς0 vs ς) σ H w := by
  refine ⟨R.sub, R.nof, by rw [restore_len]; exact R.len, fun i s e => ?_, by rw [restore_ob]; exact R.obs, by rw [restore_ob]; exact R.adk, R.dom, R.own0, fun i v h1 h2 => ?_, R.arl⟩
  · rcases restore_get e with ⟨h1, h2⟩ | ⟨h1, h2⟩
    · obtain ⟨v, h3, h4⟩ := R0.slots i s h2
      refine ⟨v, h3, ?_⟩
      cases s with
      | fr d => exact Rep.mono F.hf F.ad h4
      | ow d =>
        have := List.all_eq_true.mp hno i h1
        rw [h2] at this
        cases this
    · obtain ⟨v, h3, h4⟩ := R.slots i s h2
      exact ⟨v, by rw [wipe_out h1] at h3; exact h3, h4⟩
  · have hj : i ∉ vs := fun q => by rw [hr i q] at h1; cases h1
    have := R.arg i v h1 h2
    rwa [wipe_out hj] at this
theorem ve_lc {c : Ctx} {elt tg iter : Expr} {ifs : List Expr} {scope : Scope} {own : List (Str × Nat)} {pos : Pos} {fi : Act (List Dat)} {t : Dat → St → Option St} {is : List Nat} {ft : Act Bool} {fe : Act ER} (hi : VI c tg iter fi) (hg : VG (c.blk scope) tg t is) (ht : VTs (c.blk scope) ifs ft) (he : VE (c.blk scope) elt fe)
    (ok : BlkOk c.N c.sc scope own) (his : ∀ i ∈ is, i ∈ own.map (·.2)) (hro : ∀ j ∈ own.map (·.2), c.ro j = false) (hs : ∀ env x, foldedSetIterable iter env x = pure x) :
    VE c (.ListComp elt [⟨tg, iter, ifs, 0⟩] scope pos) (lcA (own.map (·.2)) t ft fe fi) := fun X hX pins s σ H w ς o ho I R T => by
  let B := fun (s0 : Shared) (H0 : Hp) (C : Addr) (cl : List (Str × Addr)) (fp : List Addr) => X.blk s0 H0 scope (compEnvC scope cl C X.env) fp
  let wi : TI := fun σ H Rr => ∀ pins s, Inv X pins σ H s → wpAny (model X.prog X.w) X.A (eval iter X.env) (fun v s1 => wpAny (model X.prog X.w) X.A (pyIter v) (PIE X pins σ tg Rr) X.xe s1) X.xe s
  let gg : TG := fun v σ H Q => ∀ s0 H0 C cl fp pins s u, Inv (B s0 H0 C cl fp) pins σ H s → RelV v u → wpAny (model X.prog X.w) X.A (assign tg (compEnvC scope cl C X.env) u) (fun _ s' => ∃ σ' H', Inv (B s0 H0 C cl fp) pins σ' H' s' ∧ Q σ' H') (fun _ _ => False) s
  let tt : TT := fun σ H Q => ∀ s0 H0 C cl fp pins s, Inv (B s0 H0 C cl fp) pins σ H s → wpAny (model X.prog X.w) X.A (forIn ifs true fun c r => if r = true then do let ok ← isTrue c (compEnvC scope cl C X.env) (eval c (compEnvC scope cl C X.env)); pure (ForInStep.yield ok) else pure (ForInStep.yield r)) (TP (B s0 H0 C cl fp) pins σ Q) (fun _ _ => False) s
  let te : TE := fun σ H Q => ∀ s0 H0 C cl fp pins s, Inv (B s0 H0 C cl fp) pins σ H s → wpAny (model X.prog X.w) X.A (eval elt (compEnvC scope cl C X.env)) (EP (B s0 H0 C cl fp) pins σ Q) (fun _ _ => False) s
  have hN : X.N.Nodup := by rw [hX.N]; exact hX.nd
  have pe : PE X (.ListComp elt [⟨tg, iter, ifs, 0⟩] scope pos) (tLc wi gg tt te (own.map (·.2))) :=
    pe_lc hX.calm hN ⟨fun pins s σ H Rr I h => h pins s I⟩ (by rw [hX.N, hX.sc]; exact ok) (fun s0 H0 C cl fp => ⟨fun pins s σ H v u Q I r h => h s0 H0 C cl fp pins s u I r⟩)
      (fun s0 H0 C cl fp => ⟨fun pins s σ H Q I h => h s0 H0 C cl fp pins s I⟩) (fun s0 H0 C cl fp => ⟨fun pins s σ H Q I h => h s0 H0 C cl fp pins s I⟩) (hs _)
  unfold lcA Act.bnd at ho
  cases q : fi ς with
  | none => rw [q] at ho; cases ho
  | some o1 =>
    rw [q] at ho
    cases o1 with
    | ex x ς1 =>
      cases ho
      refine wpAny_mono (pe.run pins s σ H (fun _ _ => False) I fun pins' s' I' => ?_) (fun u s' ⟨_, _, _, _, z⟩ => z.elim) fun _ _ z => z
      exact wpAny_mono (hi X hX pins' s' σ H w ς _ q I' R T) (fun u s1 z => wpAny_mono z (fun u s2 z => z.elim) fun _ _ z => z) fun _ _ z => z
    | ok ds ς1 =>
      simp only at ho
      split at ho
      · rename_i hno
        split at ho
        · rename_i xs ς2 hrun
          split at ho
          · rename_i hz
            cases ho
            refine wpAny_mono (pe.run pins s σ H (fun v H' => ∃ w', Fr w H w' H' ∧ Rel c.toSta c.n (VS.restore ς1 (own.map (·.2)) ς2) σ H' w' ∧ ResOk c.toSta w' H H' σ v (.tp (.lst xs))) I fun pins' s' I' => ?_) (fun u s' ⟨v, H', I', rv, w', F', R', ro⟩ => ⟨v, H', w', I', rv, F', R', ro⟩) fun _ _ z => z
            refine wpAny_mono (hi X hX pins' s' σ H w ς _ q I' R trivial) (fun u s1 z => wpAny_mono z (fun u s2 z => ?_) fun _ _ z => z) fun _ _ z => z
            obtain ⟨it, fp, tn, J, H1, e1, I1, Tn, st, f2, w1, F1, R1, WK⟩ := z
            refine ⟨it, fp, tn, J, H1, e1, I1, Tn, st, f2, fun D hD => ?_⟩
            -- the new list
            obtain ⟨RL, FL⟩ := R1.laid (o := .lst []) hD
            have hoD : w1.own D = none := R1.own0 D hD
            have hfD : w1.Hf D = none := by
              cases z : w1.Hf D with
              | none => rfl
              | some o => have := R1.sub D o z; rw [hD] at this; cases this
            have RW0 : Rel c.toSta c.n (wipeS (own.map (·.2)) ς1) (L2.wipe σ (own.map (·.2))) (upd H1 D (.lst [])) w1 := RL.wipe rfl hro
            refine ⟨fun i m H' => ∃ w' ς' accV accD ds' rest, m = ds'.length ∧ ds' = ds.drop i ∧ i ≤ ds.length ∧ Fr w1 H1 w' H' ∧ Rel c.toSta c.n ς' (L2.wipe σ (own.map (·.2))) H' w' ∧ w'.own D = none ∧ w'.Hf D = none ∧ H' D = some (.lst accV) ∧ Reps c.toSta w'.Hf w'.ads accV accD ∧ lcRun (own.map (·.2)) t ft fe ds' ς' = some (rest, ς2) ∧ accD ++ rest = xs,
              ⟨ds.length, w1, _, [], [], ds, xs, rfl, rfl, Nat.zero_le _, FL, RW0, hoD, hfD, upd_same, .nil, hrun, rfl⟩, ?_⟩
            rintro i m H2 ⟨w2, ς3, accV, accD, ds', rest, rfl, hdr, hile, F2, R2, ho2, hf2, hD2, ra, hr2, hxs⟩
            cases ds' with
            | nil =>
              have hie : i = ds.length := by have := congrArg List.length hdr; simp at this; omega
              subst hie
              cases hr2
              refine .inl ⟨WK.stop w2 H2 F2.hf R2.sub, w2, F1.trans F2, R1.restore hno F2 R2 hro, D, rfl, F1.dm D hD, ho2, hf2, ?_⟩
              rw [List.append_nil] at hxs
              subst hxs
              exact .lst hD2 ra
            | cons d ds3 =>
              have hlt : i < ds.length := by have := congrArg List.length hdr; simp at this; omega
              have hdi : ds[i]? = some d := by
                have q : (ds.drop i)[0]? = some d := by rw [← hdr]; rfl
                rw [List.getElem?_drop] at q
                simpa using q
              have hdn : ds3 = ds.drop (i + 1) := by
                have q : (ds.drop i).drop 1 = ds3 := by rw [← hdr]; rfl
                rw [List.drop_drop] at q
                exact q.symm
              refine .inr ⟨WK.go i w2 H2 hlt F2.hf R2.sub, fun H' => ∃ m', m' < (d :: ds3).length ∧ ∃ w' ς' accV accD ds' rest, m' = ds'.length ∧ ds' = ds.drop (i + 1) ∧ i + 1 ≤ ds.length ∧ Fr w1 H1 w' H' ∧ Rel c.toSta c.n ς' (L2.wipe σ (own.map (·.2))) H' w' ∧ w'.own D = none ∧ w'.Hf D = none ∧ H' D = some (.lst accV) ∧ Reps c.toSta w'.Hf w'.ads accV accD ∧ lcRun (own.map (·.2)) t ft fe ds' ς' = some (rest, ς2) ∧ accD ++ rest = xs, fun H' z => z, fun x H3 hy => ?_⟩
              obtain ⟨w3, F3, R3, d', hd', rp⟩ := WK.yld i x H2 w2 H3 ς3 _ hlt R2 F2.hf F2.ad hy
              rw [hdi] at hd'
              cases hd'
              intro s0 H0 C cl fp' pins'' s'' u'' I'' rv''
              unfold lcRun at hr2
              split at hr2
              · cases hr2
              · rename_i ς4 e4
                have keepD : ∀ {wa wb : W} {Ha Hb : Hp}, Fr wa Ha wb Hb → wa.own D = none → wa.Hf D = none → Ha D = some (.lst accV) → wb.own D = none ∧ wb.Hf D = none ∧ Hb D = some (.lst accV) := fun {wa wb Ha Hb} F h1 h2 h3 => ⟨(F.kp D _ h3 h1).2, F.nf D _ h3 h1 h2, (F.kp D _ h3 h1).1⟩
                obtain ⟨o3, f3, d3⟩ := keepD F3 ho2 hf2 hD2
                refine wpAny_mono (hg _ hX.blk pins'' s'' _ H3 w3 ς3 ς4 x u'' d e4 I'' R3 rv'' rp) (fun _ s4 ⟨σ4, w4, I4, F4, R4, k4⟩ => ⟨σ4, H3, I4, ?_, fun s0 H0 C cl fp' pins'' s'' I'' => ?_⟩) fun _ _ z => z
                · have : L2.wipe σ4 (own.map (·.2)) = L2.wipe (L2.wipe σ (own.map (·.2))) (own.map (·.2)) := wipe_eq (by rw [I4.len]; have := I''.len; rw [this]) fun j hj => k4 j fun z => hj (his j z)
                  rw [this]
                  exact wipe_eq (by rw [wipe_length]) fun j hj => wipe_out hj
                · obtain ⟨o4, f4, d4⟩ := keepD F4 o3 f3 d3
                  have hw4 : L2.wipe σ4 (own.map (·.2)) = L2.wipe σ (own.map (·.2)) := by
                    have : L2.wipe σ4 (own.map (·.2)) = L2.wipe (L2.wipe σ (own.map (·.2))) (own.map (·.2)) := wipe_eq (by rw [I4.len, wipe_length, I1.len]) fun j hj => k4 j fun z => hj (his j z)
                    rw [this]
                    exact wipe_eq (by rw [wipe_length]) fun j hj => wipe_out hj
                  cases e5 : ft ς4 with
                  | none => rw [e5] at hr2; cases hr2
                  | some o5 =>
                    cases o5 with
                    | ex x5 ς5 => rw [e5] at hr2; cases hr2
                    | ok b5 ς5 =>
                      refine wpAny_mono (ht _ hX.blk pins'' s'' σ4 H3 w4 ς4 _ e5 I'' R4 trivial) (fun b s5 ⟨eb, H5, w5, I5, F5, R5⟩ => ⟨H5, I5, ?_⟩) fun _ _ z => z
                      subst eb
                      obtain ⟨o5, f5, d5⟩ := keepD F5 o4 f4 d4
                      have F25 := ((F2.trans F3).trans F4).trans F5
                      cases b with
                      | false =>
                        rw [e5] at hr2
                        simp only at hr2
                        simp only [Bool.false_eq_true, if_false]
                        exact ⟨ds3.length, by simp, w5, _, accV, accD, ds3, rest, rfl, hdn, hlt, F25, R5.wipe hw4 hro, o5, f5, d5, ra.mono (((F3.trans F4).trans F5).hf) (((F3.trans F4).trans F5).ad), hr2, hxs⟩
                      | true =>
                        rw [e5] at hr2
                        simp only at hr2
                        simp only [if_true]
                        intro s0 H0 C cl fp' pins'' s'' I''
                        cases e6 : fe ς5 with
                        | none => rw [e6] at hr2; cases hr2
                        | some o6 =>
                          cases o6 with
                          | ex x6 ς6 => rw [e6] at hr2; cases hr2
                          | ok r6 ς6 =>
                            rw [e6] at hr2
                            simp only at hr2
                            refine wpAny_mono (he _ hX.blk pins'' s'' σ4 H5 w5 ς5 _ e6 I'' R5 trivial) (fun u6 s6 ⟨v6, H6, w6, I6, rv6, F6, R6, ro6⟩ => ⟨v6, H6, I6, rv6, ?_⟩) fun _ _ z => z
                            cases e7 : settle ς6 r6 with
                            | none => rw [e7] at hr2; cases hr2
                            | some p7 =>
                              obtain ⟨x7, ς7⟩ := p7
                              rw [e7] at hr2
                              simp only at hr2
                              cases e8 : lcRun (own.map (·.2)) t ft fe ds3 (wipeS (own.map (·.2)) ς7) with
                              | none => rw [e8] at hr2; cases hr2
                              | some p8 =>
                                rw [e8] at hr2
                                cases hr2
                                obtain ⟨w7, F7, R7, rp7⟩ := settle_ok F6 R6 ro6 e7
                                obtain ⟨o7, f7, d7⟩ := keepD F7 o5 f5 d5
                                have F57 := F25.trans F7
                                have ra7 := ra.mono ((((F3.trans F4).trans F5).trans F7).hf) ((((F3.trans F4).trans F5).trans F7).ad)
                                have hla : accV.length < sizeLine := by
                                  have h1 := ra.length
                                  have h2 : (accD ++ (x7 :: p8.1)).length ≤ sizeLine := by rw [hxs]; exact hz
                                  rw [List.length_append, List.length_cons] at h2
                                  omega
                                refine ⟨accV, d7, hla, ds3.length, by simp, w7, _, accV ++ [v6], accD ++ [x7], ds3, p8.1, rfl, hdn, hlt, ⟨F57.hf, F57.ad, fun b u h1 h2 => ?_, F57.nf, fun b h => ?_, F57.h0, F57.as, F57.ow⟩, (R7.poke o7 f7 d7).wipe hw4 hro, o7, f7, upd_same, ra7.append (.cons rp7 .nil), e8, by rw [List.append_assoc]; exact hxs⟩
                                · have nb : b ≠ D := fun q => by rw [q, hD] at h1; cases h1
                                  rw [upd_ne nb]
                                  exact F57.kp b u h1 h2
                                · by_cases hb : b = D
                                  · rw [hb]; exact hD
                                  · rw [upd_ne hb] at h
                                    exact F57.dm b h
          · cases ho
        · cases ho
      · cases ho
end VS

namespace VS
open PySem L2 PyProof.Rows

section
variable {c : Ctx} {X : Cx} {a b e tg iter : Expr} {fa fb fc : Act ER} {pos : Pos} {es : List Expr} {f : Act ER} {st : Stmt} {rest body : List Stmt} {g : Act (List ER)}
/-! ### range -/
def inR (i : Int) : Bool := decide (-(2 ^ 62) ≤ i ∧ i < 2 ^ 62)
def rangeF : List Dat → Option (List Dat)
  | [.int j] => if inR j = true then some (rangeD 0 j.toNat) else none
  | [.int i, .int j] => if (inR i && inR j) = true then some (rangeD i (j - i).toNat) else none
  | _ => none
def rangeA (fs : Act (List ER)) : Act (List Dat) := fs.bnd fun rs ς => ((curL ς rs).bind rangeF).map fun ds => .ok ds ς
theorem inR_of {i : Int} (h : inR i = true) : -(2 ^ 62) ≤ i ∧ i < 2 ^ 62 := of_decide_eq_true h
theorem vi_range {p : Pos} (ha : VA c (e :: es) g) (hg : GlS c "range") (hm : c.mg "range" = none)
    (he : ∀ env, starEach (e :: es) env = (false, eval e env) :: starEach es env) (hpl : ∀ env, (backTo pos (starEach es env)).any (·.1) = false) : VI c tg (.Call (.Name "range" p) (e :: es) [] pos) (rangeA g) := fun X hX pins s σ H w ς o ho I R T => by
  refine Call_ (ld_blt I (hg.gl hX) (by rw [hX.mg]; exact hm) boot_range (PyProof.Rows.callWith_type1 (va_then ha hX I R T ho fun rs ς1 us s1 vs H1 w1 h1 I1 rvs F1 R1 T1 ros => ?_) (he _) (hpl _)))
  cases e : curL ς1 rs with
  | none => rw [e] at h1; cases h1
  | some ds =>
    rw [e] at h1
    cases e2 : rangeF ds with
    | none => simp only [Option.bind_some, e2] at h1; cases h1
    | some ys =>
      simp only [Option.bind_some, e2] at h1
      cases h1
      have va := R1.views ros e
      unfold rangeF at e2
      split at e2
      · rename_i j
        split at e2
        · rename_i hj
          cases e2
          obtain ⟨v, rfl, hv⟩ := va.one
          obtain rfl := hv.int
          obtain ⟨q1, q2⟩ := inR_of hj
          obtain ⟨u, rfl, t, rfl⟩ := vals1 rvs
          exact call_range_1 (range_it I1 (by omega) (by omega) q1 q2 ⟨w1, F1, R1, by simpa using walk_range 0 j.toNat w1⟩)
        · cases e2
      · rename_i i j
        split at e2
        · rename_i hj
          rw [Bool.and_eq_true] at hj
          cases e2
          obtain ⟨v, u, rfl, hv, hu⟩ := va.two
          obtain rfl := hv.int
          obtain rfl := hu.int
          obtain ⟨q1, q2⟩ := inR_of hj.1
          obtain ⟨q3, q4⟩ := inR_of hj.2
          obtain ⟨u1, u2, rfl, ⟨t, rfl⟩, ⟨t', rfl⟩⟩ := vals2 rvs
          exact call_range_2 (range_it I1 q1 q2 q3 q4 ⟨w1, F1, R1, walk_range i (j - i).toNat w1⟩)
        · cases e2
      · cases e2

/-! ### a < b < c -/
def chainA (g1 g2 : Dat → Dat → Option ER) (fa fb fc : Act ER) : Act ER := fa.bnd fun r1 => fb.bnd fun r2 => (opD g1 r1 r2).bnd fun q => (truA q).bnd fun k => if k = true then fc.bnd fun r3 => opD g2 r2 r3 else Act.ret q
theorem opD_then {β : Type} {f : Value → Value → Sem Value} {g : Dat → Dat → Option ER} {k : ER → Act β} {o : Out β} (hf : P2 c f g) (hX : c.Ok X) {pins : List (Addr × Obj)} {s : Shared} {σ : L2.St} {H Hs Hs' : Hp} {w : W} {ς : St} {r1 r2 : ER} {v1 v2 : V} {u1 u2 : Value}
    (I : Inv X pins σ H s) (R : Rel c.toSta c.n ς σ H w) (T : XT c X w H o) (rv1 : RelV v1 u1) (rv2 : RelV v2 u2) (ro1 : ResOk c.toSta w Hs H σ v1 r1) (ro2 : ResOk c.toSta w Hs' H σ v2 r2) (ho : (opD g r1 r2).bnd k ς = some o) {Q : Value → Shared → Prop}
    (hk : ∀ (r : ER) (ς1 : St) (u : Value) (s1 : Shared) (v : V) (H1 : Hp) (w1 : W), k r ς1 = some o → Inv X pins σ H1 s1 → RelV v u → Fr w H w1 H1 → Rel c.toSta c.n ς1 σ H1 w1 → XT c X w1 H1 o → ResOk c.toSta w1 H H1 σ v r → Q u s1) :
    wpAny (model X.prog X.w) X.A (f u1 u2) Q X.xe s := by
  unfold Act.bnd opD at ho
  cases e1 : cur ς r1 with
  | none => rw [e1] at ho; cases ho
  | some d1 =>
    cases e2 : cur ς r2 with
    | none => rw [e1, e2] at ho; cases ho
    | some d2 =>
      rw [e1, e2] at ho
      simp only at ho
      cases e3 : g d1 d2 with
      | none => rw [e3] at ho; cases ho
      | some r =>
        rw [e3] at ho
        simp only [Option.map_some] at ho
        exact wpAny_mono (hf X hX pins s σ H w ς v1 v2 u1 u2 d1 d2 r I R rv1 rv2 (R.view ro1 e1) (R.view ro2 e2) e3) (fun u s1 ⟨v, H1, w1, I1, rv, F1, R1, ro⟩ => hk r ς u s1 v H1 w1 ho I1 rv F1 R1 (T.from F1) ro) fun _ _ z => z.elim
theorem ve_chain {op op' : CmpOp} {g1 g2 : Dat → Dat → Option ER} {e3 : Expr} (h1 : P2 c (compareOp op) g1) (h2 : P2 c (compareOp op') g2) (ha : VE c a fa) (hb : VE c b fb) (hc : VE c e3 fc) (hm : lastMarks [op, op'] [b, e3] = false) : VE c (.Compare a [op, op'] [b, e3] pos) (chainA g1 g2 fa fb fc) := fun X hX pins s σ H w ς o ho I R T => by
  refine Compare_chain (ve_then ha hX I R T ho fun r1 ς1 u1 s1 v1 H1 w1 ho1 I1 rv1 F1 R1 T1 ro1 => chain_link (ve_then hb hX I1 R1 T1 ho1 fun r2 ς2 u2 s2 v2 H2 w2 ho2 I2 rv2 F2 R2 T2 ro2 => ?_)) hm
  refine opD_then h1 hX I2 R2 T2 rv1 rv2 (ro1.carry F2) ro2 ho2 fun q ς3 u3 s3 v3 H3 w3 ho3 I3 rv3 F3 R3 T3 ro3 => ?_
  refine tru_then hX I3 R3 rv3 ro3 ho3 fun k s4 ho4 I4 => ?_
  cases k with
  | false =>
    cases ho4
    exact ite_ff ⟨v3, H3, w3, I4, rv3, (F1.trans F2).trans F3, R3, ro3.back (F1.trans F2).dm⟩
  | true =>
    refine ite_tt (chain_last (ve_then hc hX I4 R3 T3 ho4 fun r5 ς5 u5 s5 v5 H5 w5 ho5 I5 rv5 F5 R5 T5 ro5 => ?_))
    have ho5' : (opD g2 r2 r5).bnd (fun r => Act.ret r) ς5 = some o := by
      unfold Act.bnd
      rw [ho5]
      cases o <;> rfl
    refine opD_then h2 hX I5 R5 T5 rv2 rv5 ((ro2.carry F3).carry F5) ro5 ho5' fun q ς6 u6 s6 v6 H6 w6 ho6 I6 rv6 F6 R6 T6 ro6 => ?_
    cases ho6
    have FF := ((F1.trans F2).trans F3).trans F5
    exact ⟨v6, H6, w6, I6, rv6, FF.trans F6, R6, ro6.back FF.dm⟩
theorem vt_chain {op op' : CmpOp} {g1 g2 : Dat → Dat → Option ER} {e3 : Expr} (h1 : P2 c (compareOp op) g1) (h2 : P2 c (compareOp op') g2) (ha : VE c a fa) (hb : VE c b fb) (hc : VE c e3 fc) (hm : lastMarks [op, op'] [b, e3] = false) :
    VT c (.Compare a [op, op'] [b, e3] pos) (fa.bnd fun r1 => fb.bnd fun r2 => (opD g1 r1 r2).bnd fun q => (truA q).bnd fun k => if k = true then fc.bnd fun r3 => (opD g2 r2 r3).bnd truA else Act.ret false) := fun X hX whole pins s σ H w ς o ho I R T hw => by
  refine isTrue_chain (ve_then ha hX I R T ho fun r1 ς1 u1 s1 v1 H1 w1 ho1 I1 rv1 F1 R1 T1 ro1 => test_link (ve_then hb hX I1 R1 T1 ho1 fun r2 ς2 u2 s2 v2 H2 w2 ho2 I2 rv2 F2 R2 T2 ro2 => ?_)) hm
  refine opD_then h1 hX I2 R2 T2 rv1 rv2 (ro1.carry F2) ro2 ho2 fun q ς3 u3 s3 v3 H3 w3 ho3 I3 rv3 F3 R3 T3 ro3 => ?_
  refine tru_then hX I3 R3 rv3 ro3 ho3 fun k s4 ho4 I4 => ?_
  cases k with
  | false =>
    cases ho4
    exact ite_ff ⟨rfl, H3, w3, I4, (F1.trans F2).trans F3, R3⟩
  | true =>
    refine ite_tt (test_last (ve_then hc hX I4 R3 T3 ho4 fun r5 ς5 u5 s5 v5 H5 w5 ho5 I5 rv5 F5 R5 T5 ro5 => ?_))
    refine opD_then h2 hX I5 R5 T5 rv2 rv5 ((ro2.carry F3).carry F5) ro5 ho5 fun q ς6 u6 s6 v6 H6 w6 ho6 I6 rv6 F6 R6 T6 ro6 => ?_
    have FF := ((F1.trans F2).trans F3).trans F5
    exact truthy_run hX ho6 I6 R6 (FF.trans F6) rv6 (ro6.back FF.dm)

/-! ### built-ins over lists -/
def blsD : List Dat → Option (List Bool)
  | [] => some []
  | .bl b :: r => (blsD r).map (b :: ·)
  | _ => none
theorem Reps.bls {S : Sta} {Hf : Hp} {ads : Nat → Option Addr} : ∀ {vs : List V} {ds : List Dat} {bs : List Bool}, Reps S Hf ads vs ds → blsD ds = some bs → vs = bs.map V.bl
  | _, _, _, .nil, e => by cases e; rfl
  | _, .bl b :: r, _, .cons h t, e => by
    unfold blsD at e
    cases q : blsD r with
    | none => rw [q] at e; cases e
    | some bs => rw [q] at e; cases e; cases h; rw [Reps.bls t q]; rfl
  | _, .non :: r, _, .cons h t, e => by cases e
  | _, .int _ :: r, _, .cons h t, e => by cases e
  | _, .str _ :: r, _, .cons h t, e => by cases e
  | _, .ty _ :: r, _, .cons h t, e => by cases e
  | _, .fn _ :: r, _, .cons h t, e => by cases e
  | _, .cl _ :: r, _, .cons h t, e => by cases e
  | _, .obj _ :: r, _, .cons h t, e => by cases e
  | _, .tup _ :: r, _, .cons h t, e => by cases e
  | _, .lst _ :: r, _, .cons h t, e => by cases e
  | _, .dic _ :: r, _, .cons h t, e => by cases e
  | _, .set _ :: r, _, .cons h t, e => by cases e
def allD : List Dat → Option ER
  | [.lst ds] => (blsD ds).map fun bs => .fr (.bl (bs.all id))
  | _ => none
def anyD : List Dat → Option ER
  | [.lst ds] => (blsD ds).map fun bs => .fr (.bl (bs.any id))
  | _ => none
theorem pn_all : PN c (.builtin "all") allD := PN.of fun X hX pins s σ H w ς vs ds r I R va e => by
  unfold allD at e
  split at e
  · rename_i ds
    cases q : blsD ds with
    | none => rw [q] at e; cases e
    | some bs =>
      rw [q] at e
      cases e
      obtain ⟨v, rfl, hv⟩ := va.one
      obtain ⟨p, vs, rfl, hp, rp⟩ := hv.lst R.sub
      refine ⟨_, fun v' H' => v' = .bl (bs.all id) ∧ H' = H, cr_all hX.calm, ⟨p, bs, rfl, by rw [← rp.bls q]; show SqL X.K H p vs; rw [hX.K]; exact hp, rfl, rfl⟩, fun v' H' u s' ⟨e1, e2⟩ I' rv => ?_⟩
      subst e1; subst e2
      exact ne_fr I' rv R (.bl _)
  · cases e
theorem pn_any : PN c (.builtin "any") anyD := PN.of fun X hX pins s σ H w ς vs ds r I R va e => by
  unfold anyD at e
  split at e
  · rename_i ds
    cases q : blsD ds with
    | none => rw [q] at e; cases e
    | some bs =>
      rw [q] at e
      cases e
      obtain ⟨v, rfl, hv⟩ := va.one
      obtain ⟨p, vs, rfl, hp, rp⟩ := hv.lst R.sub
      refine ⟨_, fun v' H' => v' = .bl (bs.any id) ∧ H' = H, cr_any hX.calm, ⟨p, bs, rfl, by rw [← rp.bls q]; show SqL X.K H p vs; rw [hX.K]; exact hp, rfl, rfl⟩, fun v' H' u s' ⟨e1, e2⟩ I' rv => ?_⟩
      subst e1; subst e2
      exact ne_fr I' rv R (.bl _)
  · cases e
theorem vals_mk : ∀ {vs : List V} {us : List Value}, vs.length = us.length → (∀ (i : Nat) (u : Value), us[i]? = some u → ∃ v, vs[i]? = some v ∧ RelV v u) → Vals vs us
  | [], [], _, _ => .nil
  | v :: vs, u :: us, hl, h => by
    obtain ⟨v', h1, h2⟩ := h 0 u rfl
    cases h1
    exact .cons h2 (vals_mk (by simpa using hl) fun i u' hu => by simpa using h (i + 1) u' (by simpa using hu))
  | [], _ :: _, hl, _ => by simp at hl
  | _ :: _, [], hl, _ => by simp at hl
/-- list(x) of a list, a tuple, a text -/
def listD : List Dat → Option ER
  | [.lst ds] => some (.tp (.lst ds))
  | [.tup ds] => some (.tp (.lst ds))
  | [.str x] => if x.cps.size ≤ sizeLine then some (.tp (.lst (signsD x))) else none
  | _ => none
theorem pn_list : PN c (.type "list") listD := fun X hX pins s σ H w ς vs us ds r I R rvs va e => by
  have seq : ∀ {p : Addr} {ys : List V} {es : List Dat}, (SqL X.K H p ys ∨ SqT X.K H p ys) → Reps c.toSta w.Hf w.ads ys es → vs = [.ref p] → r = .tp (.lst es) → wpAny (model X.prog X.w) X.A (call (.type "list") us) (NE c X pins σ w H (.ok r ς)) (fun _ _ => False) s := fun {p ys es} hq rp e1 e2 => by
    subst e1; subst e2
    refine wpAny_mono (call_list_of (X := X.nox) pins s σ H [.ref p] us (fun v' H' => ∃ l, H l = none ∧ v' = .ref l ∧ H' = upd H l (.lst ys)) (I.wish _) rvs ⟨p, ys, rfl, hq, fun l hl => ⟨l, hl, rfl, rfl⟩⟩) (fun u s' ⟨v', H', I', rv, l, hl, e1, e2⟩ => ?_) fun _ _ z => z.elim
    subst e1; subst e2
    cases rv
    exact ne_lst I'.unwish hl R rp
  unfold listD at e
  split at e
  · rename_i ds
    cases e
    obtain ⟨v, rfl, hv⟩ := va.one
    obtain ⟨p, vs, rfl, hp, rp⟩ := hv.lst R.sub
    exact seq (.inl (by rw [hX.K]; exact hp)) rp rfl rfl
  · rename_i ds
    cases e
    obtain ⟨v, rfl, hv⟩ := va.one
    obtain ⟨p, vs, rfl, hp, rp⟩ := hv.tup R.sub
    exact seq (.inr (by rw [hX.K]; exact hp)) rp rfl rfl
  · rename_i x
    split at e
    · rename_i hz
      cases e
      obtain ⟨v, rfl, hv⟩ := va.one
      obtain rfl := hv.str
      obtain ⟨u, rfl, t, rfl⟩ := vals1 rvs
      refine call_list_str (hn := hz) (I.ok.hd hX.calm) x t fun h' tk acc' c' kp hS hacc => ?_
      have hl : acc'.toList.length = x.cps.size := by simpa using hacc.1
      have hv : Vals (x.cps.toList.map fun k => V.str ⟨#[k]⟩) acc'.toList := by
        refine vals_mk (by simpa using hl.symm) fun i u hu => ?_
        obtain ⟨k, t', hk, rfl⟩ := hacc.2 i u (by simpa using hu)
        exact ⟨.str ⟨#[k]⟩, by simp [hk], t', rfl⟩
      have hr : Reps c.toSta w.Hf w.ads (x.cps.toList.map fun k => V.str ⟨#[k]⟩) (signsD x) := by
        unfold signsD
        generalize x.cps.toList = l
        induction l with
        | nil => exact .nil
        | cons k l ih => exact .cons (.str _) ih
      have hf : H s.heap.objs.size = none := I.hok.fresh (Nat.le_refl _)
      have I2 := I.laid (a := s.heap.objs.size) (o := .lst (x.cps.toList.map fun k => V.str ⟨#[k]⟩)) (h' := h') (t' := tk) kp (Nat.le_refl _) ⟨by simpa using hz, acc'.toList, c', hv, hS⟩
      exact ne_lst I2 hf R hr
    · cases e
  · cases e
end
end VS

namespace VS
open PySem L2 PyProof.Rows

/-! ### isinstance -/
def tyN : Dat → Option String
  | .non => some "NoneType"
  | .bl _ => some "bool"
  | .int _ => some "int"
  | .str _ => some "str"
  | .lst _ => some "list"
  | .tup _ => some "tuple"
  | _ => none
def isiB (t n : String) : Option Bool :=
  if n = "int" then (if t = "int" then some true else if t = "bool" then some true else if t ∈ ["NoneType", "str", "list", "tuple", "dict"] then some false else none)
  else if n ∈ ["bool", "str", "list", "tuple", "dict"] then (if t ∈ ["NoneType", "bool", "int", "str", "list", "tuple", "dict"] then some (decide (t = n)) else none)
  else none
theorem isiB_ok {t n : String} {b : Bool} (h : isiB t n = some b) : kitB t n = some b := by
  have all : ∀ n ∈ ["int", "bool", "str", "list", "tuple", "dict"], ∀ t ∈ ["NoneType", "bool", "int", "str", "list", "tuple", "dict"], kitB t n = isiB t n := by decide +kernel
  have hn : n ∈ ["int", "bool", "str", "list", "tuple", "dict"] := by
    unfold isiB at h
    split at h
    · rename_i e; subst e; simp
    · split at h
      · rename_i e; exact List.mem_cons_of_mem _ e
      · cases h
  have ht : t ∈ ["NoneType", "bool", "int", "str", "list", "tuple", "dict"] := by
    unfold isiB at h
    split at h
    · split at h
      · rename_i e; subst e; simp
      · split at h
        · rename_i e; subst e; simp
        · split at h
          · rename_i e; revert e; simp only [List.mem_cons, List.not_mem_nil, or_false]; rintro (e | e | e | e | e) <;> subst e <;> simp
          · cases h
    · split at h
      · split at h
        · rename_i e; exact e
        · cases h
      · cases h
  rw [all n hn t ht]
  exact h
def isiD : List Dat → Option ER
  | [d, .ty n] => ((tyN d).bind fun t => isiB t n).map fun b => .fr (.bl b)
  | _ => none
section
variable {c : Ctx} {X : Cx} {a b e tg iter : Expr} {fa fb fc : Act ER} {pos : Pos} {es : List Expr} {f : Act ER} {st : Stmt} {rest body : List Stmt} {g : Act (List ER)}
theorem View.tyN {S : Sta} {w : W} {H : Hp} {v : V} {d : Dat} {t : String} (sub : Ext w.Hf H) (h : View S w H v d) (e : VS.tyN d = some t) : TyX S.K H v (.type t) := by
  cases d with
  | non => cases e; obtain rfl := h.non; exact .base .non
  | bl b => cases e; obtain rfl := h.bl; exact .base (.bl b)
  | int i => cases e; obtain rfl := h.int; exact .base (.int i)
  | str x => cases e; obtain rfl := h.str; exact .base (.str x)
  | lst ds =>
    cases e
    obtain ⟨a, vs, rfl, h1, h2⟩ := h.lst sub
    rcases h1 with (h1 | ⟨o, h1⟩) | ⟨o, its, n, h1, h2, _⟩
    · exact .base (.lst h1)
    · exact .base (.frz h1)
    · exact .kList h1 h2
  | tup ds =>
    cases e
    obtain ⟨a, vs, rfl, h1, h2⟩ := h.tup sub
    rcases h1 with (h1 | ⟨o, h1⟩) | ⟨o, its, n, h1, h2, _⟩
    · exact .base (.tup h1)
    · exact .fTuple h1
    · exact .kTuple h1 h2
  | _ => cases e
theorem pn_isi : PN c (.builtin "isinstance") isiD := PN.of fun X hX pins s σ H w ς vs ds r I R va e => by
  unfold isiD at e
  split at e
  · rename_i d n
    cases q : tyN d with
    | none => rw [q] at e; cases e
    | some t =>
      rw [q] at e
      simp only [Option.bind_some] at e
      cases q2 : isiB t n with
      | none => rw [q2] at e; cases e
      | some b =>
        rw [q2] at e
        cases e
        obtain ⟨v, u, rfl, hv, hu⟩ := va.two
        obtain rfl := hu.ty
        refine ⟨_, fun v' H' => v' = .bl b ∧ H' = H, call_isi, ⟨v, .ty n, .type t, .type n, b, rfl, .ty n, by show TyX X.K _ _ _; rw [hX.K]; exact hv.tyN R.sub q, kit_ty (isiB_ok q2), rfl, rfl⟩, fun v' H' u s' ⟨e1, e2⟩ I' rv => ?_⟩
        subst e1; subst e2
        exact ne_fr I' rv R (.bl _)
  · cases e

/-! ### a container of one's own is changed -/
theorem Rel.put {S : Sta} {n : Shp} {ς : St} {σ : L2.St} {H : Hp} {w : W} {j : Nat} {d d' : Dat} (R : Rel S n ς σ H w) (e : ς.sl[j]? = some (some (.ow d))) : ∃ a, σ[j]? = some (some (.ref a)) ∧ OwnC S w.Hf w.ads H a d ∧
    ∀ o', OwnC S w.Hf w.ads (upd H a o') a d' → Rel S n (ς.set j (some (.ow d'))) σ (upd H a o') w ∧ Fr w H w (upd H a o') := by
  obtain ⟨v, ev, a, rfl, ho, hn, hc, hy⟩ := R.slots _ _ e
  refine ⟨a, ev, hc, fun o' hc' => ?_⟩
  obtain ⟨o, hO⟩ := hc.there
  have so : ∀ {l v s}, l ≠ .slot j → SlotOk S w H l v s → SlotOk S w (upd H a o') l v s := fun {l v s} hl h => by
    cases s with
    | fr d => exact h
    | ow d =>
      obtain ⟨b, e, q1, q2, q3, q4⟩ := h
      have na : b ≠ a := fun q => by rw [q, ho] at q1; exact hl (Option.some.inj q1).symm
      exact ⟨b, e, q1, q2, q3.mono (Ext.refl _) (fun _ _ h => h) (upd_ne na), q4⟩
  have nn : ∀ b, (upd H a o') b = none → H b = none := fun b h => by
    by_cases hb : b = a
    · rw [hb, upd_same] at h; cases h
    · rwa [upd_ne hb] at h
  refine ⟨⟨fun b u h => ?_, R.nof, by rw [St.set_len]; exact R.len, fun i s e' => ?_, fun k ov e' => ?_, R.adk, fun b h => R.dom b (nn b h), fun b h => R.own0 b (nn b h), R.arg, R.arl⟩,
    ⟨Ext.refl _, fun _ _ h => h, fun b u h1 h2 => ⟨by rw [upd_ne (fun q => by rw [q, ho] at h2; cases h2)]; exact h1, h2⟩, fun _ _ _ _ h => h, nn, rfl, rfl, fun _ _ _ _ h => .inl h⟩⟩
  · have na : b ≠ a := fun q => by rw [q, hn] at h; cases h
    rw [upd_ne na]
    exact R.sub b u h
  · by_cases hij : j = i
    · subst hij
      rw [St.set_same e] at e'
      cases e'
      exact ⟨_, ev, a, rfl, ho, hn, hc', hy⟩
    · rw [St.set_ne hij] at e'
      obtain ⟨v, e1, e2⟩ := R.slots i s e'
      exact ⟨v, e1, so (fun q => by cases q; exact hij rfl) e2⟩
  · obtain ⟨b, C, dx, fs, q1, q2, q3, q4, q5, q6, q7⟩ := (R.obs k ov e').ex
    have na : b ≠ a := fun q => by rw [q, ho] at q3; cases q3
    exact ⟨b, C, dx, fs, q1, q2, q3, q4, by rw [upd_ne na]; exact q5, q6, fun i f v s e1 e2 => so (fun q => by cases q) (q7 i f v s e1 e2)⟩
/-- o[i] = v on a container of one's own -/
def PSt (c : Ctx) (g : Dat → Dat → Dat → Option Dat) : Prop :=
  ∀ X, c.Ok X → ∀ (pins : List (Addr × Obj)) (s : Shared) (σ : L2.St) (H : Hp) (w : W) (ς : St) (a : Addr) (y z : V) (u2 u3 : Value) (d k x d' : Dat),
    Inv X pins σ H s → Rel c.toSta c.n ς σ H w → RelV y u2 → RelV z u3 → OwnC c.toSta w.Hf w.ads H a d → View c.toSta w H y k → Rep c.toSta w.Hf w.ads z x → g d k x = some d' →
    wpAny (model X.prog X.w) X.A (setItem (.ref a) u2 u3) (fun _ s' => ∃ o', Inv X pins σ (upd H a o') s' ∧ OwnC c.toSta w.Hf w.ads (upd H a o') a d') (fun _ _ => False) s
def stL : Dat → Dat → Dat → Option Dat
  | .lst ds, .int k, x => (ixN ds.length k).map fun j => .lst (ds.set j x)
  | _, _, _ => none
theorem pst_lst : PSt c stL := fun X hX pins s σ H w ς a y z u2 u3 d k x d' I R r2 r3 hc hv hr e => by
  unfold stL at e
  split at e
  · rename_i ds k
    cases q : ixN ds.length k with
    | none => rw [q] at e; cases e
    | some j =>
      rw [q] at e
      cases e
      obtain rfl := hv.int
      cases hc with
      | lst h rs =>
        rename_i vs
        refine wpAny_mono (set_list (X := X.nox) pins s σ H (.ref a) (.int k) z _ _ _ (fun H' => H' = upd H a (.lst (vs.set j z))) (I.wish _) rfl r2 r3 ⟨a, vs, k, j, rfl, rfl, h, by rw [rs.length]; exact q, rfl⟩) (fun _ s' ⟨H', I', e1⟩ => ?_) fun _ _ z => z.elim
        subst e1
        exact ⟨_, I'.unwish, .lst upd_same (rs.set hr j)⟩
  · cases e
theorem ResOks.pair {S : Sta} {σ : L2.St} {w w1 w2 : W} {H0 H1 H1' H2 : Hp} {v1 v2 : V} {r1 r2 : ER} (ro1 : ResOk S w1 H0 H1 σ v1 r1) (F1 : Fr w1 H1 w H1') (F2 : Fr w H1' w2 H2) (h0 : ∀ a, H1 a = none → H0 a = none) (ro2 : ResOk S w2 H1' H2 σ v2 r2) : ResOks S w2 H0 H2 σ [v1, v2] [r1, r2] := by
  have ro2' : ResOk S w2 H0 H2 σ v2 r2 := ro2.back fun a h => h0 a (F1.dm a h)
  refine .cons ((ro1.carry F1).carry F2) (.cons ro2' .nil fun a _ p hp => by simp at hp) fun a ha p hp hm => ?_
  have hp : p = (v2, r2) := by simpa using hp
  subst hp
  have hn : H1' a = none := by
    cases r2 with
    | fr d => cases v2 <;> simp [tpAd] at hm
    | sl i => cases v2 <;> simp [tpAd] at hm
    | tp d =>
      obtain ⟨b, rfl, q, _⟩ := ro2
      simp only [tpAd, List.mem_singleton] at hm
      rw [hm]; exact q
  have hn1 := F1.dm a hn
  cases r1 with
  | fr d => cases v1 <;> simp [tpAd] at ha
  | sl i => cases v1 <;> simp [tpAd] at ha
  | tp d =>
    obtain ⟨b, rfl, _, _, _, h4⟩ := ro1
    simp only [tpAd, List.mem_singleton] at ha
    obtain ⟨o, h5⟩ := h4.there
    rw [ha, h5] at hn1
    cases hn1
def stIx (g : Dat → Dat → Dat → Option Dat) (r ro ri : ER) : Act Flw := fun ς => match settleL ς [r, ri] with
  | some ([x, k], ς') => match ro with
    | .sl j => match ς'.sl[j]? with
      | some (some (.ow d)) => (g d k x).map fun d' => .ok .nx (ς'.set j (some (.ow d')))
      | _ => none
    | _ => none
  | _ => none
def stA (g : Dat → Dat → Dat → Option Dat) (f fo fi : Act ER) : Act Flw := f.bnd fun r => fo.bnd fun ro => fi.bnd fun ri => stIx g r ro ri
theorem vs_setIx {o i : Expr} {pos' : Pos} {h : Dat → Dat → Dat → Option Dat} {fo fi : Act ER} (hp : PSt c h) (he : VE c e f) (ho : VE c o fo) (hi : VE c i fi) (hs : ∀ env : Env, swapsWithSole [.Subscript o i pos'] e pos.line env = pure false) (hw : ∀ env : Env, swappedStores [.Subscript o i pos'] e env = pure none)
    (h1 : ∀ env : Env, (assignEach [.Subscript o i pos'] env).map (·.2) = [assign (.Subscript o i pos') env]) (ha : ∀ (env : Env) v, assign (.Subscript o i pos') env v = (do
      let ov ← holding [v] (eval o env)
      let iv ← holding [v, ov] (eval i env)
      standAt pos'
      holding [v, ov, iv] (setItem ov iv v)
      release [v, ov, iv] [])) : VS1 c (.Assign [.Subscript o i pos'] e pos) (stA h f fo fi) := fun X hX pins s σ H w ς out hout I R T => by
  refine wpAny_Assign_stores (ve_then he hX I R T hout fun r ς1 u s1 v H1 w1 h1' I1 rv F1 R1 T1 ro => ?_) (hs _) (hw _)
  rw [h1]
  show wpAny _ _ (assign (.Subscript o i pos') X.env u) _ _ _
  rw [ha]
  refine wpAny_bind (wpAny_holding (ve_then ho hX I1 R1 T1 h1' fun r2 ς2 u2 s2 v2 H2 w2 h2 I2 rv2 F2 R2 T2 ro2 => ?_))
  refine wpAny_bind (wpAny_holding (ve_then hi hX I2 R2 T2 h2 fun r3 ς3 u3 s3 v3 H3 w3 h3 I3 rv3 F3 R3 T3 ro3 => ?_))
  unfold stIx at h3
  split at h3
  · rename_i x k ς4 e1
    split at h3
    · rename_i j
      split at h3
      · rename_i d hd
        cases e3 : h d k x with
        | none => rw [e3] at h3; cases h3
        | some d' =>
          rw [e3] at h3
          cases h3
          have ros := ResOks.pair ro F2 F3 F1.dm ro3
          obtain ⟨w4, F4, R4, rps, _, _⟩ := settleL_ok ((F1.trans F2).trans F3) R3 ros e1
          cases rps with
          | cons rp1 rps =>
            cases rps with
            | cons rp2 rps =>
              cases rps
              obtain ⟨a, hσ, hc, put⟩ := R4.put (d' := d') hd
              have ro2 : σ[j]? = some (some v2) := ro2
              rw [ro2] at hσ
              cases hσ
              cases rv2
              refine wpAny_bind (wpAny_standAt (wpAny_bind (wpAny_holding (wpAny_mono (hp X hX pins s3 σ H3 w4 ς4 a v3 v u3 u d k x d' I3 R4 rv3 rv hc (.inl rp2) rp1 e3) (fun _ s4 ⟨o', I4, hc'⟩ => ?_) fun _ _ z => z.elim))))
              obtain ⟨R5, F5⟩ := put o' hc'
              exact wpAny_release ⟨σ, _, w4, I4, F4.trans F5, R5⟩
      · cases h3
    · cases h3
  · cases h3
end
end VS

namespace VS
open PySem L2 PyProof.Rows

/-! ### a, b = x, y -/
def deslL (ς : St) : List ER → Option (List ER × St)
  | [] => some ([], ς)
  | .sl i :: rs => match settle ς (.sl i) with
    | none => none
    | some (d, ς1) => (deslL ς1 rs).map fun p => (.fr d :: p.1, p.2)
  | .fr d :: rs => (deslL ς rs).map fun p => (.fr d :: p.1, p.2)
  | .tp d :: rs => (deslL ς rs).map fun p => (.tp d :: p.1, p.2)
def setRL (ς : St) : List Nat → List ER → Option St
  | [], [] => some ς
  | i :: is, r :: rs => match setR ς i r with
    | none => none
    | some ς1 => setRL ς1 is rs
  | _, _ => none
def setVs (σ : L2.St) : List Nat → List V → L2.St
  | i :: is, v :: vs => setVs (σ.set i (some v)) is vs
  | _, _ => σ
section
variable {S : Sta} {n : Shp} {ς ς' : St} {σ : L2.St} {H H' Hs : Hp} {w w0 w' : W} {v : V} {d : Dat} {r : ER} {vs : List V} {rs : List ER}
theorem deslL_ok : ∀ {rs : List ER} {vs : List V} {w : W} {ς ς' : St} {rs' : List ER}, Fr w0 Hs w H → Rel S n ς σ H w → ResOks S w Hs H σ vs rs → deslL ς rs = some (rs', ς') →
    ∃ w', Fr w0 Hs w' H ∧ Rel S n ς' σ H w' ∧ ResOks S w' Hs H σ vs rs' ∧ (∀ r ∈ rs', ∀ i, r ≠ .sl i) ∧ (∀ p ∈ vs.zip rs', ∀ a ∈ tpAd p.1 p.2, ∃ q ∈ vs.zip rs, a ∈ tpAd q.1 q.2) ∧ ∀ u q, ResOk S w Hs H σ u q → (∀ a ∈ tpAd u q, ∀ p ∈ vs.zip rs, a ∉ tpAd p.1 p.2) → ResOk S w' Hs H σ u q
  | _, _, w, _, _, _, F, R, .nil, e => by
    unfold deslL at e
    cases e
    exact ⟨w, F, R, .nil, fun r h => by simp at h, fun p h => by simp at h, fun _ _ h _ => h⟩
  | .sl i :: rs, v :: vs, w, ς, ς', rs', F, R, .cons h t q, e => by
    unfold deslL at e
    split at e
    · cases e
    · rename_i d ς1 e1
      cases q2 : deslL ς1 rs with
      | none => rw [q2] at e; cases e
      | some p =>
        rw [q2] at e
        cases e
        obtain ⟨w1, F1, R1, rp, x1, y1, k⟩ := settle_ok' F R h e1
        have one : ∀ u z, ResOk S w Hs H σ u z → ResOk S w1 Hs H σ u z := fun u z hz => by
          have := k [u] [z] (.cons hz .nil fun a _ p hp => by simp at hp) (fun a ha => by cases v <;> simp [tpAd] at ha)
          cases this with
          | cons h _ _ => exact h
        obtain ⟨w2, F2, R2, ros, ns, sub, k2⟩ := deslL_ok (ς' := p.2) (rs' := p.1) F1 R1 (k _ _ t q) q2
        refine ⟨w2, F2, R2, .cons (k2 v (.fr d) rp (fun a ha => by cases v <;> simp [tpAd] at ha)) ros (fun a ha => by cases v <;> simp [tpAd] at ha), fun r hr j => ?_, fun p hp a ha => ?_, fun u z hz hd => k2 u z (one u z hz) fun a ha p hp => hd a ha p (by rw [List.zip_cons_cons]; exact List.mem_cons_of_mem _ hp)⟩
        · rcases List.mem_cons.mp hr with rfl | hr
          · intro z; cases z
          · exact ns r hr j
        · rw [List.zip_cons_cons] at hp
          rcases List.mem_cons.mp hp with rfl | hp
          · cases v <;> simp [tpAd] at ha
          · obtain ⟨q, hq, h⟩ := sub p hp a ha
            exact ⟨q, by rw [List.zip_cons_cons]; exact List.mem_cons_of_mem _ hq, h⟩
  | .fr d :: rs, v :: vs, w, ς, ς', rs', F, R, .cons h t q, e => by
    unfold deslL at e
    cases q2 : deslL ς rs with
    | none => rw [q2] at e; cases e
    | some p =>
      rw [q2] at e
      cases e
      obtain ⟨w2, F2, R2, ros, ns, sub, k2⟩ := deslL_ok (ς' := p.2) (rs' := p.1) F R t q2
      refine ⟨w2, F2, R2, .cons (k2 v (.fr d) h (fun a ha => by cases v <;> simp [tpAd] at ha)) ros (fun a ha => by cases v <;> simp [tpAd] at ha), fun r hr j => ?_, fun p hp a ha => ?_, fun u z hz hd => k2 u z hz fun a ha p hp => hd a ha p (by rw [List.zip_cons_cons]; exact List.mem_cons_of_mem _ hp)⟩
      · rcases List.mem_cons.mp hr with rfl | hr
        · intro z; cases z
        · exact ns r hr j
      · rw [List.zip_cons_cons] at hp
        rcases List.mem_cons.mp hp with rfl | hp
        · cases v <;> simp [tpAd] at ha
        · obtain ⟨q, hq, h⟩ := sub p hp a ha
          exact ⟨q, by rw [List.zip_cons_cons]; exact List.mem_cons_of_mem _ hq, h⟩
  | .tp d :: rs, v :: vs, w, ς, ς', rs', F, R, .cons h t q, e => by
    unfold deslL at e
    cases q2 : deslL ς rs with
    | none => rw [q2] at e; cases e
    | some p =>
      rw [q2] at e
      cases e
      obtain ⟨w2, F2, R2, ros, ns, sub, k2⟩ := deslL_ok (ς' := p.2) (rs' := p.1) F R t q2
      refine ⟨w2, F2, R2, .cons (k2 v (.tp d) h q) ros (fun a ha p hp hm => ?_), fun r hr j => ?_, fun p hp a ha => ?_, fun u z hz hd => k2 u z hz fun a ha p hp => hd a ha p (by rw [List.zip_cons_cons]; exact List.mem_cons_of_mem _ hp)⟩
      · obtain ⟨z, hz, hz2⟩ := sub p hp a hm
        exact q a ha z hz hz2
      · rcases List.mem_cons.mp hr with rfl | hr
        · intro z; cases z
        · exact ns r hr j
      · rw [List.zip_cons_cons] at hp
        rcases List.mem_cons.mp hp with rfl | hp
        · exact ⟨_, by rw [List.zip_cons_cons]; exact List.mem_cons_self .., ha⟩
        · obtain ⟨q, hq, h⟩ := sub p hp a ha
          exact ⟨q, by rw [List.zip_cons_cons]; exact List.mem_cons_of_mem _ hq, h⟩
theorem ResOks.take {a : Addr} {l : Loc} {σ' : L2.St} (h : ResOks S w Hs H σ vs rs) : (∀ r ∈ rs, ∀ i, r ≠ .sl i) → (∀ p ∈ vs.zip rs, a ∉ tpAd p.1 p.2) → ResOks S (VS.take w a l) Hs H σ' vs rs := by
  induction h with
  | nil => intro _ _; exact .nil
  | @cons v r vs rs h _ q ih =>
    intro ns hl
    rw [List.zip_cons_cons] at hl
    refine .cons ?_ (ih (fun r hr => ns r (List.mem_cons_of_mem _ hr)) fun p hp => hl p (List.mem_cons_of_mem _ hp)) q
    cases r with
    | fr d => exact h
    | sl i => exact absurd rfl (ns _ (List.mem_cons_self ..) i)
    | tp d =>
      obtain ⟨b, rfl, h1, h2, h3, h4⟩ := h
      have nb : b ≠ a := fun z => hl _ (List.mem_cons_self ..) (by simp [tpAd, z])
      exact ⟨b, rfl, h1, by show (if b = a then some l else w.own b) = none; rw [if_neg nb]; exact h2, h3, h4⟩
theorem ResOks.other {σ' : L2.St} (h : ResOks S w Hs H σ vs rs) : (∀ r ∈ rs, ∀ i, r ≠ .sl i) → ResOks S w Hs H σ' vs rs := by
  induction h with
  | nil => intro _; exact .nil
  | @cons v r vs rs h _ q ih =>
    intro ns
    refine .cons ?_ (ih fun r hr => ns r (List.mem_cons_of_mem _ hr)) q
    cases r with
    | fr d => exact h
    | sl i => exact absurd rfl (ns _ (List.mem_cons_self ..) i)
    | tp d => exact h
theorem setRL_ok (hd : ∀ a, Hs a = none → w0.H0 a = none) : ∀ {rs : List ER} {vs : List V} {is : List Nat} {w : W} {ς ς' : St} {σ : L2.St}, Fr w0 Hs w H → Rel S n ς σ H w → σ.length = n.n → ResOks S w Hs H σ vs rs → (∀ r ∈ rs, ∀ i, r ≠ .sl i) → (∀ i ∈ is, i < n.n ∧ n.ro i = false) → setRL ς is rs = some ς' →
    ∃ w', Fr w0 Hs w' H ∧ Rel S n ς' (setVs σ is vs) H w'
  | _, _, [], w, _, _, _, F, R, hl, .nil, ns, hi, e => by
    unfold setRL at e
    cases e
    exact ⟨w, F, R⟩
  | _, _, i :: is, w, _, _, _, F, R, hl, .nil, ns, hi, e => by
    unfold setRL at e
    cases e
  | _, _, [], w, _, _, _, F, R, hl, .cons .., ns, hi, e => by
    unfold setRL at e
    cases e
  | r :: rs, v :: vs, i :: is, w, ς, ς', σ, F, R, hl, .cons h t q, ns, hi, e => by
    unfold setRL at e
    have ns' : ∀ r ∈ rs, ∀ i, r ≠ .sl i := fun r hr => ns r (List.mem_cons_of_mem _ hr)
    obtain ⟨hi1, hi2⟩ := hi i (List.mem_cons_self ..)
    have hi' : ∀ i ∈ is, i < n.n ∧ n.ro i = false := fun j hj => hi j (List.mem_cons_of_mem _ hj)
    have hl' : (σ.set i (some v)).length = n.n := by rw [List.length_set]; exact hl
    cases r with
    | sl j => exact absurd rfl (ns _ (List.mem_cons_self ..) j)
    | fr d => exact setRL_ok (σ := σ.set i (some v)) (is := is) (vs := vs) (rs := rs) hd F (R.set_fr hi1 hl hi2 h) hl' (t.other ns') ns' hi' e
    | tp d =>
      obtain ⟨a, rfl, h1, h2, h3, h4⟩ := h
      exact setRL_ok (σ := σ.set i (some (.ref a))) (is := is) (vs := vs) (rs := rs) hd (F.take h1) (R.set_ow hi1 hl hi2 h2 h3 h4 (by rw [F.h0]; exact hd a h1)) hl' (t.take ns' fun p hp => q a (by simp [tpAd]) p hp) ns' hi' e
end
def parA (is : List Nat) (g : Act (List ER)) : Act Flw := g.bnd fun rs ς => (deslL ς rs).bind fun p => (setRL p.2 is p.1).map fun ς' => .ok .nx ς'
section
variable {c : Ctx} {X : Cx} {a b e tg iter : Expr} {fa fb fc : Act ER} {pos : Pos} {es : List Expr} {f : Act ER} {st : Stmt} {rest body : List Stmt} {g : Act (List ER)}
theorem par_ok {is : List Nat} (hX : c.Ok X) {rs : List ER} {vs : List V} {w w1 : W} {H H1 : Hp} {σ : L2.St} {ς1 : St} {o : Out Flw} (F1 : Fr w H w1 H1) (R0 : ∀ a, H a = none → w.H0 a = none) (R1 : Rel c.toSta c.n ς1 σ H1 w1) (hl : σ.length = c.N.length) (ros : ResOks c.toSta w1 H H1 σ vs rs) (hi : ∀ i ∈ is, i < c.N.length ∧ c.ro i = false)
    (ho : ((deslL ς1 rs).bind fun p => (setRL p.2 is p.1).map fun ς' => Out.ok Flw.nx ς') = some o) : ∃ ς', o = .ok .nx ς' ∧ ∃ w', Fr w H w' H1 ∧ Rel c.toSta c.n ς' (setVs σ is vs) H1 w' := by
  cases e : deslL ς1 rs with
  | none => rw [e] at ho; cases ho
  | some p =>
    rw [e] at ho
    simp only [Option.bind_some] at ho
    cases e2 : setRL p.2 is p.1 with
    | none => rw [e2] at ho; cases ho
    | some ς' =>
      rw [e2] at ho
      cases ho
      obtain ⟨w2, F2, R2, ros2, ns, _, _⟩ := deslL_ok (ς' := p.2) (rs' := p.1) F1 R1 ros e
      obtain ⟨w3, F3, R3⟩ := setRL_ok R0 F2 R2 hl ros2 ns hi e2
      exact ⟨ς', rfl, w3, F3, R3⟩
theorem vs_par2 {i j : Nat} {x y : Str} {px py pt : Pos} {kt k2 pt2} (hi : c.N[i]? = some x) (hj : c.N[j]? = some y) (hij : i ≠ j) (hri : c.ro i = false) (hrj : c.ro j = false)
    (hx : c.sc.names.lookup x = some .local) (hy : c.sc.names.lookup y = some .local) (ha : VA c [a, b] g)
    (hw : ∀ env : Env, env.scope = c.sc → swappedStores [.Tuple [.Name x px, .Name y py] kt pt] (.Tuple [a, b] k2 pt2) env = pure (some [x, y]))
    (hs : ∀ env : Env, swapsWithSole [.Tuple [.Name x px, .Name y py] kt pt] (.Tuple [a, b] k2 pt2) pos.line env = pure false) :
    VS1 c (.Assign [.Tuple [.Name x px, .Name y py] kt pt] (.Tuple [a, b] k2 pt2) pos) (parA [i, j] g) := fun X hX pins s σ H w ς o ho I R T => by
  rw [exec_Assign_arm]
  refine wpAny_bind (wpAny_standAt ?_)
  rw [hs]
  refine wpAny_bind (wpAny_pure ?_)
  rw [if_neg (by decide)]
  refine wpAny_bind (Tuple_ (va_then ha hX I R T ho fun rs ς1 us s1 vs H1 w1 h1 I1 rvs F1 R1 T1 ros => ?_))
  have hN : X.N.Nodup := by rw [hX.N]; exact hX.nd
  have hiL : i < c.N.length := (List.getElem?_eq_some_iff.mp hi).1
  have hjL : j < c.N.length := (List.getElem?_eq_some_iff.mp hj).1
  obtain ⟨ς', rfl, w', F', R'⟩ := par_ok hX F1 R.dom R1 (by rw [I1.len, hX.N]) ros (is := [i, j]) (by simp [hiL, hjL, hri, hrj]) h1
  -- two values
  have hlen : rs.length = 2 := by
    cases e : deslL ς1 rs with
    | none => rw [e] at h1; cases h1
    | some p =>
      rw [e] at h1
      simp only [Option.bind_some] at h1
      obtain ⟨w2, F2, R2, ros2, ns, _, _⟩ := deslL_ok (ς' := p.2) (rs' := p.1) F1 R1 ros e
      have hl := ros.length
      have hl2 := ros2.length
      have : p.1.length = 2 := by
        cases e2 : setRL p.2 [i, j] p.1 with
        | none => rw [e2] at h1; cases h1
        | some z =>
          match p.1, e2 with
          | [], e2 => cases e2
          | [r], e2 =>
            unfold setRL at e2
            split at e2
            · cases e2
            · cases e2
          | [r, q], e2 => rfl
          | r :: q :: t :: u, e2 =>
            unfold setRL at e2
            split at e2
            · cases e2
            · unfold setRL at e2
              split at e2
              · cases e2
              · cases e2
      omega
  have hlv : vs.length = 2 := by rw [ros.length]; exact hlen
  obtain ⟨v1, v2, rfl⟩ : ∃ v1 v2, vs = [v1, v2] := by
    match vs, hlv with
    | [v1, v2], _ => exact ⟨v1, v2, rfl⟩
  obtain ⟨u1, u2, rfl, rv, rw'⟩ := vals2 rvs
  refine wpAny_newObj_type ?_ (by show 2 ≤ sizeLine; decide)
  have I2 : Inv X pins σ H1 { s1 with heap := s1.heap.push { cls := .type "tuple", data := .seq [u1, u2].toArray } } := I1.kept (t' := s1.toks) fun b o e => Heap.get?_push_of_some _ e
  rw [hw _ hX.sc]
  refine wpAny_bind (wpAny_pure ?_)
  show wpAny (model X.prog X.w) X.A (do rule "assign.swapped-stores"; let items ← unpackItems (.ref s1.heap.objs.size) 2 none; assignInOrder [fun v => bindName X.env y v, fun v => bindName X.env x v] items.reverse; pure Flow.next) _ _ _
  refine wpAny_bind (wpAny_rule (wpAny_bind (unpackItems_tuple (items := #[u1, u2]) (I.ok.hd hX.calm) (IsTup.new s1.heap _) fun h' hx' => ?_)))
  have I3 := I2.kept (h' := h') (t' := s1.toks) fun b o e => hx' b o (Nat.ne_of_lt (Heap.lt_size e)) e
  have hxe : X.env.scope.names.lookup x = some .local := by rw [hX.sc]; exact hx
  have hye : X.env.scope.names.lookup y = some .local := by rw [hX.sc]; exact hy
  show wpAny _ _ (assignInOrder [fun v => bindName X.env y v, fun v => bindName X.env x v] [u2, u1] >>= fun _ => pure Flow.next) _ _ _
  refine wpAny_bind (assignInOrder_cons (wpAny_bindName (store_ok I3 hN (by rw [hX.N]; exact hj) (.inl hye) rw' (fun s2 I4 => ?_) (.inr hye))))
  refine assignInOrder_cons (wpAny_bindName (store_ok I4 hN (by rw [hX.N]; exact hi) (.inl hxe) rv (fun s3 I5 => assignInOrder_nil (wpAny_pure ?_)) (.inr hxe)))
  rw [List.set_comm _ _ (Ne.symm hij)] at I5
  exact ⟨_, H1, w', I5, F', R'⟩

/-! ### methods of built-in types that change nothing -/
def tyD (T : String) : Dat → Bool
  | .str _ => decide (T = "str")
  | .lst _ => decide (T = "list")
  | _ => false
theorem View.tyD {S : Sta} {w : W} {H : Hp} {v : V} {d : Dat} {T : String} (sub : Ext w.Hf H) (h : View S w H v d) (e : VS.tyD T d = true) : tyV S.K T v H := by
  cases d with
  | str x => obtain rfl := h.str; exact (show T = "str" from of_decide_eq_true e)
  | lst ds =>
    obtain ⟨a, vs, rfl, h1, h2⟩ := h.lst sub
    exact .inl ⟨of_decide_eq_true e, vs, h1⟩
  | _ => cases e
/-- a condition -/
def grdA (p : St → Bool) : Act Unit := fun ς => if p ς = true then some (.ok () ς) else none
theorem grd_then {β : Type} {p : St → Bool} {k : Unit → Act β} {ς : St} {o : Out β} (h : (grdA p).bnd k ς = some o) : p ς = true ∧ k () ς = some o := by
  unfold Act.bnd grdA at h
  by_cases hp : p ς = true
  · rw [if_pos hp] at h; exact ⟨hp, h⟩
  · rw [if_neg hp] at h; cases h
def mthA (T : String) (g : List Dat → Option ER) (fo : Act ER) (fs : Act (List ER)) : Act ER := fo.bnd fun r => (grdA fun ς => ((cur ς r).map (tyD T)).getD false).bnd fun _ => fs.bnd fun rs ς => ((curL ς (r :: rs)).bind g).map fun q => .ok q ς
theorem ve_bm {o : Expr} {name : Str} {apos cpos : Pos} {T id : String} {h : List Dat → Option ER} {fo : Act ER} (pa : PlainAttrs T) (slot : PySem.Slot T name id) (hty : typeOf (.builtin id) = pure (.type "method_descriptor")) (hm : PN c (.builtin id) h) (ho : VE c o fo) (ha : VA c (e :: es) g)
    (hbase : ∀ env : Env, attributeBase o name env (eval o env) = eval o env)
    (hfew : ∀ env : Env, ((backTo cpos (starEach (e :: es) env)).all (fun x => !x.1) && (backToKw cpos (keywordEach [] env)).all (fun x => x.1.isSome)
      && decide ((e :: es).length + ([] : List Keyword).length + (if ([] : List Keyword).isEmpty then 0 else 1) < 30)) = true)
    (hline : (apos.endLine == cpos.line) = true) (hs : ∀ env : Env, starEach (e :: es) env = (false, eval e env) :: starEach es env) (hplain : ∀ env : Env, (backTo cpos (starEach es env)).any (·.1) = false) :
    VE c (.Call (.Attribute o name apos) (e :: es) [] cpos) (mthA T h fo g) := fun X hX pins s σ H w ς out hout I R TT => by
  refine wpAny_Call_method_late (hbase _) (hfew _) hline rfl (ve_then ho hX I R TT hout fun r ς1 u s1 v H1 w1 h1 I1 rv F1 R1 T1 ro => ?_)
  obtain ⟨hT, h1⟩ := grd_then h1
  cases e1 : cur ς1 r with
  | none => rw [e1] at hT; cases hT
  | some d =>
    rw [e1] at hT
    have hT : tyD T d = true := hT
    obtain ⟨t1, t2⟩ := tyV_is I1 rv (by rw [hX.K]; exact (R1.view ro e1).tyD R1.sub hT)
    refine ⟨T, id, pa, slot, hty, t1, t2, ?_⟩
    rw [hs]
    refine Calls.callWith_builtin (by show (false || (backTo cpos (starEach es X.env)).any (·.1)) = false; rw [hplain] <;> rfl) (Calls.evalArgs_plain ?_)
    show wpAny _ _ (spliced (backTo cpos ((false, eval e X.env) :: starEach es X.env))) _ _ _
    rw [← hs]
    refine va_then ha hX I1 R1 T1 h1 fun rs ς2 us s2 vs H2 w2 h2 I2 rvs F2 R2 T2 ros => ?_
    cases e3 : curL ς2 (r :: rs) with
    | none => rw [e3] at h2; cases h2
    | some ds =>
      rw [e3] at h2
      cases e4 : h ds with
      | none => simp only [Option.bind_some, e4] at h2; cases h2
      | some q =>
        simp only [Option.bind_some, e4] at h2
        cases h2
        have vw : Views c.toSta w2 H2 (v :: vs) ds := by
          unfold curL at e3
          split at e3
          · rename_i d1 ds1 q1 q2
            cases e3
            exact .cons (R2.view (ro.carry F2) q1) (R2.views ros q2)
          · cases e3
        exact wpAny_mono (hm X hX pins s2 σ H2 w2 ς2 (v :: vs) (u :: us) ds q I2 R2 (.cons rv rvs) vw e4) (fun u s' z => NE.from (F1.trans F2) z) fun _ _ z => z.elim
/-- x.index(y), y in x -/
def indexD : List Dat → Option ER
  | [.str x, .str y] => match Builtin.Str.occurrences x y 0 x.length 1 with
    | i :: _ => some (.fr (.int (i : Nat)))
    | [] => none
  | _ => none
theorem pn_index : PN c (.builtin "str.index") indexD := fun X hX pins s σ H w ς vs us ds r I R rvs va e => by
  unfold indexD at e
  split at e
  · rename_i x y
    split at e
    · rename_i i rest q
      cases e
      obtain ⟨v, u, rfl, hv, hu⟩ := va.two
      obtain rfl := hv.str
      obtain rfl := hu.str
      obtain ⟨u1, u2, rfl, ⟨t1, rfl⟩, ⟨t2, rfl⟩⟩ := vals2 rvs
      exact PySem.SC.index q (ne_fr (v := .int (i : Nat)) (I.tok _) ⟨_, rfl⟩ R (.int _))
    · cases e
  · cases e

/-! ### methods that change the container -/
def PMu (c : Ctx) (fv : Value) (g : Dat → List Dat → Option (Dat × Dat)) : Prop :=
  ∀ X, c.Ok X → ∀ (pins : List (Addr × Obj)) (s : Shared) (σ : L2.St) (H : Hp) (w : W) (ς : St) (a : Addr) (vs : List V) (us : List Value) (d x d' : Dat) (ds : List Dat),
    Inv X pins σ H s → Rel c.toSta c.n ς σ H w → Vals vs us → OwnC c.toSta w.Hf w.ads H a d → Reps c.toSta w.Hf w.ads vs ds → g d ds = some (x, d') →
    wpAny (model X.prog X.w) X.A (call fv (.ref a :: us)) (fun u s' => ∃ v o', Inv X pins σ (upd H a o') s' ∧ RelV v u ∧ Rep c.toSta w.Hf w.ads v x ∧ OwnC c.toSta w.Hf w.ads (upd H a o') a d') (fun _ _ => False) s
def tyM (T : String) : Dat → Bool
  | .lst _ => decide (T = "list")
  | .dic _ => decide (T = "dict")
  | _ => false
theorem OwnC.tyM {S : Sta} {Hf : Hp} {ads : Nat → Option Addr} {H : Hp} {a : Addr} {d : Dat} {T : String} (h : OwnC S Hf ads H a d) (e : VS.tyM T d = true) : tyV S.K T (.ref a) H := by
  cases h with
  | lst h r => exact .inl ⟨of_decide_eq_true e, _, .inl (.inl h)⟩
  | dicK h r => exact .inr (.inr (.inl ⟨of_decide_eq_true e, .inl ⟨_, h⟩⟩))
  | dicT h r => exact .inr (.inr (.inl ⟨of_decide_eq_true e, .inr ⟨_, h⟩⟩))
def ownT (T : String) (r : ER) (ς : St) : Bool := match r with
  | .sl j => match ς.sl[j]? with
    | some (some (.ow d)) => tyM T d
    | _ => false
  | _ => false
def muA (T : String) (g : Dat → List Dat → Option (Dat × Dat)) (fo : Act ER) (fs : Act (List ER)) : Act ER := fo.bnd fun r => (grdA (ownT T r)).bnd fun _ => fs.bnd fun rs ς => match settleL ς rs with
      | none => none
      | some (ds, ς1) => match r with
        | .sl j => match ς1.sl[j]? with
          | some (some (.ow d)) => (g d ds).map fun p => .ok (.fr p.1) (ς1.set j (some (.ow p.2)))
          | _ => none
        | _ => none
theorem ve_mu {o : Expr} {name : Str} {apos cpos : Pos} {T id : String} {h : Dat → List Dat → Option (Dat × Dat)} {fo : Act ER} (pa : PlainAttrs T) (slot : PySem.Slot T name id) (hty : typeOf (.builtin id) = pure (.type "method_descriptor")) (hm : PMu c (.builtin id) h) (ho : VE c o fo) (ha : VA c (e :: es) g)
    (hbase : ∀ env : Env, attributeBase o name env (eval o env) = eval o env)
    (hfew : ∀ env : Env, ((backTo cpos (starEach (e :: es) env)).all (fun x => !x.1) && (backToKw cpos (keywordEach [] env)).all (fun x => x.1.isSome)
      && decide ((e :: es).length + ([] : List Keyword).length + (if ([] : List Keyword).isEmpty then 0 else 1) < 30)) = true)
    (hline : (apos.endLine == cpos.line) = true) (hs : ∀ env : Env, starEach (e :: es) env = (false, eval e env) :: starEach es env) (hplain : ∀ env : Env, (backTo cpos (starEach es env)).any (·.1) = false) :
    VE c (.Call (.Attribute o name apos) (e :: es) [] cpos) (muA T h fo g) := fun X hX pins s σ H w ς out hout I R TT => by
  refine wpAny_Call_method_late (hbase _) (hfew _) hline rfl (ve_then ho hX I R TT hout fun r ς1 u s1 v H1 w1 h1 I1 rv F1 R1 T1 ro => ?_)
  obtain ⟨hT, h1⟩ := grd_then h1
  cases r with
  | fr d => cases hT
  | tp d => cases hT
  | sl j =>
    unfold ownT at hT
    simp only at hT
    split at hT
    · rename_i d hd
      have ro : σ[j]? = some (some v) := ro
      obtain ⟨v', ev, a, e1, _, _, hc, _⟩ := R1.slots _ _ hd
      rw [ro] at ev; cases ev
      subst e1
      obtain ⟨t1, t2⟩ := tyV_is I1 rv (by rw [hX.K]; exact hc.tyM hT)
      refine ⟨T, id, pa, slot, hty, t1, t2, ?_⟩
      rw [hs]
      refine Calls.callWith_builtin (by show (false || (backTo cpos (starEach es X.env)).any (·.1)) = false; rw [hplain] <;> rfl) (Calls.evalArgs_plain ?_)
      show wpAny _ _ (spliced (backTo cpos ((false, eval e X.env) :: starEach es X.env))) _ _ _
      rw [← hs]
      refine va_then ha hX I1 R1 T1 h1 fun rs ς2 us s2 vs H2 w2 h2 I2 rvs F2 R2 T2 ros => ?_
      split at h2
      · cases h2
      · rename_i ds ς3 e3
        simp only at h2
        split at h2
        · rename_i d2 hd2
          cases e4 : h d2 ds with
          | none => rw [e4] at h2; cases h2
          | some p =>
            rw [e4] at h2
            cases h2
            obtain ⟨w3, F3, R3, rps, _, _⟩ := settleL_ok F2 R2 ros e3
            obtain ⟨a2, hσ, hc2, put⟩ := R3.put (d' := p.2) hd2
            rw [ro] at hσ; cases hσ
            cases rv
            refine wpAny_mono (hm X hX pins s2 σ H2 w3 ς3 a vs us d2 p.1 p.2 ds I2 R3 rvs hc2 rps e4) (fun u s' ⟨v, o', I', rv', rp, hc'⟩ => ?_) fun _ _ z => z.elim
            obtain ⟨R5, F5⟩ := put o' hc'
            exact ⟨v, _, w3, I', rv', (F1.trans F3).trans F5, R5, rp⟩
        · cases h2
    · cases hT
def appendM : Dat → List Dat → Option (Dat × Dat)
  | .lst ds, [x] => if ds.length < sizeLine then some (.non, .lst (ds ++ [x])) else none
  | _, _ => none
theorem pmu_append : PMu c (.builtin "list.append") appendM := fun X hX pins s σ H w ς a vs us d x d' ds I R rvs hc rps e => by
  unfold appendM at e
  split at e
  · rename_i ds x
    split at e
    · rename_i hz
      cases e
      cases hc with
      | lst h rs =>
        rename_i ys
        cases rps with
        | cons rp rps =>
          cases rps
          rename_i v
          have hl := rs.length
          refine wpAny_mono (mt_append (X := X.nox) pins s σ H (.ref a) [v] _ us (fun v' H' => v' = .non ∧ H' = upd H a (.lst (ys ++ [v]))) (I.wish _) rfl rvs ⟨a, ys, v, rfl, rfl, h, by omega, rfl, rfl⟩) (fun u s' ⟨v', H', I', rv, e1, e2⟩ => ?_) fun _ _ z => z.elim
          subst e1; subst e2
          exact ⟨_, _, I'.unwish, rv, .non, .lst upd_same (rs.append (.cons rp .nil))⟩
    · cases e
  · cases e
end
end VS

namespace VS
open PySem L2 PyProof.Rows

/-! ### int(t, 36) of small letters and digits -/
namespace B36
open PySem.NumText PySem.Calls
def Ok (c : Nat) : Prop := (48 ≤ c ∧ c ≤ 57) ∨ (97 ≤ c ∧ c ≤ 122)
instance (c : Nat) : Decidable (Ok c) := by unfold Ok; infer_instance
/-- a sign's worth -/
def val (c : Nat) : Nat := if c ≤ 57 then c - 48 else c - 87
def num (l : List Nat) : Nat := l.foldl (fun a c => a * 36 + val c) 0
theorem rng {c : Nat} (h : Ok c) : 48 ≤ c ∧ c ≤ 122 ∧ c ≠ 95 := by unfold Ok at h; omega
theorem val_lt {c : Nat} (h : Ok c) : val c < 36 := by
  unfold Ok at h
  unfold val
  split <;> omega
theorem dig {c : Nat} (h : Ok c) : digit? c = some (val c) := by
  unfold Ok at h
  unfold digit? val
  rcases h with h | h
  · rw [if_pos (Hx.bb h.1 h.2), if_pos h.2]
  · rw [if_neg (Hx.bn (show ¬ (48 ≤ c ∧ c ≤ 57) by omega)), if_pos (Hx.bb h.1 h.2), if_neg (show ¬ c ≤ 57 by omega)]
theorem stp {ds : Array Nat} {b : Bool} {c : Nat} (h : Ok c) : PySem.NumText.step 36 (ds, b) c = some (ds.push (val c), true) := by
  unfold PySem.NumText.step
  rw [if_neg (by rw [beq_iff_eq]; exact (rng h).2.2), dig h]
  exact if_pos (val_lt h)
theorem run : ∀ (cs : List Nat) (ds : Array Nat), (∀ c ∈ cs, Ok c) → cs.foldlM (PySem.NumText.step 36) (ds, true) = some (cs.foldl (fun acc c => acc.push (val c)) ds, true)
  | [], _, _ => rfl
  | c :: cs, ds, h => by
    rw [List.foldlM_cons, stp (h c (List.mem_cons_self ..))]
    exact run cs (ds.push (val c)) fun d hd => h d (List.mem_cons_of_mem _ hd)
theorem digs {cs : List Nat} (h : ∀ c ∈ cs, Ok c) (hne : cs ≠ []) : digits? 36 cs = some (cs.foldl (fun acc c => acc.push (val c)) #[]) := by
  cases cs with
  | nil => exact absurd rfl hne
  | cons c cs =>
    unfold digits?
    rw [List.foldlM_cons, stp (h c (List.mem_cons_self ..))]
    show (cs.foldlM (PySem.NumText.step 36) ((#[] : Array Nat).push (val c), true)).bind _ = _
    rw [run cs _ fun d hd => h d (List.mem_cons_of_mem _ hd)]
    rfl
theorem psh : ∀ (cs : List Nat) (ds : Array Nat), (cs.foldl (fun acc c => acc.push (val c)) ds).foldl (fun acc d => acc * 36 + d) 0 = cs.foldl (fun a c => a * 36 + val c) (ds.foldl (fun acc d => acc * 36 + d) 0)
  | [], _ => rfl
  | c :: cs, ds => by
    rw [List.foldl_cons, psh cs (ds.push (val c)), List.foldl_cons]
    congr 1
    simp
theorem drp {cs : List Nat} (h : ∀ c ∈ cs, Ok c) : cs.dropWhile blank = cs := by
  cases cs with
  | nil => rfl
  | cons c cs => exact dropWhile_of (by have := rng (h c (List.mem_cons_self ..)); omega)
theorem sgn {cs : List Nat} (h : ∀ c ∈ cs, Ok c) : sign cs = (false, cs) := by
  cases cs with
  | nil => rfl
  | cons c cs =>
    have := rng (h c (List.mem_cons_self ..))
    exact sign_of (by omega) (by omega)
theorem bsd (cs : List Nat) : based 36 cs = (36, false, cs) := by
  match cs with
  | [] => rfl
  | 48 :: c :: r =>
    unfold based
    split
    · rename_i p hp
      have hp : (if (c == 120 || c == 88) = true then some 16 else if (c == 111 || c == 79) = true then some 8 else if (c == 98 || c == 66) = true then some 2 else none) = some p := hp
      have hp' : p ≠ 36 := by
        intro e
        subst e
        repeat' split at hp
        all_goals (revert hp; decide)
      have hne : ((36 : Nat) == 0 || (36 : Nat) == p) = false := Bool.or_eq_false_iff.mpr ⟨rfl, beq_eq_false_iff_ne.mpr fun z => hp' z.symm⟩
      rw [hne]
      rfl
    · rfl
  | [a] =>
    iterate 49 (obtain _ | a := a; · rfl)
    rfl
  | a :: c :: r =>
    iterate 48 (obtain _ | a := a; · rfl)
    obtain _ | a := a
    · unfold based
      split
      · rename_i p hp
        have hp : (if (c == 120 || c == 88) = true then some 16 else if (c == 111 || c == 79) = true then some 8 else if (c == 98 || c == 66) = true then some 2 else none) = some p := hp
        have hp' : p ≠ 36 := by
          intro e
          subst e
          repeat' split at hp
          all_goals (revert hp; decide)
        have hne : ((36 : Nat) == 0 || (36 : Nat) == p) = false := Bool.or_eq_false_iff.mpr ⟨rfl, beq_eq_false_iff_ne.mpr fun z => hp' z.symm⟩
        rw [hne]
        rfl
      · rfl
    · rfl
theorem read {cs : List Nat} (h : ∀ c ∈ cs, Ok c) (hne : cs ≠ []) : (int_private% "readNumeral") 0 36 cs = (int_private% "Numeral.value") ((num cs : Nat) : Int) := by
  have hr : ∀ c ∈ cs.reverse, Ok c := fun c hc => h c (List.mem_reverse.mp hc)
  refine (readNumeral_eq 0 36 cs).trans ?_
  rw [drp h, sgn h]
  show judge 0 false (based 36 cs).1 (based 36 cs).2.1 (digits? (based 36 cs).1 (((based 36 cs).2.2.reverse.dropWhile blank).reverse)) = _
  rw [bsd cs]
  show judge 0 false 36 false (digits? 36 ((cs.reverse.dropWhile blank).reverse)) = _
  rw [drp hr, List.reverse_reverse, digs h hne]
  show (int_private% "Numeral.value") (((cs.foldl (fun acc c => acc.push (val c)) (#[] : Array Nat)).foldl (fun acc d => acc * 36 + d) 0 : Nat) : Int) = _
  have z : (#[] : Array Nat).foldl (fun acc d => acc * 36 + d) 0 = 0 := by first | rfl | simp
  rw [psh, z] <;> rfl
theorem seen {x : PySem.Str} (h : ∀ c ∈ x.cps.toList, Ok c) : numTextOf x = x.cps.toList ∧ numSeenOf x = x.cps.toList := by
  have e1 : numTextOf x = x.cps.toList := by
    refine if_pos ?_
    rw [← Array.all_toList, List.all_eq_true]
    intro c hc
    have := rng (h c hc)
    exact decide_eq_true (by omega)
  refine ⟨e1, ?_⟩
  show (numTextOf x).takeWhile _ = _
  rw [e1]
  refine takeWhile_all fun c hc => ?_
  have := rng (h c hc)
  exact bne_iff_ne.mpr (by omega)
set_option maxHeartbeats 4000000 in
theorem gives {x : PySem.Str} {u t : Tok} (hl : x.length ≤ 640) (h : ∀ c ∈ x.cps.toList, Ok c) (hne : x.cps.toList ≠ []) :
    Gives (Builtin.«int.__new__» ⟨[.type "int", .str x u, .int 36 t], []⟩) (.int ((num x.cps.toList : Nat) : Int)) :=
  .of_wp fun M A E s Q hQ => by
    obtain ⟨hp, g, d, tk, os⟩ := s
    have f1 := F.conv_sub_int
    have f2 := F.madeHere_int
    have f6 : typeOf (.str x u) = pure (.type "str") := rfl
    obtain ⟨e1, e2⟩ := seen h
    have hs : (numSeenOf x).length ≤ 640 := by
      rw [e2, Array.length_toList]
      exact hl
    have hr : (int_private% "readNumeral") 0 36 (numSeenOf x) = (int_private% "Numeral.value") ((num x.cps.toList : Nat) : Int) := by
      rw [e2]
      exact read h hne
    have ha : ((numSeenOf x).length == (numTextOf x).length) = true := by
      rw [e1, e2]
      exact beq_self_eq_true _
    have hk := Hx.Hid.mk (And.intro hs (And.intro hr ha))
    clear hs hr ha e1 e2 hl hne h
    repeat (any_goals (first
      | assumption
      | ((with_reducible show wpAny _ _ ((int_private% "intFromText") _ _ _) _ _ _); refine Hx.wp_textB hk.out.1 hk.out.2.1 hk.out.2.2 ?_)
      | wp_step))
    all_goals first | exact ⟨_, rfl, hQ⟩ | skip
theorem call36 {prog : Program} {w : World} {A : Around} {E : Value → Shared → Prop} {s : Shared} {Q : Value → Shared → Prop} {x : PySem.Str} {u t : Tok} (hl : x.length ≤ 640) (h : ∀ c ∈ x.cps.toList, Ok c) (hne : x.cps.toList ≠ [])
    (hQ : Q (.int ((num x.cps.toList : Nat) : Int) s.toks) { s with toks := s.toks + 1 }) : wpAny (model prog w) A (call (.type "int") [.str x u, .int 36 t]) Q E s :=
  callType_new F.called_int F.newNe_int (Hx.typeCall_int_2 _ _) (Hx.newCall_int_2 _ _) (fun obj => F.initArgs_range_2 obj _ _) F.entry_int_new (gives hl h hne).meets (show (Made.int ((num x.cps.toList : Nat) : Int)).post _ s from ⟨rfl, hQ⟩)
end B36
def intD : List Dat → Option ER
  | [.str x, .int 36] => if x.length ≤ 640 ∧ (∀ c ∈ x.cps.toList, B36.Ok c) ∧ x.cps.toList ≠ [] then some (.fr (.int ((B36.num x.cps.toList : Nat) : Int))) else none
  | _ => none
theorem pn_int {c : Ctx} : PN c (.type "int") intD := fun X hX pins s σ H w ς vs us ds r I R rvs va e => by
  unfold intD at e
  split at e
  · rename_i x
    split at e
    · rename_i hc
      cases e
      obtain ⟨v, u, rfl, hv, hu⟩ := va.two
      obtain rfl := hv.str
      obtain rfl := hu.int
      obtain ⟨u1, u2, rfl, ⟨t1, rfl⟩, ⟨t2, rfl⟩⟩ := vals2 rvs
      exact B36.call36 hc.1 hc.2.1 hc.2.2 (ne_fr (v := .int ((B36.num x.cps.toList : Nat) : Int)) (I.tok _) ⟨_, rfl⟩ R (.int _))
    · cases e
  · cases e
end VS

namespace VS
open PySem L2 PyProof.Rows

/-! ### the operations by their signs -/
section
variable {c : Ctx}
def orE (g g' : Dat → Dat → Option ER) (a b : Dat) : Option ER := match g a b with | some r => some r | none => g' a b
theorem P2.or {f : Value → Value → Sem Value} {g g' : Dat → Dat → Option ER} (h : P2 c f g) (h' : P2 c f g') : P2 c f (orE g g') := P2.alt h h'
theorem PIx.or {g g' : Dat → Dat → Option ER} (h : PIx c g) (h' : PIx c g') : PIx c (orE g g') := PIx.alt h h'
def addG : Dat → Dat → Option ER := orE (intC (fun i j => .int (i + j)) yes2) (orE strCat lstCat)
theorem p2_add : P2 c (binaryOp .Add) addG := p2_add_int.or (p2_add_str.or p2_add_lst)
def subG : Dat → Dat → Option ER := intC (fun i j => .int (i - j)) yes2
def mulG : Dat → Dat → Option ER := intC (fun i j => .int (i * j)) mulC
def divG : Dat → Dat → Option ER := intC (fun i j => .int (i / j)) divC
def modG : Dat → Dat → Option ER := intC (fun i j => .int (i % j)) modC
def powG : Dat → Dat → Option ER := intC (fun i j => .int (i ^ j.toNat)) powC
def ltG : Dat → Dat → Option ER := intC (fun i j => .bl (decide (i < j))) yes2
def leG : Dat → Dat → Option ER := intC (fun i j => .bl (decide (i ≤ j))) yes2
def gtG : Dat → Dat → Option ER := intC (fun i j => .bl (decide (j < i))) yes2
def geG : Dat → Dat → Option ER := intC (fun i j => .bl (decide (j ≤ i))) yes2
theorem p2_sub : P2 c (binaryOp .Sub) subG := p2_sub_int
theorem p2_mul : P2 c (binaryOp .Mult) mulG := p2_mul_int
theorem p2_div : P2 c (binaryOp .FloorDiv) divG := p2_fdiv_int
theorem p2_mod : P2 c (binaryOp .Mod) modG := p2_mod_int
theorem p2_pow : P2 c (binaryOp .Pow) powG := p2_pow_int
theorem p2_lt : P2 c (compareOp .Lt) ltG := p2_lt_int
theorem p2_le : P2 c (compareOp .LtE) leG := p2_le_int
theorem p2_gt : P2 c (compareOp .Gt) gtG := p2_gt_int
theorem p2_ge : P2 c (compareOp .GtE) geG := p2_ge_int
def inG : Dat → Dat → Option ER := orE (inE false memD) (inE false memS)
def ninG : Dat → Dat → Option ER := orE (inE true memD) (inE true memS)
theorem p2_in : P2 c (compareOp .In) inG := (p2_memD false).or (p2_memS false)
theorem p2_nin : P2 c (compareOp .NotIn) ninG := (p2_memD true).or (p2_memS true)
def ixG : Dat → Dat → Option ER := orE ixL (orE ixT ixS)
theorem pix_G : PIx c ixG := pix_lst.or (pix_tup.or pix_str)
end
section
@[simp] theorem addG_int (i j : Int) : addG (.int i) (.int j) = some (.fr (.int (i + j))) := rfl
@[simp] theorem addG_str (x y : Str) : addG (.str x) (.str y) = strCat (.str x) (.str y) := by
  show (match strCat (.str x) (.str y) with | some r => some r | none => none) = _
  cases strCat (.str x) (.str y) <;> rfl
@[simp] theorem addG_lst (x y : List Dat) : addG (.lst x) (.lst y) = lstCat (.lst x) (.lst y) := rfl
@[simp] theorem subG_int (i j : Int) : subG (.int i) (.int j) = some (.fr (.int (i - j))) := rfl
theorem mulG_int (i j : Int) : mulG (.int i) (.int j) = if mulC i j = true then some (.fr (.int (i * j))) else none := rfl
theorem divG_int (i j : Int) : divG (.int i) (.int j) = if divC i j = true then some (.fr (.int (i / j))) else none := rfl
theorem modG_int (i j : Int) : modG (.int i) (.int j) = if modC i j = true then some (.fr (.int (i % j))) else none := rfl
theorem powG_int (i j : Int) : powG (.int i) (.int j) = if powC i j = true then some (.fr (.int (i ^ j.toNat))) else none := rfl
@[simp] theorem ltG_int (i j : Int) : ltG (.int i) (.int j) = some (.fr (.bl (decide (i < j)))) := rfl
@[simp] theorem leG_int (i j : Int) : leG (.int i) (.int j) = some (.fr (.bl (decide (i ≤ j)))) := rfl
@[simp] theorem gtG_int (i j : Int) : gtG (.int i) (.int j) = some (.fr (.bl (decide (j < i)))) := rfl
@[simp] theorem geG_int (i j : Int) : geG (.int i) (.int j) = some (.fr (.bl (decide (j ≤ i)))) := rfl
theorem orE_none (g : Option ER) : (match g with | some r => some r | none => (none : Option ER)) = g := by cases g <;> rfl
@[simp] theorem ixG_lst (ds : List Dat) (i : Int) : ixG (.lst ds) (.int i) = (L2.atI ds i).map .fr := by
  show (match (L2.atI ds i).map ER.fr with | some r => some r | none => none) = _
  rw [orE_none]
@[simp] theorem ixG_tup (ds : List Dat) (i : Int) : ixG (.tup ds) (.int i) = (L2.atI ds i).map .fr := by
  show (match (L2.atI ds i).map ER.fr with | some r => some r | none => none) = _
  rw [orE_none]
@[simp] theorem ixG_str (x : Str) (i : Int) : ixG (.str x) (.int i) = ixS (.str x) (.int i) := rfl
@[simp] theorem inG_str (x y : Str) : inG (.str x) (.str y) = inE false memS (.str x) (.str y) := rfl
end

/-! ### defs, the law -/
theorem fnok_imp {P : Program} {w : World} {K : PySem.W.Frag} {mg : Str → Option Value} {base : Heap} {CX : CXT} {k : Nat} {f : Addr} {fd : FuncData} {ps : List Str} {sp sp' : Sp} (h : FnOk P w K mg base CX k f fd ps sp) (hi : ∀ vs H Q E, sp' vs H Q E → sp vs H Q E) : FnOk P w K mg base CX k f fd ps sp' :=
  ⟨fun vs H Q E q => h.len vs H Q E (hi vs H Q E q), fun A outer s H args us vs Q E h1 h2 h3 h4 q => h.run A outer s H args us vs Q E h1 h2 h3 h4 (hi vs H Q E q)⟩
/-- the law's promise -/
def spLaw (K : PySem.W.Frag) : Sp := fun vs H Q _ => ∃ (a : Addr) (ns : List Int), vs = [.ref a] ∧ SqL K H a (ns.map V.int) ∧ ns.length ≤ 63 ∧ ∀ H', Q (.bl true) H'
def intsD (ns : List Int) : Dat := .lst (ns.map Dat.int)
theorem law_sp {S : Sta} {F : FD} (hF : ∀ ns : List Int, ns.length ≤ 63 → ∃ outs ob, F [.fr (intsD ns)] [] = some (.ok (.fr (.bl true)) outs ob)) : ∀ vs H Q E, spLaw S.K vs H Q E → spV S 1 F vs H Q E := by
  rintro vs H Q E ⟨a, ns, rfl, hS, hn, hq⟩
  obtain ⟨outs, ob, hr⟩ := hF ns hn
  have rps : ∀ Hf ads, Reps S Hf ads (ns.map V.int) (ns.map Dat.int) := fun Hf ads => by
    clear hS hr hn
    induction ns with
    | nil => exact .nil
    | cons n ns ih => exact .cons (.int n) ih
  let w : W := { Hf := fun b => if b = a then H b else none, own := fun _ => none, ads := fun _ => none, H0 := H, args := [.ref a] }
  have hSf : SqL S.K w.Hf a (ns.map V.int) := by
    have e : w.Hf a = H a := if_pos rfl
    rcases hS with h | h
    · left
      rcases h with h | ⟨o, h⟩
      · exact .inl (e.trans h)
      · exact .inr ⟨o, e.trans h⟩
    · exact .inr h
  refine ⟨w, [.fr (intsD ns)], [], _, rfl, ⟨fun b o h => ?_, fun _ _ _ => rfl, fun _ _ => rfl, rfl, rfl, rfl, fun i s h => ?_, fun k o h => ?_, fun k b h => ?_⟩, hr, fun v H' w' F' R' ro => ?_⟩
  · have h : (if b = a then H b else none) = some o := h
    split at h
    · exact h
    · cases h
  · cases i with
    | zero => cases h; exact ⟨_, rfl, .lst hSf (rps _ _)⟩
    | succ i => simp at h
  · simp at h
  · cases h
  · cases ro
    exact hq H'
theorem law_walk {l : PySem.W.OpenLaw} {k : Nat} {q : Program} {loose : List Str} {XP : (Str → Option Value) → Heap → Prop} {YP : World → Heap → Prop} {d : DefRec} {K : Params → PySem.W.Frag} (hn : l.most = some 63) (hdf : d.params.defaults = []) (hr : Room k callerA)
    (hY : ∀ (w : World) (h : Heap), YP w h → (K w.params).In h)
    (F : ∀ (w : World) (mg : Str → Option Value) (fa : Addr) (h : Heap), (K w.params).In h → h.Ns mainGlobals mg → mg d.name = some (.ref fa) →
      ∃ fd : FuncData, (∀ (s : Shared) (u : Value), BindsTo s fd ⟨[u], []⟩ [("script", u)]) ∧ ∀ base : Heap, (K w.params).In base → base.Ns mainGlobals mg → FnOk l.prog w (K w.params) mg base (CX l.prog w) k fa fd ["script"] (spLaw (K w.params))) :
    PySem.W.WalkO q loose XP YP l.row.toRowW d [] (fun f vs => PySem.call f vs) :=
  L2.walk_of (n := 63) (k := k) (x := "script") (CX := fun w => CX l.prog w) (sp := fun w => spLaw (K w.params)) hn (by decide) hdf hr hY F (fun _ _ a ns hl _ hS => ⟨a, ns, rfl, hS, hl, fun _ => rfl⟩) fun _ _ _ _ _ ⟨_, _, _, _, _, _, _, _, _, _, _, _, z⟩ => z
/-- no def, no class as a value -/
abbrev sta (P : Program) (w : World) (K : PySem.W.Frag) (mg : Str → Option Value) (base : Heap) : Sta := ⟨P, w, K, mg, base, fun _ => none, fun _ => none⟩
theorem fnAt_mk {S : Sta} {lvl k np : Nat} {x : Str} {F : FD} {f : Addr} {fd : FuncData} {ps : List Str} (hm : S.mg x = some (.ref f)) (hk : PySem.W.keepIn S.K (.ref f) = true) (h : FnOk S.P S.w S.K S.mg S.base (CX S.P S.w) k f fd ps (spV S np F)) (hl : k ≤ lvl) (hb : Binds S.K fd ps []) : FnAt S lvl x np F [] :=
  ⟨f, fd, k, ps, [], [], hm, hk, h, hl, hb, .nil, fun _ => .nil⟩
/-- a < b < c as a test -/
def chainT (g1 g2 : Dat → Dat → Option ER) (fa fb fc : Act ER) : Act Bool := fa.bnd fun r1 => fb.bnd fun r2 => (opD g1 r1 r2).bnd fun q => (truA q).bnd fun k => if k = true then fc.bnd fun r3 => (opD g2 r2 r3).bnd truA else Act.ret false
theorem vt_chainT {c : Ctx} {a b e3 : Expr} {fa fb fc : Act ER} {pos : Pos} {op op' : CmpOp} {g1 g2 : Dat → Dat → Option ER} (h1 : P2 c (compareOp op) g1) (h2 : P2 c (compareOp op') g2) (ha : VE c a fa) (hb : VE c b fb) (hc : VE c e3 fc) (hm : lastMarks [op, op'] [b, e3] = false) :
    VT c (.Compare a [op, op'] [b, e3] pos) (chainT g1 g2 fa fb fc) := vt_chain h1 h2 ha hb hc hm
end VS

/-! the denotations, computed -/
namespace VS
open PySem L2
section
variable {α β : Type} {ς : VS.St}
@[simp] theorem x_bnd (m : Act α) (f : α → Act β) : Act.bnd m f ς = (match m ς with | none => none | some (.ok a ς') => f a ς' | some (.ex x ς') => some (.ex x ς')) := rfl
@[simp] theorem x_ret (a : α) : Act.ret a ς = some (.ok a ς) := rfl
@[simp] theorem x_cst (d : Dat) : cst d ς = some (.ok (.fr d) ς) := rfl
@[simp] theorem x_var (i : Nat) : var i ς = (match ς.sl[i]? with | some (some (.fr d)) => some (.ok (.fr d) ς) | some (some (.ow d)) => some (.ok (.sl i) ς) | _ => none) := rfl
@[simp] theorem x_opD (g : Dat → Dat → Option ER) (r1 r2 : ER) : opD g r1 r2 ς = (match cur ς r1, cur ς r2 with | some a, some b => (g a b).map fun r => .ok r ς | _, _ => none) := rfl
@[simp] theorem x_op2 (g : Dat → Dat → Option ER) (fa fb : Act ER) : op2 g fa fb ς = Act.bnd fa (fun r1 => Act.bnd fb fun r2 => opD g r1 r2) ς := rfl
@[simp] theorem x_op1 (g : Dat → Option ER) (f : Act ER) : op1 g f ς = Act.bnd f (fun r ς => ((cur ς r).bind g).map fun q => .ok q ς) ς := rfl
@[simp] theorem x_cur_fr (d : Dat) : cur ς (.fr d) = some d := rfl
@[simp] theorem x_cur_tp (d : Dat) : cur ς (.tp d) = some d := rfl
@[simp] theorem x_cur_sl (i : Nat) : cur ς (.sl i) = (match ς.sl[i]? with | some (some (.fr d)) => some d | some (some (.ow d)) => some d | _ => none) := rfl
@[simp] theorem x_settle_fr (d : Dat) : VS.settle ς (.fr d) = some (d, ς) := rfl
@[simp] theorem x_settle_tp (d : Dat) : VS.settle ς (.tp d) = some (d, ς) := rfl
@[simp] theorem x_settle_sl (i : Nat) : VS.settle ς (.sl i) = (match ς.sl[i]? with | some (some (.fr d)) => some (d, ς) | some (some (.ow d)) => some (d, ς.set i (some (.fr d))) | _ => none) := rfl
@[simp] theorem x_settleL_nil : settleL ς [] = some ([], ς) := rfl
@[simp] theorem x_settleL_cons (r : ER) (rs : List ER) : settleL ς (r :: rs) = (match VS.settle ς r with | none => none | some (d, ς1) => match settleL ς1 rs with | none => none | some (ds, ς2) => some (d :: ds, ς2)) := rfl
@[simp] theorem x_curL_nil : curL ς [] = some [] := rfl
@[simp] theorem x_curL_cons (r : ER) (rs : List ER) : curL ς (r :: rs) = (match cur ς r, curL ς rs with | some d, some ds => some (d :: ds) | _, _ => none) := rfl
@[simp] theorem x_setS (sl : List (Option VS.Slot)) (ob : List OVal) (i : Nat) (s : Option VS.Slot) : St.set ⟨sl, ob⟩ i s = ⟨sl.set i s, ob⟩ := rfl
@[simp] theorem x_setR_fr (i : Nat) (d : Dat) : setR ς i (.fr d) = some (ς.set i (some (.fr d))) := rfl
@[simp] theorem x_setR_tp (i : Nat) (d : Dat) : setR ς i (.tp d) = some (ς.set i (some (.ow d))) := rfl
@[simp] theorem x_setR_sl (i j : Nat) : setR ς i (.sl j) = (VS.settle ς (.sl j)).map fun p => p.2.set i (some (.fr p.1)) := rfl
@[simp] theorem x_setA (i : Nat) (f : Act ER) : setA i f ς = Act.bnd f (fun r ς => (setR ς i r).map fun ς' => .ok .nx ς') ς := rfl
@[simp] theorem x_seqA (f g : Act Flw) : seqA f g ς = Act.bnd f (fun k => match k with | .nx => g | k => Act.ret k) ς := rfl
@[simp] theorem x_iteA (f : Act Bool) (g h : Act α) : iteA f g h ς = Act.bnd f (fun b => if b = true then g else h) ς := rfl
@[simp] theorem x_testA (f : Act ER) : testA f ς = Act.bnd f truA ς := rfl
@[simp] theorem x_truA (r : ER) : truA r ς = ((cur ς r).bind truD).map fun b => .ok b ς := rfl
@[simp] theorem x_tru_bl (b : Bool) : truD (.bl b) = some b := rfl
@[simp] theorem x_tru_non : truD .non = some false := rfl
@[simp] theorem x_tru_int (i : Int) : truD (.int i) = some (i != 0) := rfl
@[simp] theorem x_tru_lst (ds : List Dat) : truD (.lst ds) = some (!ds.isEmpty) := rfl
@[simp] theorem x_tru_tup (ds : List Dat) : truD (.tup ds) = some (!ds.isEmpty) := rfl
@[simp] theorem x_andA (f g : Act Bool) : andA f g ς = Act.bnd f (fun b => if b = true then g else Act.ret false) ς := rfl
@[simp] theorem x_orA (f g : Act Bool) : orA f g ς = Act.bnd f (fun b => if b = true then Act.ret true else g) ς := rfl
@[simp] theorem x_notA (f : Act Bool) : notA f ς = Act.bnd f (fun b => Act.ret (!b)) ς := rfl
@[simp] theorem x_andV (f g : Act ER) : andV f g ς = Act.bnd f (fun r => Act.bnd (truA r) fun b => if b = true then g else Act.ret r) ς := rfl
@[simp] theorem x_orV (f g : Act ER) : orV f g ς = Act.bnd f (fun r => Act.bnd (truA r) fun b => if b = true then Act.ret r else g) ς := rfl
@[simp] theorem x_notV (f : Act ER) : notV f ς = Act.bnd f (fun r => Act.bnd (truA r) fun b => Act.ret (.fr (.bl (!b)))) ς := rfl
@[simp] theorem x_chainT (g1 g2 : Dat → Dat → Option ER) (fa fb fc : Act ER) : chainT g1 g2 fa fb fc ς = Act.bnd fa (fun r1 => Act.bnd fb fun r2 => Act.bnd (opD g1 r1 r2) fun q => Act.bnd (truA q) fun k => if k = true then Act.bnd fc (fun r3 => Act.bnd (opD g2 r2 r3) truA) else Act.ret false) ς := rfl
@[simp] theorem x_chainA (g1 g2 : Dat → Dat → Option ER) (fa fb fc : Act ER) : chainA g1 g2 fa fb fc ς = Act.bnd fa (fun r1 => Act.bnd fb fun r2 => Act.bnd (opD g1 r1 r2) fun q => Act.bnd (truA q) fun k => if k = true then Act.bnd fc (fun r3 => opD g2 r2 r3) else Act.ret q) ς := rfl
@[simp] theorem x_retA (p : Nat → Bool) (f : Act ER) : retA p f ς = Act.bnd f (fun r ς => (outR p ς r).map fun p => .ok (.rt p.1) p.2) ς := rfl
@[simp] theorem x_outR_fr (p : Nat → Bool) (d : Dat) : outR p ς (.fr d) = some (.fr d, ς) := rfl
@[simp] theorem x_outR_tp (p : Nat → Bool) (d : Dat) : outR p ς (.tp d) = some (.tp d, ς) := rfl
@[simp] theorem x_outR_sl (p : Nat → Bool) (i : Nat) : outR p ς (.sl i) = (match ς.sl[i]? with | some (some (.fr d)) => some (.fr d, ς) | some (some (.ow d)) => if p i = true then some (.fr d, ς.set i (some (.fr d))) else some (.tp d, ς.set i none) | _ => none) := rfl
@[simp] theorem x_dropA (f : Act ER) : dropA f ς = Act.bnd f (fun _ => Act.ret .nx) ς := rfl
@[simp] theorem x_consA (f : Act ER) (g : Act (List ER)) : consA f g ς = Act.bnd f (fun r => Act.bnd g fun rs => Act.ret (r :: rs)) ς := rfl
@[simp] theorem x_callA (g : List Dat → Option ER) (fs : Act (List ER)) : callA g fs ς = Act.bnd fs (fun rs ς => ((curL ς rs).bind g).map fun r => .ok r ς) ς := rfl
@[simp] theorem x_lstA (g : Act (List ER)) : lstA g ς = Act.bnd g (fun rs ς => (settleL ς rs).bind fun p => if p.1.length ≤ sizeLine then some (.ok (.tp (.lst p.1)) p.2) else none) ς := rfl
@[simp] theorem x_tupA (g : Act (List ER)) : tupA g ς = Act.bnd g (fun rs ς => (settleL ς rs).bind fun p => if p.1.length ≤ sizeLine then some (.ok (.fr (.tup p.1)) p.2) else none) ς := rfl
@[simp] theorem x_rangeA (fs : Act (List ER)) : rangeA fs ς = Act.bnd fs (fun rs ς => ((curL ς rs).bind rangeF).map fun ds => .ok ds ς) ς := rfl
@[simp] theorem x_iterA (f : Act ER) : iterA f ς = Act.bnd f (fun r ς => (VS.settle ς r).bind fun p => (walkD p.1).map fun ds => .ok ds p.2) ς := rfl
@[simp] theorem x_walk_lst (ds : List Dat) : walkD (.lst ds) = some ds := rfl
@[simp] theorem x_walk_tup (ds : List Dat) : walkD (.tup ds) = some ds := rfl
@[simp] theorem x_walk_str (x : Str) : walkD (.str x) = some (signsD x) := rfl
@[simp] theorem x_stA (g : Dat → Dat → Dat → Option Dat) (f fo fi : Act ER) : stA g f fo fi ς = Act.bnd f (fun r => Act.bnd fo fun ro => Act.bnd fi fun ri => stIx g r ro ri) ς := rfl
@[simp] theorem x_stIx (g : Dat → Dat → Dat → Option Dat) (r ri : ER) (j : Nat) : stIx g r (.sl j) ri ς = (match settleL ς [r, ri] with | some ([x, k], ς') => (match ς'.sl[j]? with | some (some (.ow d)) => (g d k x).map fun d' => .ok .nx (ς'.set j (some (.ow d'))) | _ => none) | _ => none) := rfl
@[simp] theorem x_stL (ds : List Dat) (k : Int) (x : Dat) : stL (.lst ds) (.int k) x = (ixN ds.length k).map fun j => .lst (ds.set j x) := rfl
@[simp] theorem x_parA (is : List Nat) (g : Act (List ER)) : parA is g ς = Act.bnd g (fun rs ς => (deslL ς rs).bind fun p => (setRL p.2 is p.1).map fun ς' => .ok .nx ς') ς := rfl
@[simp] theorem x_desl_nil : deslL ς [] = some ([], ς) := rfl
@[simp] theorem x_desl_fr (d : Dat) (rs : List ER) : deslL ς (.fr d :: rs) = (deslL ς rs).map fun p => (.fr d :: p.1, p.2) := rfl
@[simp] theorem x_desl_tp (d : Dat) (rs : List ER) : deslL ς (.tp d :: rs) = (deslL ς rs).map fun p => (.tp d :: p.1, p.2) := rfl
@[simp] theorem x_desl_sl (i : Nat) (rs : List ER) : deslL ς (.sl i :: rs) = (match VS.settle ς (.sl i) with | none => none | some (d, ς1) => (deslL ς1 rs).map fun p => (.fr d :: p.1, p.2)) := rfl
@[simp] theorem x_setRL_nil : setRL ς [] [] = some ς := rfl
@[simp] theorem x_setRL_cons (i : Nat) (is : List Nat) (r : ER) (rs : List ER) : setRL ς (i :: is) (r :: rs) = (match setR ς i r with | none => none | some ς1 => setRL ς1 is rs) := rfl
@[simp] theorem x_tgName (i : Nat) (d : Dat) : tgName i d ς = some (ς.set i (some (.fr d))) := rfl
@[simp] theorem x_forA_nil (t : Dat → VS.St → Option VS.St) (g : Act Flw) : forA t g [] ς = some (.ok .nx ς) := rfl
theorem x_forA_cons (t : Dat → VS.St → Option VS.St) (g : Act Flw) (d : Dat) (ds : List Dat) : forA t g (d :: ds) ς = (match t d ς with | none => none | some ς' => Act.bnd g (fun k => match k with | .nx => forA t g ds | .ct => forA t g ds | .bk => Act.ret .nx | .rt r => Act.ret (.rt r)) ς') := rfl
theorem x_whileA (ft : Act Bool) (g : Act Flw) (n : Nat) : whileA ft g (n + 1) ς = Act.bnd ft (fun b => if b = true then Act.bnd g (fun k => match k with | .nx => whileA ft g n | .ct => whileA ft g n | .bk => Act.ret .nx | .rt r => Act.ret (.rt r)) else Act.ret .nx) ς := rfl
@[simp] theorem x_defA (np : Nat) (F : FD) (io : List Bool) (dd : List Dat) (g : Act (List ER)) : defA np F io dd g ς = Act.bnd g (fun rs ς => if rs.length + dd.length = np then passF F io (rs ++ dd.map .fr) ς else none) ς := rfl
@[simp] theorem x_passF (F : FD) (io : List Bool) (rs : List ER) : passF F io rs ς = (match settleIO ς io rs with
  | none => none
  | some (rs', ς1) => match argsO ς1 rs' with
    | none => none
    | some args => if (slots rs').Nodup then match F args ς1.ob with
        | none => none
        | some (.ok r outs ob) => if frOk args outs = true then some (.ok r (putBack { ς1 with ob := ob } rs' outs)) else none
        | some (.ex x outs ob) => if frOk args outs = true then some (.ex x (putBack { ς1 with ob := ob } rs' outs)) else none
      else none) := rfl
@[simp] theorem x_io_nil (io : List Bool) : settleIO ς io [] = some ([], ς) := by unfold settleIO; rfl
@[simp] theorem x_io_t (io : List Bool) (i : Nat) (rs : List ER) : settleIO ς (true :: io) (.sl i :: rs) = (settleIO ς io rs).map fun p => (.sl i :: p.1, p.2) := rfl
@[simp] theorem x_io_tf (io : List Bool) (d : Dat) (rs : List ER) : settleIO ς (true :: io) (.fr d :: rs) = (settleIO ς io rs).map fun p => (.fr d :: p.1, p.2) := rfl
@[simp] theorem x_io_tt (io : List Bool) (d : Dat) (rs : List ER) : settleIO ς (true :: io) (.tp d :: rs) = (settleIO ς io rs).map fun p => (.fr d :: p.1, p.2) := rfl
@[simp] theorem x_io_f (io : List Bool) (r : ER) (rs : List ER) : settleIO ς (false :: io) (r :: rs) = (match (VS.settle ς r).map (fun p => (ER.fr p.1, p.2)) with | none => none | some (r', ς1) => (settleIO ς1 io rs).map fun p => (r' :: p.1, p.2)) := rfl
@[simp] theorem x_args_nil : argsO ς [] = some [] := rfl
@[simp] theorem x_args_cons (r : ER) (rs : List ER) : argsO ς (r :: rs) = (match argO ς r, argsO ς rs with | some s, some ss => some (s :: ss) | _, _ => none) := rfl
@[simp] theorem x_arg_fr (d : Dat) : argO ς (.fr d) = some (.fr d) := rfl
@[simp] theorem x_arg_sl (j : Nat) : argO ς (.sl j) = (match ς.sl[j]? with | some (some s) => some s | _ => none) := rfl
@[simp] theorem x_slots_nil : slots [] = [] := rfl
@[simp] theorem x_slots_sl (j : Nat) (rs : List ER) : slots (.sl j :: rs) = j :: slots rs := rfl
@[simp] theorem x_slots_fr (d : Dat) (rs : List ER) : slots (.fr d :: rs) = slots rs := rfl
@[simp] theorem x_put_nil (ss : List VS.Slot) : putBack ς [] ss = ς := by unfold putBack; rfl
@[simp] theorem x_put_sl (j : Nat) (rs : List ER) (s : VS.Slot) (ss : List VS.Slot) : putBack ς (.sl j :: rs) (s :: ss) = putBack (ς.set j (some s)) rs ss := rfl
@[simp] theorem x_put_fr (d : Dat) (rs : List ER) (s : VS.Slot) (ss : List VS.Slot) : putBack ς (.fr d :: rs) (s :: ss) = putBack ς rs ss := rfl
@[simp] theorem x_frOk_nil : frOk [] [] = true := rfl
@[simp] theorem x_frOk_fr (d e : Dat) (as os : List VS.Slot) : frOk (.fr d :: as) (.fr e :: os) = frOk as os := rfl
@[simp] theorem x_frOk_ow (d : Dat) (s : VS.Slot) (as os : List VS.Slot) : frOk (.ow d :: as) (s :: os) = frOk as os := rfl
@[simp] theorem x_runB (n np : Nat) (ro : Nat → Bool) (g : Act Flw) (args : List VS.Slot) (ob : List OVal) : runB n np ro g args ob = (if args.length = np ∧ roOk ro args 0 = true then
    match g ⟨args.map some ++ List.replicate (n - args.length) none, ob⟩ with
    | some (.ok .nx ς) => (outsO ς args 0).map fun outs => .ok (.fr .non) outs ς.ob
    | some (.ok (.rt r) ς) => (outsO ς args 0).map fun outs => .ok r outs ς.ob
    | some (.ex x ς) => (outsO ς args 0).map fun outs => .ex x outs ς.ob
    | _ => none
  else none) := rfl
@[simp] theorem x_outs_nil (i : Nat) : outsO ς [] i = some [] := rfl
@[simp] theorem x_outs_fr (d : Dat) (r : List VS.Slot) (i : Nat) : outsO ς (.fr d :: r) i = (outsO ς r (i + 1)).map (VS.Slot.fr d :: ·) := rfl
@[simp] theorem x_outs_ow (d : Dat) (r : List VS.Slot) (i : Nat) : outsO ς (.ow d :: r) i = (match ς.sl[i]? with | some (some s) => (outsO ς r (i + 1)).map (s :: ·) | _ => none) := rfl
@[simp] theorem x_ro_nil (ro : Nat → Bool) (i : Nat) : roOk ro [] i = true := rfl
@[simp] theorem x_ro_fr (ro : Nat → Bool) (d : Dat) (r : List VS.Slot) (i : Nat) : roOk ro (.fr d :: r) i = roOk ro r (i + 1) := rfl
@[simp] theorem x_ro_ow (ro : Nat → Bool) (d : Dat) (r : List VS.Slot) (i : Nat) : roOk ro (.ow d :: r) i = (ro i && roOk ro r (i + 1)) := rfl
@[simp] theorem x_mthA (T : String) (g : List Dat → Option ER) (fo : Act ER) (fs : Act (List ER)) : mthA T g fo fs ς = Act.bnd fo (fun r => Act.bnd (grdA fun ς => ((cur ς r).map (tyD T)).getD false) fun _ => Act.bnd fs fun rs ς => ((curL ς (r :: rs)).bind g).map fun q => .ok q ς) ς := rfl
@[simp] theorem x_grdA (p : VS.St → Bool) : grdA p ς = if p ς = true then some (.ok () ς) else none := rfl
@[simp] theorem x_tyD_str (T : String) (x : Str) : tyD T (.str x) = decide (T = "str") := rfl
@[simp] theorem x_tyD_lst (T : String) (x : List Dat) : tyD T (.lst x) = decide (T = "list") := rfl
@[simp] theorem x_lcRun_nil (vs : List Nat) (t : Dat → VS.St → Option VS.St) (ft : Act Bool) (fe : Act ER) : lcRun vs t ft fe [] ς = some ([], ς) := rfl
theorem x_lcRun_cons (vs : List Nat) (t : Dat → VS.St → Option VS.St) (ft : Act Bool) (fe : Act ER) (d : Dat) (ds : List Dat) : lcRun vs t ft fe (d :: ds) ς = (match t d ς with
    | none => none
    | some ς1 => match ft ς1 with
      | some (.ok true ς2) => match fe ς2 with
        | some (.ok r ς3) => match VS.settle ς3 r with
          | some (x, ς4) => (lcRun vs t ft fe ds (wipeS vs ς4)).map fun p => (x :: p.1, p.2)
          | none => none
        | _ => none
      | some (.ok false ς2) => lcRun vs t ft fe ds (wipeS vs ς2)
      | _ => none) := rfl
@[simp] theorem x_lcA (vs : List Nat) (t : Dat → VS.St → Option VS.St) (ft : Act Bool) (fe : Act ER) (fi : Act (List Dat)) : lcA vs t ft fe fi ς = Act.bnd fi (fun ds ς => if noOwn ς vs = true then
    match lcRun vs t ft fe ds (wipeS vs ς) with
    | some (xs, ς') => if xs.length ≤ sizeLine then some (.ok (.tp (.lst xs)) (restore ς vs ς')) else none
    | none => none
  else none) ς := rfl
@[simp] theorem x_wipe_nil : wipeS [] ς = ς := rfl
@[simp] theorem x_wipe_cons (v : Nat) (vs : List Nat) : wipeS (v :: vs) ς = (wipeS vs ς).set v none := rfl
@[simp] theorem x_rest_nil (ς0 : VS.St) : restore ς0 [] ς = ς := rfl
@[simp] theorem x_rest_cons (ς0 : VS.St) (v : Nat) (vs : List Nat) : restore ς0 (v :: vs) ς = (restore ς0 vs ς).set v (ς0.sl[v]?.join) := rfl
@[simp] theorem x_noOwn_nil : noOwn ς [] = true := rfl
@[simp] theorem x_noOwn_cons (v : Nat) (vs : List Nat) : noOwn ς (v :: vs) = ((match ς.sl[v]? with | some (some (.ow _)) => false | _ => true) && noOwn ς vs) := rfl
end
@[simp] theorem x_atI0 (d : Dat) (ds : List Dat) : L2.atI (d :: ds) 0 = some d := by
  unfold L2.atI L2.ixN
  rw [if_pos (Int.le_refl 0), if_pos (by simp only [List.length_cons]; omega)]
  rfl
@[simp] theorem x_atI1 (c d : Dat) (ds : List Dat) : L2.atI (c :: d :: ds) 1 = some d := by
  unfold L2.atI L2.ixN
  rw [if_pos (by decide), if_pos (by simp only [List.length_cons]; omega)]
  rfl
@[simp] theorem x_ixN0 (n : Nat) : L2.ixN (n + 1) 0 = some 0 := by
  unfold L2.ixN
  rw [if_pos (Int.le_refl 0), if_pos (by omega)]
  rfl
@[simp] theorem x_ixN1 (n : Nat) : L2.ixN (n + 1 + 1) 1 = some 1 := by
  unfold L2.ixN
  rw [if_pos (by decide), if_pos (by omega)]
  rfl
theorem x_mul {i j : Int} (h : (-(2 ^ 64) < i ∧ i < 2 ^ 64) ∨ (-(2 ^ 64) < j ∧ j < 2 ^ 64)) : mulG (.int i) (.int j) = some (.fr (.int (i * j))) := by
  rw [mulG_int, if_pos]
  unfold mulC
  rw [Bool.or_eq_true]
  exact h.imp (fun h => decide_eq_true h) fun h => decide_eq_true h
theorem x_div {i j : Int} (h : 0 < j) (h2 : j < 2 ^ 256) : divG (.int i) (.int j) = some (.fr (.int (i / j))) := by
  rw [divG_int, if_pos]
  exact decide_eq_true ⟨h, h2⟩
theorem x_mod {i j : Int} (h : 0 < j) : modG (.int i) (.int j) = some (.fr (.int (i % j))) := by
  rw [modG_int, if_pos]
  exact decide_eq_true h
end VS

/-! the walk, printed by gen.py -/
namespace K70
open PySem L2 PyProof.Rows VS
def top (i : Nat) : Stmt := PySem.Challenge.pw_latehall_k70_numbers_of_names.main.body.getD i (.Pass ⟨0, 0, 0, 0⟩)
abbrev s_law_feed : Stmt := top 10
abbrev s_law_take : Stmt := top 11
abbrev s_law_pick : Stmt := top 12
abbrev s_name_number : Stmt := top 7
abbrev s_is_name : Stmt := top 3
abbrev s_name_of : Stmt := top 8
abbrev s_law_number : Stmt := top 14
abbrev s_law_whole : Stmt := top 13
abbrev s_law_name : Stmt := top 15
abbrev s_law : Stmt := top 16
structure Txt (S : Sta) : Prop where
  g_len : S.mg "len" = none
  g_abs : S.mg "abs" = none
  g_BASE : ∃ t, S.mg "BASE" = some (.int 36 t)
  g_int : S.mg "int" = none
  g_MOST_LETTERS : ∃ t, S.mg "MOST_LETTERS" = some (.int 8 t)
  g_str : S.mg "str" = none
  g_isinstance : S.mg "isinstance" = none
  g_LETTERS : ∃ t, S.mg "LETTERS" = some (.str "abcdefghijklmnopqrstuvwxyz" t)
  g_all : S.mg "all" = none
  g_DIGITS : ∃ t, S.mg "DIGITS" = some (.str "0123456789abcdefghijklmnopqrstuvwxyz" t)
  g_bool : S.mg "bool" = none
  g_range : S.mg "range" = none
  g_list : S.mg "list" = none
/-! _law_feed -/
def N_law_feed : List Str := ["script", "k", "seed", "digits"]
def g_law_feed : Act Flw := (seqA (setA 2 (op2 addG (op2 mulG (cst (.int 67)) (var 1)) (cst (.int 19))))
    (seqA (iteA (testA (op2 ltG (var 1) (callA lenD (consA (var 0) (Act.ret [])))))
    (setA 2 (op2 ixG (var 0) (var 1)))
    (Act.ret .nx))
    (seqA (setA 3 (cst (.int 0)))
    (seqA (iteA (testA (op2 geG (callA absD (consA (var 2) (Act.ret []))) (op2 powG (cst (.int 10)) (cst (.int 18)))))
    (setA 3 (op2 subG (callA absD (consA (var 2) (Act.ret []))) (op2 powG (cst (.int 10)) (cst (.int 18)))))
    (Act.ret .nx))
    (retA (fun i => decide (i < 2)) (lstA (consA (var 3) (consA (op2 modG (op2 addG (op2 addG (op2 mulG (var 2) (cst (.int 6364136223846793005))) (op2 mulG (cst (.int 7919)) (var 1))) (cst (.int 1442695040888963407))) (cst (.int 2305843009213693951))) (Act.ret [])))))))))
def F_law_feed : FD := runB 4 2 (fun i => decide (i ∈ ([0, 1] : List Nat))) g_law_feed
abbrev c_law_feed (S : Sta) : VS.Ctx := { toSta := S, N := N_law_feed, sc := defScope s_law_feed, lvl := 0, fnn := fun _ => true, ro := fun i => decide (i ∈ ([0, 1] : List Nat)), np := 2 }
theorem ok_law_feed {S : Sta} (T : Txt S)  : VSs (c_law_feed S) (defBody s_law_feed) g_law_feed :=
  (vss_cons (vs_set (i := 2) rfl (by first | exact .inl rfl | exact .inr rfl) rfl (ve_binop p2_add (ve_binop p2_mul ve_int (ve_var (i := 1) rfl (by first | exact .inl rfl | exact .inr (.inl rfl) | exact .inr (.inr rfl)) (by decide +kernel) (by decide +kernel))) ve_int) (.inl rfl) (fun _ => rfl))
    (vss_cons (vs_if (vt_cmp p2_lt (ve_var (i := 1) rfl (by first | exact .inl rfl | exact .inr (.inl rfl) | exact .inr (.inr rfl)) (by decide +kernel) (by decide +kernel)) (ve_callB pn_len rfl T.g_len (by kernel_rfl) (va_cons (ve_var (i := 0) rfl (by first | exact .inl rfl | exact .inr (.inl rfl) | exact .inr (.inr rfl)) (by decide +kernel) (by decide +kernel)) va_nil (fun _ => rfl)) (by decide +kernel) (by decide +kernel) (fun _ => rfl) (fun _ => rfl)) (by with_unfolding_all rfl))
    (vss_one (vs_set (i := 2) rfl (by first | exact .inl rfl | exact .inr rfl) rfl (ve_ix pix_G (ve_var (i := 0) rfl (by first | exact .inl rfl | exact .inr (.inl rfl) | exact .inr (.inr rfl)) (by decide +kernel) (by decide +kernel)) (ve_var (i := 1) rfl (by first | exact .inl rfl | exact .inr (.inl rfl) | exact .inr (.inr rfl)) (by decide +kernel) (by decide +kernel)) (fun _ _ => rfl)) (.inl rfl) (fun _ => rfl)))
    vss_nil)
    (vss_cons (vs_set (i := 3) rfl (by first | exact .inl rfl | exact .inr rfl) rfl ve_int (.inl rfl) (fun _ => rfl))
    (vss_cons (vs_if (vt_cmp p2_ge (ve_callB pn_abs rfl T.g_abs (by kernel_rfl) (va_cons (ve_var (i := 2) rfl (by first | exact .inl rfl | exact .inr (.inl rfl) | exact .inr (.inr rfl)) (by decide +kernel) (by decide +kernel)) va_nil (fun _ => rfl)) (by decide +kernel) (by decide +kernel) (fun _ => rfl) (fun _ => rfl)) (ve_binop p2_pow ve_int ve_int) (by with_unfolding_all rfl))
    (vss_one (vs_set (i := 3) rfl (by first | exact .inl rfl | exact .inr rfl) rfl (ve_binop p2_sub (ve_callB pn_abs rfl T.g_abs (by kernel_rfl) (va_cons (ve_var (i := 2) rfl (by first | exact .inl rfl | exact .inr (.inl rfl) | exact .inr (.inr rfl)) (by decide +kernel) (by decide +kernel)) va_nil (fun _ => rfl)) (by decide +kernel) (by decide +kernel) (fun _ => rfl) (fun _ => rfl)) (ve_binop p2_pow ve_int ve_int)) (.inl rfl) (fun _ => rfl)))
    vss_nil)
    (vss_one (vs_ret (ve_lst (va_cons (ve_var (i := 3) rfl (by first | exact .inl rfl | exact .inr (.inl rfl) | exact .inr (.inr rfl)) (by decide +kernel) (by decide +kernel)) (va_cons (ve_binop p2_mod (ve_binop p2_add (ve_binop p2_add (ve_binop p2_mul (ve_var (i := 2) rfl (by first | exact .inl rfl | exact .inr (.inl rfl) | exact .inr (.inr rfl)) (by decide +kernel) (by decide +kernel)) ve_int) (ve_binop p2_mul ve_int (ve_var (i := 1) rfl (by first | exact .inl rfl | exact .inr (.inl rfl) | exact .inr (.inr rfl)) (by decide +kernel) (by decide +kernel)))) ve_int) ve_int) va_nil (fun _ => rfl)) (fun _ => rfl)))))))))
theorem sc_law_feed : FnScope N_law_feed ["script", "k"] (defScope s_law_feed) := ⟨rfl, rfl, rfl, by decide +kernel, rfl, by decide +kernel, by decide +kernel⟩
/-! _law_take -/
def N_law_take : List Str := ["feed", "many", "found"]
def g_law_take : Act Flw := (seqA (iteA (testA (op2 gtG (op2 ixG (var 0) (cst (.int 0))) (cst (.int 0))))
    (seqA (setA 2 (op2 modG (op2 ixG (var 0) (cst (.int 0))) (var 1)))
    (seqA (stA stL (op2 divG (op2 ixG (var 0) (cst (.int 0))) (var 1)) (var 0) (cst (.int 0)))
    (retA (fun i => decide (i < 2)) (var 2))))
    (Act.ret .nx))
    (seqA (stA stL (op2 modG (op2 addG (op2 mulG (op2 ixG (var 0) (cst (.int 1))) (cst (.int 48271))) (cst (.int 12345))) (cst (.int 2305843009213693951))) (var 0) (cst (.int 1)))
    (retA (fun i => decide (i < 2)) (op2 modG (op2 divG (op2 ixG (var 0) (cst (.int 1))) (cst (.int 2097152))) (var 1)))))
def F_law_take : FD := runB 3 2 (fun i => decide (i ∈ ([0, 1] : List Nat))) g_law_take
abbrev c_law_take (S : Sta) : VS.Ctx := { toSta := S, N := N_law_take, sc := defScope s_law_take, lvl := 0, fnn := fun _ => true, ro := fun i => decide (i ∈ ([0, 1] : List Nat)), np := 2 }
theorem ok_law_take {S : Sta} (T : Txt S)  : VSs (c_law_take S) (defBody s_law_take) g_law_take :=
  (vss_cons (vs_if (vt_cmp p2_gt (ve_ix pix_G (ve_var (i := 0) rfl (by first | exact .inl rfl | exact .inr (.inl rfl) | exact .inr (.inr rfl)) (by decide +kernel) (by decide +kernel)) ve_int (fun _ _ => rfl)) ve_int (by with_unfolding_all rfl))
    (vss_cons (vs_set (i := 2) rfl (by first | exact .inl rfl | exact .inr rfl) rfl (ve_binop p2_mod (ve_ix pix_G (ve_var (i := 0) rfl (by first | exact .inl rfl | exact .inr (.inl rfl) | exact .inr (.inr rfl)) (by decide +kernel) (by decide +kernel)) ve_int (fun _ _ => rfl)) (ve_var (i := 1) rfl (by first | exact .inl rfl | exact .inr (.inl rfl) | exact .inr (.inr rfl)) (by decide +kernel) (by decide +kernel))) (.inl rfl) (fun _ => rfl))
    (vss_cons (vs_setIx pst_lst (ve_binop p2_div (ve_ix pix_G (ve_var (i := 0) rfl (by first | exact .inl rfl | exact .inr (.inl rfl) | exact .inr (.inr rfl)) (by decide +kernel) (by decide +kernel)) ve_int (fun _ _ => rfl)) (ve_var (i := 1) rfl (by first | exact .inl rfl | exact .inr (.inl rfl) | exact .inr (.inr rfl)) (by decide +kernel) (by decide +kernel))) (ve_var (i := 0) rfl (by first | exact .inl rfl | exact .inr (.inl rfl) | exact .inr (.inr rfl)) (by decide +kernel) (by decide +kernel)) ve_int (fun _ => rfl) (fun _ => rfl) (fun _ => rfl) (fun _ _ => rfl))
    (vss_one (vs_ret (ve_var (i := 2) rfl (by first | exact .inl rfl | exact .inr (.inl rfl) | exact .inr (.inr rfl)) (by decide +kernel) (by decide +kernel))))))
    vss_nil)
    (vss_cons (vs_setIx pst_lst (ve_binop p2_mod (ve_binop p2_add (ve_binop p2_mul (ve_ix pix_G (ve_var (i := 0) rfl (by first | exact .inl rfl | exact .inr (.inl rfl) | exact .inr (.inr rfl)) (by decide +kernel) (by decide +kernel)) ve_int (fun _ _ => rfl)) ve_int) ve_int) ve_int) (ve_var (i := 0) rfl (by first | exact .inl rfl | exact .inr (.inl rfl) | exact .inr (.inr rfl)) (by decide +kernel) (by decide +kernel)) ve_int (fun _ => rfl) (fun _ => rfl) (fun _ => rfl) (fun _ _ => rfl))
    (vss_one (vs_ret (ve_binop p2_mod (ve_binop p2_div (ve_ix pix_G (ve_var (i := 0) rfl (by first | exact .inl rfl | exact .inr (.inl rfl) | exact .inr (.inr rfl)) (by decide +kernel) (by decide +kernel)) ve_int (fun _ _ => rfl)) ve_int) (ve_var (i := 1) rfl (by first | exact .inl rfl | exact .inr (.inl rfl) | exact .inr (.inr rfl)) (by decide +kernel) (by decide +kernel)))))))
theorem sc_law_take : FnScope N_law_take ["feed", "many"] (defScope s_law_take) := ⟨rfl, rfl, rfl, by decide +kernel, rfl, by decide +kernel, by decide +kernel⟩
/-! _law_pick -/
def N_law_pick : List Str := ["feed", "some"]
def g_law_pick : Act Flw := (retA (fun i => decide (i < 2)) (op2 ixG (var 1) (defA 2 F_law_take [true, false] [] (consA (var 0) (consA (callA lenD (consA (var 1) (Act.ret []))) (Act.ret []))))))
def F_law_pick : FD := runB 2 2 (fun i => decide (i ∈ ([0, 1] : List Nat))) g_law_pick
abbrev c_law_pick (S : Sta) : VS.Ctx := { toSta := S, N := N_law_pick, sc := defScope s_law_pick, lvl := 1, fnn := fun _ => true, ro := fun i => decide (i ∈ ([0, 1] : List Nat)), np := 2 }
theorem ok_law_pick {S : Sta} (T : Txt S) (A_law_take : FnAt S 1 "_law_take" 2 F_law_take []) : VSs (c_law_pick S) (defBody s_law_pick) g_law_pick :=
  (vss_one (vs_ret (ve_ix pix_G (ve_var (i := 1) rfl (by first | exact .inl rfl | exact .inr (.inl rfl) | exact .inr (.inr rfl)) (by decide +kernel) (by decide +kernel)) (ve_call (io := [true, false]) A_law_take rfl (va_cons (ve_var (i := 0) rfl (by first | exact .inl rfl | exact .inr (.inl rfl) | exact .inr (.inr rfl)) (by decide +kernel) (by decide +kernel)) (va_cons (ve_callB pn_len rfl T.g_len (by kernel_rfl) (va_cons (ve_var (i := 1) rfl (by first | exact .inl rfl | exact .inr (.inl rfl) | exact .inr (.inr rfl)) (by decide +kernel) (by decide +kernel)) va_nil (fun _ => rfl)) (by decide +kernel) (by decide +kernel) (fun _ => rfl) (fun _ => rfl)) va_nil (fun _ => rfl)) (fun _ => rfl)) (by decide +kernel) (fun _ => rfl) (fun _ => rfl)) (fun _ _ => rfl))))
theorem sc_law_pick : FnScope N_law_pick ["feed", "some"] (defScope s_law_pick) := ⟨rfl, rfl, rfl, by decide +kernel, rfl, by decide +kernel, by decide +kernel⟩
/-! name_number -/
def N_name_number : List Str := ["name"]
def g_name_number : Act Flw := (retA (fun i => decide (i < 1)) (callA intD (consA (var 0) (consA (cst (.int 36)) (Act.ret [])))))
def F_name_number : FD := runB 1 1 (fun i => decide (i ∈ ([0] : List Nat))) g_name_number
abbrev c_name_number (S : Sta) : VS.Ctx := { toSta := S, N := N_name_number, sc := defScope s_name_number, lvl := 0, fnn := fun _ => true, ro := fun i => decide (i ∈ ([0] : List Nat)), np := 1 }
theorem ok_name_number {S : Sta} (T : Txt S)  : VSs (c_name_number S) (defBody s_name_number) g_name_number :=
  (vss_one (vs_ret (ve_callTy pn_int rfl T.g_int (by kernel_rfl) (va_cons (ve_var (i := 0) rfl (by first | exact .inl rfl | exact .inr (.inl rfl) | exact .inr (.inr rfl)) (by decide +kernel) (by decide +kernel)) (va_cons (ve_glob (v := .int 36) rfl T.g_BASE.choose_spec ⟨_, rfl⟩ (fun _ _ => .int _) (by decide +kernel)) va_nil (fun _ => rfl)) (fun _ => rfl)) (by decide +kernel) (by decide +kernel) (fun _ => rfl) (fun _ => rfl))))
theorem sc_name_number : FnScope N_name_number ["name"] (defScope s_name_number) := ⟨rfl, rfl, rfl, by decide +kernel, rfl, by decide +kernel, by decide +kernel⟩
/-! is_name -/
def N_is_name : List Str := ["thing", "letter"]
def g_is_name : Act Flw := (seqA (iteA (orA (notA (testA (callA isiD (consA (var 0) (consA (cst (.ty "str")) (Act.ret [])))))) (orA (notA (chainT leG leG (cst (.int 1)) (callA lenD (consA (var 0) (Act.ret []))) (cst (.int 8)))) (Act.ret false)))
    (retA (fun i => decide (i < 1)) (cst (.bl false)))
    (Act.ret .nx))
    (retA (fun i => decide (i < 1)) (callA allD (consA (lcA [1] (tgName 1) (Act.ret true) (op2 inG (var 1) (cst (.str "abcdefghijklmnopqrstuvwxyz"))) (iterA (var 0))) (Act.ret [])))))
def F_is_name : FD := runB 2 1 (fun i => decide (i ∈ ([0] : List Nat))) g_is_name
abbrev c_is_name (S : Sta) : VS.Ctx := { toSta := S, N := N_is_name, sc := defScope s_is_name, lvl := 0, fnn := fun _ => true, ro := fun i => decide (i ∈ ([0] : List Nat)), np := 1 }
theorem ok_is_name {S : Sta} (T : Txt S)  : VSs (c_is_name S) (defBody s_is_name) g_is_name :=
  (vss_cons (vs_if (vt_or (vt_not (vt_plain (ve_callB pn_isi rfl T.g_isinstance (by kernel_rfl) (va_cons (ve_var (i := 0) rfl (by first | exact .inl rfl | exact .inr (.inl rfl) | exact .inr (.inr rfl)) (by decide +kernel) (by decide +kernel)) (va_cons (ve_ty (Ty := "str") rfl T.g_str (by kernel_rfl) (by decide +kernel) (by decide +kernel)) va_nil (fun _ => rfl)) (fun _ => rfl)) (by decide +kernel) (by decide +kernel) (fun _ => rfl) (fun _ => rfl)) (fun _ _ _ h => nomatch h) (fun _ _ => rfl))) (vt_or (vt_not (vt_chainT p2_le p2_le ve_int (ve_callB pn_len rfl T.g_len (by kernel_rfl) (va_cons (ve_var (i := 0) rfl (by first | exact .inl rfl | exact .inr (.inl rfl) | exact .inr (.inr rfl)) (by decide +kernel) (by decide +kernel)) va_nil (fun _ => rfl)) (by decide +kernel) (by decide +kernel) (fun _ => rfl) (fun _ => rfl)) (ve_glob (v := .int 8) rfl T.g_MOST_LETTERS.choose_spec ⟨_, rfl⟩ (fun _ _ => .int _) (by decide +kernel)) (by with_unfolding_all rfl))) vt_or_nil))
    (vss_one (vs_ret ve_bl))
    vss_nil)
    (vss_one (vs_ret (ve_callB pn_all rfl T.g_all (by kernel_rfl) (va_cons (ve_lc (own := [("letter", 1)]) (vi_val (ve_var (i := 0) rfl (by first | exact .inl rfl | exact .inr (.inl rfl) | exact .inr (.inr rfl)) (by decide +kernel) (by decide +kernel))) (vg_name (i := 1) rfl (by first | exact .inl rfl | exact .inr rfl) rfl (.inr rfl)) vts_nil (ve_cmp p2_in (ve_var (i := 1) rfl (by first | exact .inl rfl | exact .inr (.inl rfl) | exact .inr (.inr rfl)) (by decide +kernel) (by decide +kernel)) (ve_glob (v := .str "abcdefghijklmnopqrstuvwxyz") rfl T.g_LETTERS.choose_spec ⟨_, rfl⟩ (fun _ _ => .str _) (by decide +kernel)) (by with_unfolding_all rfl)) ⟨rfl, by decide +kernel, by change ∀ p : Str × Nat, p ∈ _ → N_is_name[p.2]? = _; decide +kernel, by change ∀ y : Str × NameKind, y ∈ _ → _ → (List.lookup y.1 (defScope s_is_name).names = _ ∨ List.lookup y.1 (defScope s_is_name).names = _); decide +kernel, by change ∀ y : Str × NameKind, y ∈ _ → _ → (_ ∨ y.1 ∉ N_is_name); decide +kernel⟩ (by decide +kernel) (by change ∀ j : Nat, j ∈ _ → (fun i => decide (i ∈ ([0] : List Nat))) j = _; decide +kernel) (fun _ _ => rfl)) va_nil (fun _ => rfl)) (by decide +kernel) (by decide +kernel) (fun _ => rfl) (fun _ => rfl)))))
theorem sc_is_name : FnScope N_is_name ["thing"] (defScope s_is_name) := ⟨rfl, rfl, rfl, by decide +kernel, rfl, by decide +kernel, by decide +kernel⟩
/-! name_of -/
def N_name_of : List Str := ["number", "found", "digit"]
def g_name_of : Act Flw := (seqA (setA 1 (cst (.str "")))
    (seqA (whileA (testA (op2 gtG (var 0) (cst (.int 0))))
    (seqA (parA [0, 2] (consA (op2 divG (var 0) (cst (.int 36))) (consA (op2 modG (var 0) (cst (.int 36))) (Act.ret []))))
    (setA 1 (op2 addG (op2 ixG (cst (.str "0123456789abcdefghijklmnopqrstuvwxyz")) (var 2)) (var 1)))) 100)
    (retA (fun i => decide (i < 1)) (iteA (testA (defA 1 F_is_name [false] [] (consA (var 1) (Act.ret [])))) (var 1) (cst .non)))))
def F_name_of : FD := runB 3 1 (fun i => decide (i ∈ ([] : List Nat))) g_name_of
abbrev c_name_of (S : Sta) : VS.Ctx := { toSta := S, N := N_name_of, sc := defScope s_name_of, lvl := 1, fnn := fun _ => true, ro := fun i => decide (i ∈ ([] : List Nat)), np := 1 }
theorem ok_name_of {S : Sta} (T : Txt S) (A_is_name : FnAt S 1 "is_name" 1 F_is_name []) : VSs (c_name_of S) (defBody s_name_of) g_name_of :=
  (vss_cons (vs_set (i := 1) rfl (by first | exact .inl rfl | exact .inr rfl) rfl ve_str (.inl rfl) (fun _ => rfl))
    (vss_cons (vs_while 100 (vt_cmp p2_gt (ve_var (i := 0) rfl (by first | exact .inl rfl | exact .inr (.inl rfl) | exact .inr (.inr rfl)) (by decide +kernel) (by decide +kernel)) ve_int (by with_unfolding_all rfl))
    (vss_cons (vs_par2 (i := 0) (j := 2) rfl rfl (by decide) rfl rfl rfl rfl (va_cons (ve_binop p2_div (ve_var (i := 0) rfl (by first | exact .inl rfl | exact .inr (.inl rfl) | exact .inr (.inr rfl)) (by decide +kernel) (by decide +kernel)) (ve_glob (v := .int 36) rfl T.g_BASE.choose_spec ⟨_, rfl⟩ (fun _ _ => .int _) (by decide +kernel))) (va_cons (ve_binop p2_mod (ve_var (i := 0) rfl (by first | exact .inl rfl | exact .inr (.inl rfl) | exact .inr (.inr rfl)) (by decide +kernel) (by decide +kernel)) (ve_glob (v := .int 36) rfl T.g_BASE.choose_spec ⟨_, rfl⟩ (fun _ _ => .int _) (by decide +kernel))) va_nil (fun _ => rfl)) (fun _ => rfl)) (fun env h => by cases env; cases h; rfl) (fun _ => rfl))
    (vss_one (vs_set (i := 1) rfl (by first | exact .inl rfl | exact .inr rfl) rfl (ve_binop p2_add (ve_ix pix_G (ve_glob (v := .str "0123456789abcdefghijklmnopqrstuvwxyz") rfl T.g_DIGITS.choose_spec ⟨_, rfl⟩ (fun _ _ => .str _) (by decide +kernel)) (ve_var (i := 2) rfl (by first | exact .inl rfl | exact .inr (.inl rfl) | exact .inr (.inr rfl)) (by decide +kernel) (by decide +kernel)) (fun _ _ => rfl)) (ve_var (i := 1) rfl (by first | exact .inl rfl | exact .inr (.inl rfl) | exact .inr (.inr rfl)) (by decide +kernel) (by decide +kernel))) (.inl rfl) (fun _ => rfl)))))
    (vss_one (vs_ret (ve_ifExp (vt_plain (ve_call (io := [false]) A_is_name rfl (va_cons (ve_var (i := 1) rfl (by first | exact .inl rfl | exact .inr (.inl rfl) | exact .inr (.inr rfl)) (by decide +kernel) (by decide +kernel)) va_nil (fun _ => rfl)) (by decide +kernel) (fun _ => rfl) (fun _ => rfl)) (fun _ _ _ h => nomatch h) (fun _ _ => rfl)) (ve_var (i := 1) rfl (by first | exact .inl rfl | exact .inr (.inl rfl) | exact .inr (.inr rfl)) (by decide +kernel) (by decide +kernel)) ve_non)))))
theorem sc_name_of : FnScope N_name_of ["number"] (defScope s_name_of) := ⟨rfl, rfl, rfl, by decide +kernel, rfl, by decide +kernel, by decide +kernel⟩
/-! _law_number -/
def N_law_number : List Str := ["name", "found", "letter"]
def g_law_number : Act Flw := (seqA (setA 1 (cst (.int 0)))
    (seqA (Act.bnd (iterA (var 0)) (forA (tgName 2)
    (setA 1 (op2 addG (op2 addG (op2 mulG (var 1) (cst (.int 36))) (cst (.int 10))) (mthA "str" indexD (cst (.str "abcdefghijklmnopqrstuvwxyz")) (consA (var 2) (Act.ret [])))))))
    (retA (fun i => decide (i < 1)) (var 1))))
def F_law_number : FD := runB 3 1 (fun i => decide (i ∈ ([0] : List Nat))) g_law_number
abbrev c_law_number (S : Sta) : VS.Ctx := { toSta := S, N := N_law_number, sc := defScope s_law_number, lvl := 0, fnn := fun _ => true, ro := fun i => decide (i ∈ ([0] : List Nat)), np := 1 }
theorem ok_law_number {S : Sta} (T : Txt S)  : VSs (c_law_number S) (defBody s_law_number) g_law_number :=
  (vss_cons (vs_set (i := 1) rfl (by first | exact .inl rfl | exact .inr rfl) rfl ve_int (.inl rfl) (fun _ => rfl))
    (vss_cons (vs_for (vi_val (ve_var (i := 0) rfl (by first | exact .inl rfl | exact .inr (.inl rfl) | exact .inr (.inr rfl)) (by decide +kernel) (by decide +kernel))) (vg_name (i := 2) rfl (by first | exact .inl rfl | exact .inr rfl) rfl (.inl rfl))
    (vss_one (vs_set (i := 1) rfl (by first | exact .inl rfl | exact .inr rfl) rfl (ve_binop p2_add (ve_binop p2_add (ve_binop p2_mul (ve_var (i := 1) rfl (by first | exact .inl rfl | exact .inr (.inl rfl) | exact .inr (.inr rfl)) (by decide +kernel) (by decide +kernel)) ve_int) ve_int) (ve_bm PySem.F.plainAttrs_str PySem.F.slot_str_index PySem.F.type_str_index pn_index ve_str (va_cons (ve_var (i := 2) rfl (by first | exact .inl rfl | exact .inr (.inl rfl) | exact .inr (.inr rfl)) (by decide +kernel) (by decide +kernel)) va_nil (fun _ => rfl)) (fun _ => rfl) (fun _ => rfl) rfl (fun _ => rfl) (fun _ => rfl))) (.inl rfl) (fun _ => rfl))) (fun _ _ => rfl))
    (vss_one (vs_ret (ve_var (i := 1) rfl (by first | exact .inl rfl | exact .inr (.inl rfl) | exact .inr (.inr rfl)) (by decide +kernel) (by decide +kernel))))))
theorem sc_law_number : FnScope N_law_number ["name"] (defScope s_law_number) := ⟨rfl, rfl, rfl, by decide +kernel, rfl, by decide +kernel, by decide +kernel⟩
/-! _law_whole -/
def N_law_whole : List Str := ["found"]
def g_law_whole : Act Flw := (retA (fun i => decide (i < 1)) (andV (callA isiD (consA (var 0) (consA (cst (.ty "int")) (Act.ret [])))) (notV (callA isiD (consA (var 0) (consA (cst (.ty "bool")) (Act.ret [])))))))
def F_law_whole : FD := runB 1 1 (fun i => decide (i ∈ ([0] : List Nat))) g_law_whole
abbrev c_law_whole (S : Sta) : VS.Ctx := { toSta := S, N := N_law_whole, sc := defScope s_law_whole, lvl := 0, fnn := fun _ => true, ro := fun i => decide (i ∈ ([0] : List Nat)), np := 1 }
theorem ok_law_whole {S : Sta} (T : Txt S)  : VSs (c_law_whole S) (defBody s_law_whole) g_law_whole :=
  (vss_one (vs_ret (ve_and (ve_callB pn_isi rfl T.g_isinstance (by kernel_rfl) (va_cons (ve_var (i := 0) rfl (by first | exact .inl rfl | exact .inr (.inl rfl) | exact .inr (.inr rfl)) (by decide +kernel) (by decide +kernel)) (va_cons (ve_ty (Ty := "int") rfl T.g_int (by kernel_rfl) (by decide +kernel) (by decide +kernel)) va_nil (fun _ => rfl)) (fun _ => rfl)) (by decide +kernel) (by decide +kernel) (fun _ => rfl) (fun _ => rfl)) (ve_one (ve_not (ve_callB pn_isi rfl T.g_isinstance (by kernel_rfl) (va_cons (ve_var (i := 0) rfl (by first | exact .inl rfl | exact .inr (.inl rfl) | exact .inr (.inr rfl)) (by decide +kernel) (by decide +kernel)) (va_cons (ve_ty (Ty := "bool") rfl T.g_bool (by kernel_rfl) (by decide +kernel) (by decide +kernel)) va_nil (fun _ => rfl)) (fun _ => rfl)) (by decide +kernel) (by decide +kernel) (fun _ => rfl) (fun _ => rfl)))))))
theorem sc_law_whole : FnScope N_law_whole ["found"] (defScope s_law_whole) := ⟨rfl, rfl, rfl, by decide +kernel, rfl, by decide +kernel, by decide +kernel⟩
/-! _law_name -/
def N_law_name : List Str := ["number", "found", "left", "turn", "small", "sign"]
def g_law_name : Act Flw := (seqA (setA 1 (cst (.str "")))
    (seqA (setA 2 (var 0))
    (seqA (Act.bnd (rangeA (consA (cst (.int 9)) (Act.ret []))) (forA (tgName 3)
    (iteA (testA (op2 gtG (var 2) (cst (.int 0))))
    (seqA (setA 1 (op2 addG (op2 ixG (cst (.str "0123456789abcdefghijklmnopqrstuvwxyz")) (op2 modG (var 2) (cst (.int 36)))) (var 1)))
    (setA 2 (op2 divG (var 2) (cst (.int 36)))))
    (Act.ret .nx))))
    (seqA (setA 4 (op2 eqE (lcA [5] (tgName 5) (testA (op2 inG (var 5) (cst (.str "0123456789")))) (var 5) (iterA (var 1))) (lstA (Act.ret []))))
    (retA (fun i => decide (i < 1)) (iteA (andA (testA (op2 eqE (var 2) (cst (.int 0)))) (andA (testA (var 4)) (andA (chainT leG leG (cst (.int 1)) (callA lenD (consA (var 1) (Act.ret []))) (cst (.int 8))) (Act.ret true)))) (var 1) (cst .non)))))))
def F_law_name : FD := runB 6 1 (fun i => decide (i ∈ ([0] : List Nat))) g_law_name
abbrev c_law_name (S : Sta) : VS.Ctx := { toSta := S, N := N_law_name, sc := defScope s_law_name, lvl := 0, fnn := fun _ => true, ro := fun i => decide (i ∈ ([0] : List Nat)), np := 1 }
theorem ok_law_name {S : Sta} (T : Txt S)  : VSs (c_law_name S) (defBody s_law_name) g_law_name :=
  (vss_cons (vs_set (i := 1) rfl (by first | exact .inl rfl | exact .inr rfl) rfl ve_str (.inl rfl) (fun _ => rfl))
    (vss_cons (vs_set (i := 2) rfl (by first | exact .inl rfl | exact .inr rfl) rfl (ve_var (i := 0) rfl (by first | exact .inl rfl | exact .inr (.inl rfl) | exact .inr (.inr rfl)) (by decide +kernel) (by decide +kernel)) (.inl rfl) (fun _ => rfl))
    (vss_cons (vs_for (vi_range (va_cons ve_int va_nil (fun _ => rfl)) rfl T.g_range (fun _ => rfl) (fun _ => rfl)) (vg_name (i := 3) rfl (by first | exact .inl rfl | exact .inr rfl) rfl (.inl rfl))
    (vss_one (vs_if (vt_cmp p2_gt (ve_var (i := 2) rfl (by first | exact .inl rfl | exact .inr (.inl rfl) | exact .inr (.inr rfl)) (by decide +kernel) (by decide +kernel)) ve_int (by with_unfolding_all rfl))
    (vss_cons (vs_set (i := 1) rfl (by first | exact .inl rfl | exact .inr rfl) rfl (ve_binop p2_add (ve_ix pix_G ve_str (ve_binop p2_mod (ve_var (i := 2) rfl (by first | exact .inl rfl | exact .inr (.inl rfl) | exact .inr (.inr rfl)) (by decide +kernel) (by decide +kernel)) ve_int) (fun _ _ => rfl)) (ve_var (i := 1) rfl (by first | exact .inl rfl | exact .inr (.inl rfl) | exact .inr (.inr rfl)) (by decide +kernel) (by decide +kernel))) (.inl rfl) (fun _ => rfl))
    (vss_one (vs_set (i := 2) rfl (by first | exact .inl rfl | exact .inr rfl) rfl (ve_binop p2_div (ve_var (i := 2) rfl (by first | exact .inl rfl | exact .inr (.inl rfl) | exact .inr (.inr rfl)) (by decide +kernel) (by decide +kernel)) ve_int) (.inl rfl) (fun _ => rfl))))
    vss_nil)) (fun _ _ => rfl))
    (vss_cons (vs_set (i := 4) rfl (by first | exact .inl rfl | exact .inr rfl) rfl (ve_cmp p2_eq (ve_lc (own := [("sign", 5)]) (vi_val (ve_var (i := 1) rfl (by first | exact .inl rfl | exact .inr (.inl rfl) | exact .inr (.inr rfl)) (by decide +kernel) (by decide +kernel))) (vg_name (i := 5) rfl (by first | exact .inl rfl | exact .inr rfl) rfl (.inr rfl)) (vts_one (vt_cmp p2_in (ve_var (i := 5) rfl (by first | exact .inl rfl | exact .inr (.inl rfl) | exact .inr (.inr rfl)) (by decide +kernel) (by decide +kernel)) ve_str (by with_unfolding_all rfl))) (ve_var (i := 5) rfl (by first | exact .inl rfl | exact .inr (.inl rfl) | exact .inr (.inr rfl)) (by decide +kernel) (by decide +kernel)) ⟨rfl, by decide +kernel, by change ∀ p : Str × Nat, p ∈ _ → N_law_name[p.2]? = _; decide +kernel, by change ∀ y : Str × NameKind, y ∈ _ → _ → (List.lookup y.1 (defScope s_law_name).names = _ ∨ List.lookup y.1 (defScope s_law_name).names = _); decide +kernel, by change ∀ y : Str × NameKind, y ∈ _ → _ → (_ ∨ y.1 ∉ N_law_name); decide +kernel⟩ (by decide +kernel) (by change ∀ j : Nat, j ∈ _ → (fun i => decide (i ∈ ([0] : List Nat))) j = _; decide +kernel) (fun _ _ => rfl)) (ve_lst va_nil) (by with_unfolding_all rfl)) (.inl rfl) (fun _ => rfl))
    (vss_one (vs_ret (ve_ifExp (vt_and (vt_cmp p2_eq (ve_var (i := 2) rfl (by first | exact .inl rfl | exact .inr (.inl rfl) | exact .inr (.inr rfl)) (by decide +kernel) (by decide +kernel)) ve_int (by with_unfolding_all rfl)) (vt_and (vt_plain (ve_var (i := 4) rfl (by first | exact .inl rfl | exact .inr (.inl rfl) | exact .inr (.inr rfl)) (by decide +kernel) (by decide +kernel)) (fun _ _ _ h => nomatch h) (fun _ _ => rfl)) (vt_and (vt_chainT p2_le p2_le ve_int (ve_callB pn_len rfl T.g_len (by kernel_rfl) (va_cons (ve_var (i := 1) rfl (by first | exact .inl rfl | exact .inr (.inl rfl) | exact .inr (.inr rfl)) (by decide +kernel) (by decide +kernel)) va_nil (fun _ => rfl)) (by decide +kernel) (by decide +kernel) (fun _ => rfl) (fun _ => rfl)) ve_int (by with_unfolding_all rfl)) vt_and_nil))) (ve_var (i := 1) rfl (by first | exact .inl rfl | exact .inr (.inl rfl) | exact .inr (.inr rfl)) (by decide +kernel) (by decide +kernel)) ve_non)))))))
theorem sc_law_name : FnScope N_law_name ["number"] (defScope s_law_name) := ⟨rfl, rfl, rfl, by decide +kernel, rfl, by decide +kernel, by decide +kernel⟩
/-! law -/
def N_law : List Str := ["script", "feed", "turn", "name", "k", "number", "far", "some", "other"]
def g_law : Act Flw := (seqA (setA 1 (defA 2 F_law_feed [false, false] [] (consA (var 0) (consA (cst (.int 0)) (Act.ret [])))))
    (seqA (Act.bnd (rangeA (consA (cst (.int 12)) (Act.ret []))) (forA (tgName 2)
    (seqA (setA 3 (cst (.str "")))
    (seqA (Act.bnd (rangeA (consA (op2 addG (cst (.int 1)) (defA 2 F_law_take [true, false] [] (consA (var 1) (consA (cst (.int 8)) (Act.ret []))))) (Act.ret []))) (forA (tgName 4)
    (setA 3 (op2 addG (var 3) (defA 2 F_law_pick [true, false] [] (consA (var 1) (consA (callA listD (consA (cst (.str "abcdefghijklmnopqrstuvwxyz")) (Act.ret []))) (Act.ret []))))))))
    (seqA (setA 5 (defA 1 F_name_number [false] [] (consA (var 3) (Act.ret []))))
    (seqA (iteA (orA (notA (testA (defA 1 F_law_whole [false] [] (consA (var 5) (Act.ret []))))) (orA (testA (op2 neE (var 5) (defA 1 F_law_number [false] [] (consA (var 3) (Act.ret []))))) (orA (testA (op2 neE (defA 1 F_name_of [false] [] (consA (var 5) (Act.ret []))) (var 3))) (Act.ret false))))
    (retA (fun i => decide (i < 1)) (cst (.bl false)))
    (Act.ret .nx))
    (seqA (setA 6 (defA 2 F_law_take [true, false] [] (consA (var 1) (consA (op2 powG (cst (.int 10)) (cst (.int 30))) (Act.ret [])))))
    (seqA (setA 7 (lstA (consA (op2 addG (var 5) (cst (.int 1))) (consA (op2 subG (var 5) (defA 2 F_law_take [true, false] [] (consA (var 1) (consA (cst (.int 40)) (Act.ret []))))) (consA (op2 mulG (var 5) (cst (.int 36))) (Act.ret []))))))
    (Act.bnd (iterA (op2 addG (var 7) (lstA (consA (op2 subG (cst (.int 0)) (var 5)) (consA (var 6) (consA (op2 divG (var 5) (cst (.int 36))) (Act.ret []))))))) (forA (tgName 8)
    (iteA (testA (op2 neE (defA 1 F_name_of [false] [] (consA (var 8) (Act.ret []))) (defA 1 F_law_name [false] [] (consA (var 8) (Act.ret [])))))
    (retA (fun i => decide (i < 1)) (cst (.bl false)))
    (Act.ret .nx))))))))))))
    (retA (fun i => decide (i < 1)) (andV (op2 isE (defA 1 F_name_of [false] [] (consA (cst (.int 0)) (Act.ret []))) (cst .non)) (andV (op2 isE (defA 1 F_name_of [false] [] (consA (cst (.int 9)) (Act.ret []))) (cst .non)) (op2 eqE (defA 1 F_name_of [false] [] (consA (cst (.int 10)) (Act.ret []))) (cst (.str "a"))))))))
def F_law : FD := runB 9 1 (fun i => decide (i ∈ ([0] : List Nat))) g_law
abbrev c_law (S : Sta) : VS.Ctx := { toSta := S, N := N_law, sc := defScope s_law, lvl := 2, fnn := fun _ => true, ro := fun i => decide (i ∈ ([0] : List Nat)), np := 1 }
theorem ok_law {S : Sta} (T : Txt S) (A_law_feed : FnAt S 2 "_law_feed" 2 F_law_feed []) (A_law_take : FnAt S 2 "_law_take" 2 F_law_take []) (A_law_pick : FnAt S 2 "_law_pick" 2 F_law_pick []) (A_name_number : FnAt S 2 "name_number" 1 F_name_number []) (A_name_of : FnAt S 2 "name_of" 1 F_name_of []) (A_law_number : FnAt S 2 "_law_number" 1 F_law_number []) (A_law_whole : FnAt S 2 "_law_whole" 1 F_law_whole []) (A_law_name : FnAt S 2 "_law_name" 1 F_law_name []) : VSs (c_law S) (defBody s_law) g_law :=
  (vss_cons (vs_set (i := 1) rfl (by first | exact .inl rfl | exact .inr rfl) rfl (ve_call (io := [false, false]) A_law_feed rfl (va_cons (ve_var (i := 0) rfl (by first | exact .inl rfl | exact .inr (.inl rfl) | exact .inr (.inr rfl)) (by decide +kernel) (by decide +kernel)) (va_cons ve_int va_nil (fun _ => rfl)) (fun _ => rfl)) (by decide +kernel) (fun _ => rfl) (fun _ => rfl)) (.inl rfl) (fun _ => rfl))
    (vss_cons (vs_for (vi_range (va_cons ve_int va_nil (fun _ => rfl)) rfl T.g_range (fun _ => rfl) (fun _ => rfl)) (vg_name (i := 2) rfl (by first | exact .inl rfl | exact .inr rfl) rfl (.inl rfl))
    (vss_cons (vs_set (i := 3) rfl (by first | exact .inl rfl | exact .inr rfl) rfl ve_str (.inl rfl) (fun _ => rfl))
    (vss_cons (vs_for (vi_range (va_cons (ve_binop p2_add ve_int (ve_call (io := [true, false]) A_law_take rfl (va_cons (ve_var (i := 1) rfl (by first | exact .inl rfl | exact .inr (.inl rfl) | exact .inr (.inr rfl)) (by decide +kernel) (by decide +kernel)) (va_cons ve_int va_nil (fun _ => rfl)) (fun _ => rfl)) (by decide +kernel) (fun _ => rfl) (fun _ => rfl))) va_nil (fun _ => rfl)) rfl T.g_range (fun _ => rfl) (fun _ => rfl)) (vg_name (i := 4) rfl (by first | exact .inl rfl | exact .inr rfl) rfl (.inl rfl))
    (vss_one (vs_set (i := 3) rfl (by first | exact .inl rfl | exact .inr rfl) rfl (ve_binop p2_add (ve_var (i := 3) rfl (by first | exact .inl rfl | exact .inr (.inl rfl) | exact .inr (.inr rfl)) (by decide +kernel) (by decide +kernel)) (ve_call (io := [true, false]) A_law_pick rfl (va_cons (ve_var (i := 1) rfl (by first | exact .inl rfl | exact .inr (.inl rfl) | exact .inr (.inr rfl)) (by decide +kernel) (by decide +kernel)) (va_cons (ve_callTy pn_list rfl T.g_list (by kernel_rfl) (va_cons ve_str va_nil (fun _ => rfl)) (by decide +kernel) (by decide +kernel) (fun _ => rfl) (fun _ => rfl)) va_nil (fun _ => rfl)) (fun _ => rfl)) (by decide +kernel) (fun _ => rfl) (fun _ => rfl))) (.inl rfl) (fun _ => rfl))) (fun _ _ => rfl))
    (vss_cons (vs_set (i := 5) rfl (by first | exact .inl rfl | exact .inr rfl) rfl (ve_call (io := [false]) A_name_number rfl (va_cons (ve_var (i := 3) rfl (by first | exact .inl rfl | exact .inr (.inl rfl) | exact .inr (.inr rfl)) (by decide +kernel) (by decide +kernel)) va_nil (fun _ => rfl)) (by decide +kernel) (fun _ => rfl) (fun _ => rfl)) (.inl rfl) (fun _ => rfl))
    (vss_cons (vs_if (vt_or (vt_not (vt_plain (ve_call (io := [false]) A_law_whole rfl (va_cons (ve_var (i := 5) rfl (by first | exact .inl rfl | exact .inr (.inl rfl) | exact .inr (.inr rfl)) (by decide +kernel) (by decide +kernel)) va_nil (fun _ => rfl)) (by decide +kernel) (fun _ => rfl) (fun _ => rfl)) (fun _ _ _ h => nomatch h) (fun _ _ => rfl))) (vt_or (vt_cmp p2_ne (ve_var (i := 5) rfl (by first | exact .inl rfl | exact .inr (.inl rfl) | exact .inr (.inr rfl)) (by decide +kernel) (by decide +kernel)) (ve_call (io := [false]) A_law_number rfl (va_cons (ve_var (i := 3) rfl (by first | exact .inl rfl | exact .inr (.inl rfl) | exact .inr (.inr rfl)) (by decide +kernel) (by decide +kernel)) va_nil (fun _ => rfl)) (by decide +kernel) (fun _ => rfl) (fun _ => rfl)) (by with_unfolding_all rfl)) (vt_or (vt_cmp p2_ne (ve_call (io := [false]) A_name_of rfl (va_cons (ve_var (i := 5) rfl (by first | exact .inl rfl | exact .inr (.inl rfl) | exact .inr (.inr rfl)) (by decide +kernel) (by decide +kernel)) va_nil (fun _ => rfl)) (by decide +kernel) (fun _ => rfl) (fun _ => rfl)) (ve_var (i := 3) rfl (by first | exact .inl rfl | exact .inr (.inl rfl) | exact .inr (.inr rfl)) (by decide +kernel) (by decide +kernel)) (by with_unfolding_all rfl)) vt_or_nil)))
    (vss_one (vs_ret ve_bl))
    vss_nil)
    (vss_cons (vs_set (i := 6) rfl (by first | exact .inl rfl | exact .inr rfl) rfl (ve_call (io := [true, false]) A_law_take rfl (va_cons (ve_var (i := 1) rfl (by first | exact .inl rfl | exact .inr (.inl rfl) | exact .inr (.inr rfl)) (by decide +kernel) (by decide +kernel)) (va_cons (ve_binop p2_pow ve_int ve_int) va_nil (fun _ => rfl)) (fun _ => rfl)) (by decide +kernel) (fun _ => rfl) (fun _ => rfl)) (.inl rfl) (fun _ => rfl))
    (vss_cons (vs_set (i := 7) rfl (by first | exact .inl rfl | exact .inr rfl) rfl (ve_lst (va_cons (ve_binop p2_add (ve_var (i := 5) rfl (by first | exact .inl rfl | exact .inr (.inl rfl) | exact .inr (.inr rfl)) (by decide +kernel) (by decide +kernel)) ve_int) (va_cons (ve_binop p2_sub (ve_var (i := 5) rfl (by first | exact .inl rfl | exact .inr (.inl rfl) | exact .inr (.inr rfl)) (by decide +kernel) (by decide +kernel)) (ve_call (io := [true, false]) A_law_take rfl (va_cons (ve_var (i := 1) rfl (by first | exact .inl rfl | exact .inr (.inl rfl) | exact .inr (.inr rfl)) (by decide +kernel) (by decide +kernel)) (va_cons ve_int va_nil (fun _ => rfl)) (fun _ => rfl)) (by decide +kernel) (fun _ => rfl) (fun _ => rfl))) (va_cons (ve_binop p2_mul (ve_var (i := 5) rfl (by first | exact .inl rfl | exact .inr (.inl rfl) | exact .inr (.inr rfl)) (by decide +kernel) (by decide +kernel)) ve_int) va_nil (fun _ => rfl)) (fun _ => rfl)) (fun _ => rfl))) (.inl rfl) (fun _ => rfl))
    (vss_one (vs_for (vi_val (ve_binop p2_add (ve_var (i := 7) rfl (by first | exact .inl rfl | exact .inr (.inl rfl) | exact .inr (.inr rfl)) (by decide +kernel) (by decide +kernel)) (ve_lst (va_cons (ve_binop p2_sub ve_int (ve_var (i := 5) rfl (by first | exact .inl rfl | exact .inr (.inl rfl) | exact .inr (.inr rfl)) (by decide +kernel) (by decide +kernel))) (va_cons (ve_var (i := 6) rfl (by first | exact .inl rfl | exact .inr (.inl rfl) | exact .inr (.inr rfl)) (by decide +kernel) (by decide +kernel)) (va_cons (ve_binop p2_div (ve_var (i := 5) rfl (by first | exact .inl rfl | exact .inr (.inl rfl) | exact .inr (.inr rfl)) (by decide +kernel) (by decide +kernel)) ve_int) va_nil (fun _ => rfl)) (fun _ => rfl)) (fun _ => rfl))))) (vg_name (i := 8) rfl (by first | exact .inl rfl | exact .inr rfl) rfl (.inl rfl))
    (vss_one (vs_if (vt_cmp p2_ne (ve_call (io := [false]) A_name_of rfl (va_cons (ve_var (i := 8) rfl (by first | exact .inl rfl | exact .inr (.inl rfl) | exact .inr (.inr rfl)) (by decide +kernel) (by decide +kernel)) va_nil (fun _ => rfl)) (by decide +kernel) (fun _ => rfl) (fun _ => rfl)) (ve_call (io := [false]) A_law_name rfl (va_cons (ve_var (i := 8) rfl (by first | exact .inl rfl | exact .inr (.inl rfl) | exact .inr (.inr rfl)) (by decide +kernel) (by decide +kernel)) va_nil (fun _ => rfl)) (by decide +kernel) (fun _ => rfl) (fun _ => rfl)) (by with_unfolding_all rfl))
    (vss_one (vs_ret ve_bl))
    vss_nil)) (fun _ _ => rfl))))))))) (fun _ _ => rfl))
    (vss_one (vs_ret (ve_and (ve_cmp p2_is (ve_call (io := [false]) A_name_of rfl (va_cons ve_int va_nil (fun _ => rfl)) (by decide +kernel) (fun _ => rfl) (fun _ => rfl)) ve_non (by with_unfolding_all rfl)) (ve_and (ve_cmp p2_is (ve_call (io := [false]) A_name_of rfl (va_cons ve_int va_nil (fun _ => rfl)) (by decide +kernel) (fun _ => rfl) (fun _ => rfl)) ve_non (by with_unfolding_all rfl)) (ve_one (ve_cmp p2_eq (ve_call (io := [false]) A_name_of rfl (va_cons ve_int va_nil (fun _ => rfl)) (by decide +kernel) (fun _ => rfl) (fun _ => rfl)) ve_str (by with_unfolding_all rfl)))))))))
theorem sc_law : FnScope N_law ["script"] (defScope s_law) := ⟨rfl, rfl, rfl, by decide +kernel, rfl, by decide +kernel, by decide +kernel⟩
theorem all_mk (hF : ∀ ns : List Int, ns.length ≤ 63 → ∃ outs ob, F_law [.fr (intsD ns)] [] = some (.ok (.fr (.bl true)) outs ob))
    {P : Program} {w : World} {K : PySem.W.Frag} {h : Heap} {mg : Str → Option Value} {fa f_law_feed f_law_take f_law_pick f_name_number f_is_name f_name_of f_law_number f_law_whole f_law_name f_law : Addr} (X : K.In h) (G : h.Ns mainGlobals mg) (hfa : mg "law" = some (.ref fa))
    {od_law_feed an_law_feed od_law_take an_law_take od_law_pick an_law_pick od_name_number an_name_number od_is_name an_is_name od_name_of an_name_of od_law_number an_law_number od_law_whole an_law_whole od_law_name an_law_name od_law an_law : Option Addr} {sl_law_feed sl_law_take sl_law_pick sl_name_number sl_is_name sl_name_of sl_law_number sl_law_whole sl_law_name sl_law : Array (Option Value)} {oc_law_feed kV_law_feed dc_law_feed pm_law_feed cd_law_feed ct_law_feed oc_law_take kV_law_take dc_law_take pm_law_take cd_law_take ct_law_take oc_law_pick kV_law_pick dc_law_pick pm_law_pick cd_law_pick ct_law_pick oc_name_number kV_name_number dc_name_number pm_name_number cd_name_number ct_name_number oc_is_name kV_is_name dc_is_name pm_is_name cd_is_name ct_is_name oc_name_of kV_name_of dc_name_of pm_name_of cd_name_of ct_name_of oc_law_number kV_law_number dc_law_number pm_law_number cd_law_number ct_law_number oc_law_whole kV_law_whole dc_law_whole pm_law_whole cd_law_whole ct_law_whole oc_law_name kV_law_name dc_law_name pm_law_name cd_law_name ct_law_name oc_law kV_law dc_law pm_law cd_law ct_law : Value} {t_BASE t_MOST_LETTERS t_LETTERS t_DIGITS : Tok}
    (a_law_feed : PySem.W.nsIn K mainGlobals "_law_feed" = some (some (.ref f_law_feed))) (l_law_feed : K.lookup f_law_feed = some ⟨oc_law_feed, od_law_feed, .func (PySem.W.fnOf "_law_feed" "_law_feed" (defArgs s_law_feed) (defBody s_law_feed) (defScope s_law_feed) .none kV_law_feed dc_law_feed pm_law_feed an_law_feed cd_law_feed ct_law_feed), sl_law_feed⟩) (d_law_feed : PySem.W.codeIn K cd_law_feed "_law_feed" = true) (k_law_feed : PySem.W.keepIn K (.ref f_law_feed) = true)
    (a_law_take : PySem.W.nsIn K mainGlobals "_law_take" = some (some (.ref f_law_take))) (l_law_take : K.lookup f_law_take = some ⟨oc_law_take, od_law_take, .func (PySem.W.fnOf "_law_take" "_law_take" (defArgs s_law_take) (defBody s_law_take) (defScope s_law_take) .none kV_law_take dc_law_take pm_law_take an_law_take cd_law_take ct_law_take), sl_law_take⟩) (d_law_take : PySem.W.codeIn K cd_law_take "_law_take" = true) (k_law_take : PySem.W.keepIn K (.ref f_law_take) = true)
    (a_law_pick : PySem.W.nsIn K mainGlobals "_law_pick" = some (some (.ref f_law_pick))) (l_law_pick : K.lookup f_law_pick = some ⟨oc_law_pick, od_law_pick, .func (PySem.W.fnOf "_law_pick" "_law_pick" (defArgs s_law_pick) (defBody s_law_pick) (defScope s_law_pick) .none kV_law_pick dc_law_pick pm_law_pick an_law_pick cd_law_pick ct_law_pick), sl_law_pick⟩) (d_law_pick : PySem.W.codeIn K cd_law_pick "_law_pick" = true) (k_law_pick : PySem.W.keepIn K (.ref f_law_pick) = true)
    (a_name_number : PySem.W.nsIn K mainGlobals "name_number" = some (some (.ref f_name_number))) (l_name_number : K.lookup f_name_number = some ⟨oc_name_number, od_name_number, .func (PySem.W.fnOf "name_number" "name_number" (defArgs s_name_number) (defBody s_name_number) (defScope s_name_number) .none kV_name_number dc_name_number pm_name_number an_name_number cd_name_number ct_name_number), sl_name_number⟩) (d_name_number : PySem.W.codeIn K cd_name_number "name_number" = true) (k_name_number : PySem.W.keepIn K (.ref f_name_number) = true)
    (a_is_name : PySem.W.nsIn K mainGlobals "is_name" = some (some (.ref f_is_name))) (l_is_name : K.lookup f_is_name = some ⟨oc_is_name, od_is_name, .func (PySem.W.fnOf "is_name" "is_name" (defArgs s_is_name) (defBody s_is_name) (defScope s_is_name) .none kV_is_name dc_is_name pm_is_name an_is_name cd_is_name ct_is_name), sl_is_name⟩) (d_is_name : PySem.W.codeIn K cd_is_name "is_name" = true) (k_is_name : PySem.W.keepIn K (.ref f_is_name) = true)
    (a_name_of : PySem.W.nsIn K mainGlobals "name_of" = some (some (.ref f_name_of))) (l_name_of : K.lookup f_name_of = some ⟨oc_name_of, od_name_of, .func (PySem.W.fnOf "name_of" "name_of" (defArgs s_name_of) (defBody s_name_of) (defScope s_name_of) .none kV_name_of dc_name_of pm_name_of an_name_of cd_name_of ct_name_of), sl_name_of⟩) (d_name_of : PySem.W.codeIn K cd_name_of "name_of" = true) (k_name_of : PySem.W.keepIn K (.ref f_name_of) = true)
    (a_law_number : PySem.W.nsIn K mainGlobals "_law_number" = some (some (.ref f_law_number))) (l_law_number : K.lookup f_law_number = some ⟨oc_law_number, od_law_number, .func (PySem.W.fnOf "_law_number" "_law_number" (defArgs s_law_number) (defBody s_law_number) (defScope s_law_number) .none kV_law_number dc_law_number pm_law_number an_law_number cd_law_number ct_law_number), sl_law_number⟩) (d_law_number : PySem.W.codeIn K cd_law_number "_law_number" = true) (k_law_number : PySem.W.keepIn K (.ref f_law_number) = true)
    (a_law_whole : PySem.W.nsIn K mainGlobals "_law_whole" = some (some (.ref f_law_whole))) (l_law_whole : K.lookup f_law_whole = some ⟨oc_law_whole, od_law_whole, .func (PySem.W.fnOf "_law_whole" "_law_whole" (defArgs s_law_whole) (defBody s_law_whole) (defScope s_law_whole) .none kV_law_whole dc_law_whole pm_law_whole an_law_whole cd_law_whole ct_law_whole), sl_law_whole⟩) (d_law_whole : PySem.W.codeIn K cd_law_whole "_law_whole" = true) (k_law_whole : PySem.W.keepIn K (.ref f_law_whole) = true)
    (a_law_name : PySem.W.nsIn K mainGlobals "_law_name" = some (some (.ref f_law_name))) (l_law_name : K.lookup f_law_name = some ⟨oc_law_name, od_law_name, .func (PySem.W.fnOf "_law_name" "_law_name" (defArgs s_law_name) (defBody s_law_name) (defScope s_law_name) .none kV_law_name dc_law_name pm_law_name an_law_name cd_law_name ct_law_name), sl_law_name⟩) (d_law_name : PySem.W.codeIn K cd_law_name "_law_name" = true) (k_law_name : PySem.W.keepIn K (.ref f_law_name) = true)
    (a_law : PySem.W.nsIn K mainGlobals "law" = some (some (.ref f_law))) (l_law : K.lookup f_law = some ⟨oc_law, od_law, .func (PySem.W.fnOf "law" "law" (defArgs s_law) (defBody s_law) (defScope s_law) .none kV_law dc_law pm_law an_law cd_law ct_law), sl_law⟩) (d_law : PySem.W.codeIn K cd_law "law" = true) (k_law : PySem.W.keepIn K (.ref f_law) = true)
    (z_len : PySem.W.nsIn K mainGlobals "len" = some none)
    (z_abs : PySem.W.nsIn K mainGlobals "abs" = some none)
    (z_BASE : PySem.W.nsIn K mainGlobals "BASE" = some (some (.int 36 t_BASE)))
    (z_int : PySem.W.nsIn K mainGlobals "int" = some none)
    (z_MOST_LETTERS : PySem.W.nsIn K mainGlobals "MOST_LETTERS" = some (some (.int 8 t_MOST_LETTERS)))
    (z_str : PySem.W.nsIn K mainGlobals "str" = some none)
    (z_isinstance : PySem.W.nsIn K mainGlobals "isinstance" = some none)
    (z_LETTERS : PySem.W.nsIn K mainGlobals "LETTERS" = some (some (.str "abcdefghijklmnopqrstuvwxyz" t_LETTERS)))
    (z_all : PySem.W.nsIn K mainGlobals "all" = some none)
    (z_DIGITS : PySem.W.nsIn K mainGlobals "DIGITS" = some (some (.str "0123456789abcdefghijklmnopqrstuvwxyz" t_DIGITS)))
    (z_bool : PySem.W.nsIn K mainGlobals "bool" = some none)
    (z_range : PySem.W.nsIn K mainGlobals "range" = some none)
    (z_list : PySem.W.nsIn K mainGlobals "list" = some none)
    : ∃ fd : FuncData, (∀ (s : Shared) (v : Value), BindsTo s fd ⟨[v], []⟩ [("script", v)]) ∧ ∀ base : Heap, K.In base → base.Ns mainGlobals mg → FnOk P w K mg base (CX P w) 3 fa fd ["script"] (spLaw K) := by
  have ef : f_law = fa := by
    have e := hfa.symm.trans (PySem.W.mg_of X G a_law)
    cases e; rfl
  subst ef
  have b_law_feed := (fun_mk (st := s_law_feed) l_law_feed d_law_feed k_law_feed).binds (ps := ["script", "k"]) fun _ _ _ _ _ _ us hl => match us, hl with | [_, _], _ => rfl
  have b_law_take := (fun_mk (st := s_law_take) l_law_take d_law_take k_law_take).binds (ps := ["feed", "many"]) fun _ _ _ _ _ _ us hl => match us, hl with | [_, _], _ => rfl
  have b_law_pick := (fun_mk (st := s_law_pick) l_law_pick d_law_pick k_law_pick).binds (ps := ["feed", "some"]) fun _ _ _ _ _ _ us hl => match us, hl with | [_, _], _ => rfl
  have b_name_number := (fun_mk (st := s_name_number) l_name_number d_name_number k_name_number).binds (ps := ["name"]) fun _ _ _ _ _ _ us hl => match us, hl with | [_], _ => rfl
  have b_is_name := (fun_mk (st := s_is_name) l_is_name d_is_name k_is_name).binds (ps := ["thing"]) fun _ _ _ _ _ _ us hl => match us, hl with | [_], _ => rfl
  have b_name_of := (fun_mk (st := s_name_of) l_name_of d_name_of k_name_of).binds (ps := ["number"]) fun _ _ _ _ _ _ us hl => match us, hl with | [_], _ => rfl
  have b_law_number := (fun_mk (st := s_law_number) l_law_number d_law_number k_law_number).binds (ps := ["name"]) fun _ _ _ _ _ _ us hl => match us, hl with | [_], _ => rfl
  have b_law_whole := (fun_mk (st := s_law_whole) l_law_whole d_law_whole k_law_whole).binds (ps := ["found"]) fun _ _ _ _ _ _ us hl => match us, hl with | [_], _ => rfl
  have b_law_name := (fun_mk (st := s_law_name) l_law_name d_law_name k_law_name).binds (ps := ["number"]) fun _ _ _ _ _ _ us hl => match us, hl with | [_], _ => rfl
  have b_law := (fun_mk (st := s_law) l_law d_law k_law).binds (ps := ["script"]) fun _ _ _ _ _ _ us hl => match us, hl with | [_], _ => rfl
  refine ⟨PySem.W.fnOf "law" "law" (defArgs s_law) (defBody s_law) (defScope s_law) .none kV_law dc_law pm_law an_law cd_law ct_law, fun s v => .of_eq rfl, fun base _ _ => ?_⟩
  have T : Txt (sta P w K mg base) := ⟨PySem.W.mg_none_of X G z_len, PySem.W.mg_none_of X G z_abs, ⟨_, PySem.W.mg_of X G z_BASE⟩, PySem.W.mg_none_of X G z_int, ⟨_, PySem.W.mg_of X G z_MOST_LETTERS⟩, PySem.W.mg_none_of X G z_str, PySem.W.mg_none_of X G z_isinstance, ⟨_, PySem.W.mg_of X G z_LETTERS⟩, PySem.W.mg_none_of X G z_all, ⟨_, PySem.W.mg_of X G z_DIGITS⟩, PySem.W.mg_none_of X G z_bool, PySem.W.mg_none_of X G z_range, PySem.W.mg_none_of X G z_list⟩
  have R_law_feed : FnOk P w K mg base (CX P w) 1 f_law_feed (PySem.W.fnOf "_law_feed" "_law_feed" (defArgs s_law_feed) (defBody s_law_feed) (defScope s_law_feed) .none kV_law_feed dc_law_feed pm_law_feed an_law_feed cd_law_feed ct_law_feed) ["script", "k"] (spV (sta P w K mg base) 2 F_law_feed) := fn_vs (c := c_law_feed (sta P w K mg base)) l_law_feed d_law_feed sc_law_feed rfl rfl (ok_law_feed T )
  have R_law_take : FnOk P w K mg base (CX P w) 1 f_law_take (PySem.W.fnOf "_law_take" "_law_take" (defArgs s_law_take) (defBody s_law_take) (defScope s_law_take) .none kV_law_take dc_law_take pm_law_take an_law_take cd_law_take ct_law_take) ["feed", "many"] (spV (sta P w K mg base) 2 F_law_take) := fn_vs (c := c_law_take (sta P w K mg base)) l_law_take d_law_take sc_law_take rfl rfl (ok_law_take T )
  have R_law_pick : FnOk P w K mg base (CX P w) 2 f_law_pick (PySem.W.fnOf "_law_pick" "_law_pick" (defArgs s_law_pick) (defBody s_law_pick) (defScope s_law_pick) .none kV_law_pick dc_law_pick pm_law_pick an_law_pick cd_law_pick ct_law_pick) ["feed", "some"] (spV (sta P w K mg base) 2 F_law_pick) := fn_vs (c := c_law_pick (sta P w K mg base)) l_law_pick d_law_pick sc_law_pick rfl rfl (ok_law_pick T (fnAt_mk (PySem.W.mg_of X G a_law_take) k_law_take R_law_take (Nat.le_of_ble_eq_true rfl) b_law_take))
  have R_name_number : FnOk P w K mg base (CX P w) 1 f_name_number (PySem.W.fnOf "name_number" "name_number" (defArgs s_name_number) (defBody s_name_number) (defScope s_name_number) .none kV_name_number dc_name_number pm_name_number an_name_number cd_name_number ct_name_number) ["name"] (spV (sta P w K mg base) 1 F_name_number) := fn_vs (c := c_name_number (sta P w K mg base)) l_name_number d_name_number sc_name_number rfl rfl (ok_name_number T )
  have R_is_name : FnOk P w K mg base (CX P w) 1 f_is_name (PySem.W.fnOf "is_name" "is_name" (defArgs s_is_name) (defBody s_is_name) (defScope s_is_name) .none kV_is_name dc_is_name pm_is_name an_is_name cd_is_name ct_is_name) ["thing"] (spV (sta P w K mg base) 1 F_is_name) := fn_vs (c := c_is_name (sta P w K mg base)) l_is_name d_is_name sc_is_name rfl rfl (ok_is_name T )
  have R_name_of : FnOk P w K mg base (CX P w) 2 f_name_of (PySem.W.fnOf "name_of" "name_of" (defArgs s_name_of) (defBody s_name_of) (defScope s_name_of) .none kV_name_of dc_name_of pm_name_of an_name_of cd_name_of ct_name_of) ["number"] (spV (sta P w K mg base) 1 F_name_of) := fn_vs (c := c_name_of (sta P w K mg base)) l_name_of d_name_of sc_name_of rfl rfl (ok_name_of T (fnAt_mk (PySem.W.mg_of X G a_is_name) k_is_name R_is_name (Nat.le_of_ble_eq_true rfl) b_is_name))
  have R_law_number : FnOk P w K mg base (CX P w) 1 f_law_number (PySem.W.fnOf "_law_number" "_law_number" (defArgs s_law_number) (defBody s_law_number) (defScope s_law_number) .none kV_law_number dc_law_number pm_law_number an_law_number cd_law_number ct_law_number) ["name"] (spV (sta P w K mg base) 1 F_law_number) := fn_vs (c := c_law_number (sta P w K mg base)) l_law_number d_law_number sc_law_number rfl rfl (ok_law_number T )
  have R_law_whole : FnOk P w K mg base (CX P w) 1 f_law_whole (PySem.W.fnOf "_law_whole" "_law_whole" (defArgs s_law_whole) (defBody s_law_whole) (defScope s_law_whole) .none kV_law_whole dc_law_whole pm_law_whole an_law_whole cd_law_whole ct_law_whole) ["found"] (spV (sta P w K mg base) 1 F_law_whole) := fn_vs (c := c_law_whole (sta P w K mg base)) l_law_whole d_law_whole sc_law_whole rfl rfl (ok_law_whole T )
  have R_law_name : FnOk P w K mg base (CX P w) 1 f_law_name (PySem.W.fnOf "_law_name" "_law_name" (defArgs s_law_name) (defBody s_law_name) (defScope s_law_name) .none kV_law_name dc_law_name pm_law_name an_law_name cd_law_name ct_law_name) ["number"] (spV (sta P w K mg base) 1 F_law_name) := fn_vs (c := c_law_name (sta P w K mg base)) l_law_name d_law_name sc_law_name rfl rfl (ok_law_name T )
  have R_law : FnOk P w K mg base (CX P w) 3 f_law (PySem.W.fnOf "law" "law" (defArgs s_law) (defBody s_law) (defScope s_law) .none kV_law dc_law pm_law an_law cd_law ct_law) ["script"] (spV (sta P w K mg base) 1 F_law) := fn_vs (c := c_law (sta P w K mg base)) l_law d_law sc_law rfl rfl (ok_law T (fnAt_mk (PySem.W.mg_of X G a_law_feed) k_law_feed R_law_feed (Nat.le_of_ble_eq_true rfl) b_law_feed) (fnAt_mk (PySem.W.mg_of X G a_law_take) k_law_take R_law_take (Nat.le_of_ble_eq_true rfl) b_law_take) (fnAt_mk (PySem.W.mg_of X G a_law_pick) k_law_pick R_law_pick (Nat.le_of_ble_eq_true rfl) b_law_pick) (fnAt_mk (PySem.W.mg_of X G a_name_number) k_name_number R_name_number (Nat.le_of_ble_eq_true rfl) b_name_number) (fnAt_mk (PySem.W.mg_of X G a_name_of) k_name_of R_name_of (Nat.le_of_ble_eq_true rfl) b_name_of) (fnAt_mk (PySem.W.mg_of X G a_law_number) k_law_number R_law_number (Nat.le_of_ble_eq_true rfl) b_law_number) (fnAt_mk (PySem.W.mg_of X G a_law_whole) k_law_whole R_law_whole (Nat.le_of_ble_eq_true rfl) b_law_whole) (fnAt_mk (PySem.W.mg_of X G a_law_name) k_law_name R_law_name (Nat.le_of_ble_eq_true rfl) b_law_name))
  exact fnok_imp R_law (law_sp (S := sta P w K mg base) hF)
end K70

namespace K70
open PySem VS L2
theorem take_ok (a b m : Int) (ob : List OVal) (h0 : 0 < m) (h1 : m < 2 ^ 256) : ∃ x a' b', F_law_take [.ow (.lst [.int a, .int b]), .fr (.int m)] ob = some (.ok (.fr (.int x)) [.ow (.lst [.int a', .int b']), .fr (.int m)] ob) ∧ 0 ≤ x ∧ x < m := by
  by_cases h : 0 < a
  · refine ⟨a % m, a / m, b, ?_, Int.emod_nonneg _ (by omega), Int.emod_lt_of_pos _ h0⟩
    simp [F_law_take, g_law_take, x_mod h0, x_div h0 h1, h]
  · refine ⟨(b * 48271 + 12345) % 2305843009213693951 / 2097152 % m, a, (b * 48271 + 12345) % 2305843009213693951, ?_, Int.emod_nonneg _ (by omega), Int.emod_lt_of_pos _ h0⟩
    simp [F_law_take, g_law_take, x_mod, x_div, x_mul, h, h0]
theorem size_lst {n : Nat} (h : n ≤ 1000) : n ≤ sizeLine := Nat.le_trans h (by decide)
theorem feed_ok (ns : List Int) (hn : ns.length ≤ 63) : ∃ a b, F_law_feed [.fr (intsD ns), .fr (.int 0)] [] = some (.ok (.tp (.lst [.int a, .int b])) [.fr (intsD ns), .fr (.int 0)] []) := by
  have hp : powG (.int 10) (.int 18) = some (.fr (.int 1000000000000000000)) := by rw [powG_int, if_pos (by decide)]; rfl
  have h2 : 2 ≤ sizeLine := by decide
  cases ns with
  | nil =>
    refine ⟨0, 151603805652251099, ?_⟩
    simp [F_law_feed, g_law_feed, intsD, lenD, absD, hp, x_mod, x_mul, h2]
  | cons n ns =>
    have hl : (0 : Int) < (ns.length : Int) + 1 := by omega
    generalize hA : (if n < 0 then -n else n) = A
    by_cases hc : 1000000000000000000 ≤ A
    · refine ⟨A - 1000000000000000000, (n * 6364136223846793005 + 1442695040888963407) % 2305843009213693951, ?_⟩
      simp [F_law_feed, g_law_feed, intsD, lenD, absD, hp, x_mod, x_mul, h2, hl, hA, hc]
    · refine ⟨0, (n * 6364136223846793005 + 1442695040888963407) % 2305843009213693951, ?_⟩
      simp [F_law_feed, g_law_feed, intsD, lenD, absD, hp, x_mod, x_mul, h2, hl, hA, hc]
/-- the chosen of a list -/
theorem pick_ok (a b : Int) (ds : List Dat) (ob : List OVal) (h0 : ds ≠ []) (h1 : ds.length ≤ 1000) : ∃ (d : Dat) (a' b' : Int), F_law_pick [.ow (.lst [.int a, .int b]), .fr (.lst ds)] ob = some (.ok (.fr d) [.ow (.lst [.int a', .int b']), .fr (.lst ds)] ob) ∧ d ∈ ds := by
  have hl : 0 < ds.length := List.length_pos_iff.mpr h0
  obtain ⟨x, a', b', hr, hx0, hx1⟩ := take_ok a b (ds.length : Int) ob (by omega) (by omega)
  have hi : L2.atI ds x = some (ds[x.toNat]'(by omega)) := by
    unfold L2.atI L2.ixN
    rw [if_pos hx0, if_pos hx1]
    exact List.getElem?_eq_getElem _
  refine ⟨ds[x.toNat]'(by omega), a', b', ?_, List.getElem_mem _⟩
  simp [F_law_pick, g_law_pick, lenD, hr, hi]
/-- texts by their signs -/
def tx (l : List Nat) : Str := ⟨l.toArray⟩
@[simp] theorem tx_cps (l : List Nat) : (tx l).cps.toList = l := rfl
@[simp] theorem tx_size (l : List Nat) : (tx l).cps.size = l.length := rfl
@[simp] theorem tx_len (l : List Nat) : (tx l).length = l.length := rfl
theorem tx_app (l m : List Nat) : tx l ++ tx m = tx (l ++ m) := by
  show (⟨_ ++ _⟩ : Str) = ⟨_⟩
  simp [tx]
theorem tx_inj {l m : List Nat} : tx l = tx m ↔ l = m := by
  constructor
  · intro h; exact congrArg (fun s : Str => s.cps.toList) h
  · intro h; rw [h]
/-- small letters -/
def Let (c : Nat) : Prop := 97 ≤ c ∧ c ≤ 122
def abc : List Nat := [97, 98, 99, 100, 101, 102, 103, 104, 105, 106, 107, 108, 109, 110, 111, 112, 113, 114, 115, 116, 117, 118, 119, 120, 121, 122]
def dgt : List Nat := [48, 49, 50, 51, 52, 53, 54, 55, 56, 57] ++ abc
theorem abc_eq : (Str.ofString "abcdefghijklmnopqrstuvwxyz") = tx abc := by decide +kernel
theorem dgt_eq : (Str.ofString "0123456789abcdefghijklmnopqrstuvwxyz") = tx dgt := by decide +kernel
theorem nums_eq : (Str.ofString "0123456789") = tx [48, 49, 50, 51, 52, 53, 54, 55, 56, 57] := by decide +kernel
theorem nil_eq : (Str.ofString "") = tx [] := by decide +kernel
theorem mem_abc {c : Nat} : c ∈ abc ↔ Let c := by
  unfold Let abc
  simp only [List.mem_cons, List.not_mem_nil, or_false]
  omega
/-- a number's worth -/
theorem number_ok {l : List Nat} (ob : List OVal) (h : ∀ c ∈ l, Let c) (h0 : l ≠ []) (h1 : l.length ≤ 8) : F_name_number [.fr (.str (tx l))] ob = some (.ok (.fr (.int ((B36.num l : Nat) : Int))) [.fr (.str (tx l))] ob) := by
  have hb : ∀ c ∈ l, B36.Ok c := fun c hc => .inr (h c hc)
  have hl : l.length ≤ 640 := by omega
  have e : intD [.str (tx l), .int 36] = some (.fr (.int ((B36.num l : Nat) : Int))) := by
    show (if (tx l).length ≤ 640 ∧ (∀ c ∈ (tx l).cps.toList, B36.Ok c) ∧ (tx l).cps.toList ≠ [] then some (ER.fr (.int ((B36.num (tx l).cps.toList : Nat) : Int))) else none) = _
    rw [if_pos ⟨by simpa using hl, by simpa using hb, by simpa using h0⟩]
    simp
  simp [F_name_number, g_name_number, e]
theorem whole_ok (i : Int) (ob : List OVal) : F_law_whole [.fr (.int i)] ob = some (.ok (.fr (.bl true)) [.fr (.int i)] ob) := by
  have q1 : isiB "int" "int" = some true := by decide
  have q2 : isiB "int" "bool" = some false := by decide
  have e1 : isiD [.int i, .ty "int"] = some (.fr (.bl true)) := by simp [isiD, tyN, q1]
  have e2 : isiD [.int i, .ty "bool"] = some (.fr (.bl false)) := by simp [isiD, tyN, q2]
  simp [F_law_whole, g_law_whole, e1, e2]
end K70

namespace K70
open PySem VS L2
/-- one sign -/
def sg (k : Nat) : Dat := .str ⟨#[k]⟩
theorem signs_tx (l : List Nat) : signsD (tx l) = l.map sg := rfl
theorem in_sign (k : Nat) (l : List Nat) : inG (sg k) (.str (tx l)) = some (.fr (.bl (decide (k ∈ l)))) := by
  show inE false memS (.str ⟨#[k]⟩) (.str (tx l)) = _
  have : memS (.str ⟨#[k]⟩) (.str (tx l)) = some (decide (k ∈ l)) := by
    show (if (#[k] : Array Nat).size = 1 then some (decide ((#[k] : Array Nat).getD 0 0 ∈ (tx l).cps.toList)) else none) = _
    rw [if_pos (show (#[k] : Array Nat).size = 1 from rfl)]
    rfl
  unfold inE
  rw [this]
  rfl
theorem sizeL {n : Nat} (h : n ≤ 1000) : n ≤ sizeLine := Nat.le_trans h (by decide)
/-- [letter in LETTERS for letter in thing] -/
theorem letters_run (z : Dat) (ob : List OVal) : ∀ l : List Nat, lcRun [1] (tgName 1) (Act.ret true) (op2 inG (var 1) (cst (.str (tx abc)))) (l.map sg) ⟨[some (.fr z), none], ob⟩ = some (l.map fun k => .bl (decide (k ∈ abc)), ⟨[some (.fr z), none], ob⟩)
  | [] => rfl
  | k :: l => by
    have ih := letters_run z ob l
    rw [List.map_cons, x_lcRun_cons]
    simp only [sg] at ih ⊢
    simp [in_sign k abc, sg, ih, show inG (.str ⟨#[k]⟩) (.str (tx abc)) = some (.fr (.bl (decide (k ∈ abc)))) from in_sign k abc]
theorem bls_map (f : Nat → Bool) : ∀ l : List Nat, blsD (l.map fun k => Dat.bl (f k)) = some (l.map f)
  | [] => rfl
  | k :: l => by
    show (blsD (l.map fun k => Dat.bl (f k))).map (f k :: ·) = _
    rw [bls_map f l]
    rfl
def isN (l : List Nat) : Bool := decide (1 ≤ l.length ∧ l.length ≤ 8) && l.all fun k => decide (k ∈ abc)
theorem is_name_ok (l : List Nat) (ob : List OVal) (hl : l.length ≤ 1000) : F_is_name [.fr (.str (tx l))] ob = some (.ok (.fr (.bl (isN l))) [.fr (.str (tx l))] ob) := by
  have q1 : isiB "str" "str" = some true := by decide
  have e1 : isiD [.str (tx l), .ty "str"] = some (.fr (.bl true)) := by simp [isiD, tyN, q1]
  have e2 : lenD [.str (tx l)] = some (.fr (.int l.length)) := by
    show (if (tx l).length ≤ sizeLine then some (ER.fr (.int (tx l).length)) else none) = _
    rw [if_pos (show (tx l).length ≤ sizeLine from sizeL hl)]
    rfl
  have hs := sizeL hl
  have e3 : allD [.lst (l.map fun k => .bl (decide (k ∈ abc)))] = some (.fr (.bl (l.all fun k => decide (k ∈ abc)))) := by
    show (blsD _).map (fun bs => ER.fr (.bl (bs.all id))) = _
    rw [bls_map]
    simp [List.all_map]
  by_cases h1 : (1 : Int) ≤ (l.length : Int)
  · by_cases h2 : (l.length : Int) ≤ 8
    · have hn : isN l = l.all fun k => decide (k ∈ abc) := by
        unfold isN
        rw [decide_eq_true ⟨by omega, by omega⟩, Bool.true_and]
      simp [F_is_name, g_is_name, e1, e2, h1, h2, abc_eq, signs_tx, letters_run, hs, e3, hn]
    · have hn : isN l = false := by
        unfold isN
        rw [decide_eq_false (by omega), Bool.false_and]
      simp [F_is_name, g_is_name, e1, e2, h1, h2, hn]
  · have hn : isN l = false := by
      unfold isN
      rw [decide_eq_false (by omega), Bool.false_and]
    simp [F_is_name, g_is_name, e1, e2, h1, hn]

/-! digits -/
def ch (d : Nat) : Nat := dgt.getD d 0
def dgs (n : Nat) : List Nat := if h : n = 0 then [] else dgs (n / 36) ++ [ch (n % 36)]
decreasing_by omega
theorem dgs_0 : dgs 0 = [] := by rw [dgs]; rfl
theorem dgs_pos {n : Nat} (h : 0 < n) : dgs n = dgs (n / 36) ++ [ch (n % 36)] := by rw [dgs, dif_neg (by omega)]
theorem dgs_len : ∀ (k n : Nat), n < 36 ^ k → (dgs n).length ≤ k
  | 0, n, h => by
    have : n = 0 := by simpa using h
    subst this
    rw [dgs_0]; exact Nat.le_refl 0
  | k + 1, n, h => by
    by_cases h0 : n = 0
    · subst h0; rw [dgs_0]; exact Nat.zero_le _
    · rw [dgs_pos (by omega), List.length_append]
      have := dgs_len k (n / 36) (by rw [Nat.pow_succ] at h; exact Nat.div_lt_of_lt_mul (by omega))
      simp only [List.length_singleton]
      omega
theorem digit_ix (i : Int) (h0 : 0 ≤ i) (h1 : i < 36) : ixG (.str (tx dgt)) (.int i) = some (.fr (sg (ch i.toNat))) := by
  rw [ixG_str]
  show (if (tx dgt).length ≤ sizeLine then (L2.atI dgt i).map fun k => ER.fr (.str ⟨#[k]⟩) else none) = _
  rw [if_pos (show (tx dgt).length ≤ sizeLine by decide)]
  have hl : dgt.length = 36 := by decide
  have : L2.atI dgt i = some (ch i.toNat) := by
    unfold L2.atI L2.ixN
    rw [if_pos h0, if_pos (by rw [hl]; exact h1)]
    show dgt[i.toNat]? = some (dgt.getD i.toNat 0)
    rw [List.getD_eq_getElem?_getD, List.getElem?_eq_getElem (by rw [hl]; omega)]
    rfl
  rw [this]
  rfl
theorem sg_add (k : Nat) (f : List Nat) (h : f.length ≤ 999) : addG (sg k) (.str (tx f)) = some (.fr (.str (tx (k :: f)))) := by
  show addG (.str (tx [k])) (.str (tx f)) = _
  rw [addG_str]
  show (if (tx [k]).length + (tx f).length ≤ sizeLine then some (ER.fr (.str (tx [k] ++ tx f))) else none) = _
  rw [if_pos (show (tx [k]).length + (tx f).length ≤ sizeLine from sizeL (by simp only [tx_len, List.length_singleton]; omega)), tx_app]
  rfl
def wl : Nat → Act Flw := fun n => whileA (testA (op2 gtG (var 0) (cst (.int 0))))
    (seqA (parA [0, 2] (consA (op2 divG (var 0) (cst (.int 36))) (consA (op2 modG (var 0) (cst (.int 36))) (Act.ret []))))
    (setA 1 (op2 addG (op2 ixG (cst (.str (tx dgt))) (var 2)) (var 1)))) n
theorem wl_stop (m : Nat) (n : Int) (h : ¬ 0 < n) (f : Option VS.Slot) (x : Option VS.Slot) (ob : List OVal) : wl (m + 1) ⟨[some (.fr (.int n)), f, x], ob⟩ = some (.ok .nx ⟨[some (.fr (.int n)), f, x], ob⟩) := by
  unfold wl
  rw [x_whileA]
  simp [h]
theorem wl_run (ob : List OVal) : ∀ (k n : Nat) (f : List Nat) (x : Option VS.Slot) (m : Nat), n < 36 ^ k → k < m → f.length + k ≤ 999 → ∃ x' i, wl m ⟨[some (.fr (.int (n : Int))), some (.fr (.str (tx f))), x], ob⟩ = some (.ok .nx ⟨[some (.fr (.int i)), some (.fr (.str (tx (dgs n ++ f)))), x'], ob⟩)
  | 0, n, f, x, m, h, hm, hf => by
    have : n = 0 := by simpa using h
    subst this
    obtain ⟨m, rfl⟩ : ∃ m', m = m' + 1 := ⟨m - 1, by omega⟩
    rw [dgs_0]
    exact ⟨x, 0, wl_stop m 0 (by decide) _ _ ob⟩
  | k + 1, n, f, x, m, h, hm, hf => by
    obtain ⟨m, rfl⟩ : ∃ m', m = m' + 1 := ⟨m - 1, by omega⟩
    by_cases h0 : n = 0
    · subst h0
      rw [dgs_0]
      exact ⟨x, 0, wl_stop m 0 (by decide) _ _ ob⟩
    · obtain ⟨x', i, ih⟩ := wl_run ob k (n / 36) (ch (n % 36) :: f) (some (.fr (.int ((n % 36 : Nat) : Int)))) m (by rw [Nat.pow_succ] at h; exact Nat.div_lt_of_lt_mul (by omega)) (by omega) (by simp only [List.length_cons]; omega)
      refine ⟨x', i, ?_⟩
      have hp : 0 < n := by omega
      have e1 : divG (.int (n : Int)) (.int 36) = some (.fr (.int ((n / 36 : Nat) : Int))) := by rw [x_div (by decide) (by decide)]; simp
      have e2 : modG (.int (n : Int)) (.int 36) = some (.fr (.int ((n % 36 : Nat) : Int))) := by rw [x_mod (by decide)]; simp
      have e3 : ixG (.str (tx dgt)) (.int ((n % 36 : Nat) : Int)) = some (.fr (sg (ch (n % 36)))) := by
        rw [digit_ix _ (by omega) (by omega), Int.toNat_natCast]
      have e4 := sg_add (ch (n % 36)) f (by omega)
      rw [dgs_pos (by omega), List.append_assoc]
      show wl (m + 1) _ = some (.ok .nx ⟨[_, some (.fr (.str (tx (dgs (n / 36) ++ (ch (n % 36) :: f))))), _], _⟩)
      rw [← ih]
      unfold wl
      rw [x_whileA]
      simp only [sg] at e3 e4
      generalize ((n / 36 : Nat) : Int) = A at *
      generalize ((n % 36 : Nat) : Int) = B at *
      simp [hp, e1, e2, e3, e4, -ixG_str, -addG_str]
theorem name_of_pos (n k : Nat) (ob : List OVal) (h : n < 36 ^ k) (hk : k < 100) : F_name_of [.fr (.int (n : Int))] ob = some (.ok (.fr (if isN (dgs n) = true then .str (tx (dgs n)) else .non)) [.fr (.int (n : Int))] ob) := by
  obtain ⟨x, i, hr⟩ := wl_run ob k n [] none 100 h hk (by simp; omega)
  have hl := dgs_len k n h
  have hn := is_name_ok (dgs n) ob (by omega)
  unfold wl at hr
  rw [List.append_nil] at hr
  cases hb : isN (dgs n) with
  | true => rw [hb] at hn; simp [F_name_of, g_name_of, nil_eq, dgt_eq, hr, hn]
  | false => rw [hb] at hn; simp [F_name_of, g_name_of, nil_eq, dgt_eq, hr, hn]
theorem name_of_neg (n : Int) (ob : List OVal) (h : ¬ 0 < n) : F_name_of [.fr (.int n)] ob = some (.ok (.fr .non) [.fr (.int n)] ob) := by
  have hr := wl_stop 99 n h (some (.fr (.str (tx [])))) none ob
  have hn := is_name_ok [] ob (by decide)
  have hb : isN [] = false := by decide
  rw [hb] at hn
  unfold wl at hr
  simp [F_name_of, g_name_of, nil_eq, dgt_eq, hr, hn]
end K70

namespace K70
open PySem VS L2
/-! _law_number -/
theorem occ_abc : ∀ c ∈ abc, Builtin.Str.occurrences (tx abc) ⟨#[c]⟩ 0 (tx abc).length 1 = [c - 97] := by decide +kernel
theorem index_abc {c : Nat} (h : Let c) : indexD [.str (tx abc), .str ⟨#[c]⟩] = some (.fr (.int ((c - 97 : Nat) : Int))) := by
  show (match Builtin.Str.occurrences (tx abc) ⟨#[c]⟩ 0 (tx abc).length 1 with | i :: _ => some (ER.fr (.int (i : Nat))) | [] => none) = _
  rw [occ_abc c (mem_abc.mpr h)]
theorem val_let {c : Nat} (h : Let c) : ((B36.val c : Nat) : Int) = 10 + ((c - 97 : Nat) : Int) := by
  unfold Let at h
  unfold B36.val
  rw [if_neg (by omega)]
  omega
theorem number_step (z : Dat) (ob : List OVal) (c : Nat) (n : Int) (x : Option VS.Slot) (hc : Let c) (ds : List Dat) : forA (tgName 2) (setA 1 (op2 addG (op2 addG (op2 mulG (var 1) (cst (.int 36))) (cst (.int 10))) (mthA "str" indexD (cst (.str (tx abc))) (consA (var 2) (Act.ret []))))) (sg c :: ds) ⟨[some (.fr z), some (.fr (.int n)), x], ob⟩ =
    forA (tgName 2) (setA 1 (op2 addG (op2 addG (op2 mulG (var 1) (cst (.int 36))) (cst (.int 10))) (mthA "str" indexD (cst (.str (tx abc))) (consA (var 2) (Act.ret []))))) ds ⟨[some (.fr z), some (.fr (.int (n * 36 + 10 + ((c - 97 : Nat) : Int)))), some (.fr (sg c))], ob⟩ := by
  have e1 := index_abc hc
  have e2 : mulG (.int n) (.int 36) = some (.fr (.int (n * 36))) := x_mul (.inr (by decide))
  generalize ((c - 97 : Nat) : Int) = C at e1 ⊢
  generalize abc = ab at e1 ⊢
  rw [x_forA_cons]
  simp [sg, e2, e1]
theorem number_loop (z : Dat) (ob : List OVal) (l : List Nat) : ∀ (n : Nat) (x : Option VS.Slot), (∀ c ∈ l, Let c) → ∃ x', forA (tgName 2) (setA 1 (op2 addG (op2 addG (op2 mulG (var 1) (cst (.int 36))) (cst (.int 10))) (mthA "str" indexD (cst (.str (tx abc))) (consA (var 2) (Act.ret []))))) (l.map sg) ⟨[some (.fr z), some (.fr (.int (n : Int))), x], ob⟩ =
    some (.ok .nx ⟨[some (.fr z), some (.fr (.int ((l.foldl (fun a c => a * 36 + B36.val c) n : Nat) : Int))), x'], ob⟩) := by
  induction l with
  | nil => intro n x _; exact ⟨x, rfl⟩
  | cons c l ih =>
    intro n x h
    have hc := h c (List.mem_cons_self ..)
    obtain ⟨x', ih⟩ := ih (n * 36 + B36.val c) (some (.fr (sg c))) fun d hd => h d (List.mem_cons_of_mem _ hd)
    refine ⟨x', ?_⟩
    have e2 : ((n * 36 + B36.val c : Nat) : Int) = (n : Int) * 36 + 10 + ((c - 97 : Nat) : Int) := by
      have := val_let hc
      omega
    rw [e2] at ih
    rw [List.map_cons, List.foldl_cons, number_step z ob c n x hc, ih]
theorem law_number_ok (l : List Nat) (ob : List OVal) (h : ∀ c ∈ l, Let c) : F_law_number [.fr (.str (tx l))] ob = some (.ok (.fr (.int ((B36.num l : Nat) : Int))) [.fr (.str (tx l))] ob) := by
  obtain ⟨x, hr⟩ := number_loop (.str (tx l)) ob l 0 none h
  have e : (((0 : Nat) : Nat) : Int) = 0 := rfl
  rw [e] at hr
  simp [F_law_number, g_law_number, signs_tx, abc_eq, hr, B36.num]
/-! digits and worth -/
theorem num_snoc (l : List Nat) (c : Nat) : B36.num (l ++ [c]) = B36.num l * 36 + B36.val c := by
  unfold B36.num
  rw [List.foldl_append]
  rfl
theorem ch_val : ∀ c ∈ abc, ch (B36.val c) = c ∧ 0 < B36.val c ∧ B36.val c < 36 := by decide +kernel
theorem dgs_num (l : List Nat) (h : ∀ c ∈ l, Let c) : dgs (B36.num l) = l ∧ B36.num l < 36 ^ l.length ∧ (l ≠ [] → 0 < B36.num l) := by
  suffices H : ∀ r : List Nat, (∀ c ∈ r, Let c) → dgs (B36.num r.reverse) = r.reverse ∧ B36.num r.reverse < 36 ^ r.length ∧ (r ≠ [] → 0 < B36.num r.reverse) by
    have := H l.reverse fun c hc => h c (List.mem_reverse.mp hc)
    rw [List.reverse_reverse, List.length_reverse] at this
    exact ⟨this.1, this.2.1, fun hl => this.2.2 fun z => hl (List.reverse_eq_nil_iff.mp z)⟩
  intro r
  induction r with
  | nil => intro _; exact ⟨dgs_0, by decide, fun z => absurd rfl z⟩
  | cons c r ih =>
    intro hr
    obtain ⟨h1, h2, _⟩ := ih fun d hd => hr d (List.mem_cons_of_mem _ hd)
    obtain ⟨q1, q2, q3⟩ := ch_val c (mem_abc.mpr (hr c (List.mem_cons_self ..)))
    rw [List.reverse_cons, num_snoc]
    refine ⟨?_, ?_, fun _ => by omega⟩
    · rw [dgs_pos (by omega), show (B36.num r.reverse * 36 + B36.val c) / 36 = B36.num r.reverse by omega, show (B36.num r.reverse * 36 + B36.val c) % 36 = B36.val c by omega, h1, q1]
    · rw [List.length_cons, Nat.pow_succ]
      omega
theorem ch_dgt (d : Nat) (h : d < 36) : ch d ∈ dgt := by
  have : ∀ d, d < 36 → ch d ∈ dgt := by decide +kernel
  exact this d h
theorem dgs_dgt : ∀ (k n : Nat), n < 36 ^ k → ∀ c ∈ dgs n, c ∈ dgt
  | 0, n, h, c, hc => by
    have : n = 0 := by simpa using h
    subst this
    rw [dgs_0] at hc; cases hc
  | k + 1, n, h, c, hc => by
    by_cases h0 : n = 0
    · subst h0; rw [dgs_0] at hc; cases hc
    · rw [dgs_pos (by omega)] at hc
      rcases List.mem_append.mp hc with hc | hc
      · exact dgs_dgt k (n / 36) (by rw [Nat.pow_succ] at h; exact Nat.div_lt_of_lt_mul (by omega)) c hc
      · rw [List.mem_singleton.mp hc]
        exact ch_dgt _ (by omega)
theorem dgs_ge : ∀ (k n : Nat), 36 ^ k ≤ n → k < (dgs n).length
  | 0, n, h => by
    rw [dgs_pos (by have : (36 : Nat) ^ 0 = 1 := rfl; omega), List.length_append]
    simp
  | k + 1, n, h => by
    have hp : 0 < 36 ^ (k + 1) := Nat.pow_pos (by decide)
    rw [dgs_pos (by omega), List.length_append]
    have := dgs_ge k (n / 36) (by rw [Nat.pow_succ] at h; exact (Nat.le_div_iff_mul_le (by decide)).mpr h)
    simp only [List.length_singleton]
    omega
/-! _law_name -/
def nums : List Nat := [48, 49, 50, 51, 52, 53, 54, 55, 56, 57]
theorem name_loop (z : Option VS.Slot) (ob : List OVal) : ∀ (ds : List Dat) (n : Nat) (f : List Nat) (x : Option VS.Slot), f.length + ds.length ≤ 999 → (∀ c ∈ f, c ∈ dgt) → ∃ (L : Nat) (f' : List Nat) (x' : Option VS.Slot), forA (tgName 3) (iteA (testA (op2 gtG (var 2) (cst (.int 0))))
      (seqA (setA 1 (op2 addG (op2 ixG (cst (.str (tx dgt))) (op2 modG (var 2) (cst (.int 36)))) (var 1))) (setA 2 (op2 divG (var 2) (cst (.int 36))))) (Act.ret .nx)) ds ⟨[z, some (.fr (.str (tx f))), some (.fr (.int (n : Int))), x, none, none], ob⟩ =
    some (.ok .nx ⟨[z, some (.fr (.str (tx f'))), some (.fr (.int (L : Int))), x', none, none], ob⟩) ∧ (n < 36 ^ ds.length → L = 0 ∧ f' = dgs n ++ f) ∧ (36 ^ ds.length ≤ n → 0 < L) ∧ f'.length ≤ f.length + ds.length ∧ ∀ c ∈ f', c ∈ dgt
  | [], n, f, x, hf, hd => ⟨n, f, x, rfl, fun h => by
      have : n = 0 := by simpa using h
      subst this
      rw [dgs_0]
      exact ⟨rfl, rfl⟩, fun h => (by have : (36 : Nat) ^ ([] : List Dat).length = 1 := rfl; omega), Nat.le_refl _, hd⟩
  | d :: ds, n, f, x, hf, hd => by
    simp only [List.length_cons] at hf
    by_cases h0 : n = 0
    · subst h0
      obtain ⟨L, f', x', hr, q1, q2, q3, q4⟩ := name_loop z ob ds 0 f (some (.fr d)) (by omega) hd
      refine ⟨L, f', x', ?_, fun _ => q1 (Nat.pow_pos (by decide)), fun h => ?_, by simp only [List.length_cons]; omega, q4⟩
      · rw [x_forA_cons, ← hr]
        simp
      · have hp : 0 < 36 ^ (d :: ds).length := Nat.pow_pos (by decide)
        omega
    · obtain ⟨L, f', x', hr, q1, q2, q3, q4⟩ := name_loop z ob ds (n / 36) (ch (n % 36) :: f) (some (.fr d)) (by simp only [List.length_cons]; omega) (by
        intro c hc
        rcases List.mem_cons.mp hc with rfl | hc
        · exact ch_dgt _ (by omega)
        · exact hd c hc)
      refine ⟨L, f', x', ?_, fun h => ?_, fun h => ?_, by simp only [List.length_cons] at q3 ⊢; omega, q4⟩
      · have hp : 0 < n := by omega
        have e1 : divG (.int (n : Int)) (.int 36) = some (.fr (.int ((n / 36 : Nat) : Int))) := by rw [x_div (by decide) (by decide)]; simp
        have e2 : modG (.int (n : Int)) (.int 36) = some (.fr (.int ((n % 36 : Nat) : Int))) := by rw [x_mod (by decide)]; simp
        have e3 : ixG (.str (tx dgt)) (.int ((n % 36 : Nat) : Int)) = some (.fr (sg (ch (n % 36)))) := by rw [digit_ix _ (by omega) (by omega), Int.toNat_natCast]
        have e4 := sg_add (ch (n % 36)) f (by omega)
        rw [x_forA_cons, ← hr]
        simp only [sg] at e3 e4
        generalize ((n / 36 : Nat) : Int) = A at *
        generalize ((n % 36 : Nat) : Int) = B at *
        simp [hp, e1, e2, e3, e4, -ixG_str, -addG_str]
      · rw [List.length_cons, Nat.pow_succ] at h
        obtain ⟨w1, w2⟩ := q1 (Nat.div_lt_of_lt_mul (by omega))
        refine ⟨w1, ?_⟩
        rw [w2, dgs_pos (n := n) (by omega), List.append_assoc]
        rfl
      · rw [List.length_cons, Nat.pow_succ] at h
        exact q2 ((Nat.le_div_iff_mul_le (by decide)).mpr h)
theorem small_run (a b cc d e : Option VS.Slot) (ob : List OVal) : ∀ l : List Nat, lcRun [5] (tgName 5) (testA (op2 inG (var 5) (cst (.str (tx nums))))) (var 5) (l.map sg) ⟨[a, b, cc, d, e, none], ob⟩ = some ((l.filter fun k => decide (k ∈ nums)).map sg, ⟨[a, b, cc, d, e, none], ob⟩)
  | [] => rfl
  | k :: l => by
    have ih := small_run a b cc d e ob l
    have e1 : inG (.str ⟨#[k]⟩) (.str (tx nums)) = some (.fr (.bl (decide (k ∈ nums)))) := in_sign k nums
    rw [List.map_cons, x_lcRun_cons]
    by_cases h : k ∈ nums
    · rw [List.filter_cons_of_pos (by simpa using h), List.map_cons]
      simp [sg, e1, h] at ih ⊢
      rw [ih]
    · rw [List.filter_cons_of_neg (by simpa using h)]
      simp [sg, e1, h] at ih ⊢
      rw [ih]
theorem toPys_sg : ∀ l : List Nat, toPys (l.map sg) = some (l.map fun k => PyData.str ⟨#[k]⟩)
  | [] => rfl
  | k :: l => by
    show (match toPy (sg k), toPys (l.map sg) with | some p, some ps => some (p :: ps) | _, _ => none) = _
    rw [toPys_sg l]
    rfl
theorem lay_sg : ∀ l : List Nat, (∀ c ∈ l, c ∈ dgt) → PyData.canLayAll0 (l.map fun k => PyData.str ⟨#[k]⟩) = true
  | [], _ => by unfold List.map PyData.canLayAll0; rfl
  | k :: l, h => by
    rw [List.map_cons]
    unfold PyData.canLayAll0
    rw [lay_sg l fun c hc => h c (List.mem_cons_of_mem _ hc), Bool.and_true]
    have : ∀ k ∈ dgt, PyData.canLay0 (.str ⟨#[k]⟩) = true := by decide +kernel
    exact this k (h k (List.mem_cons_self ..))
theorem eq_nil (l : List Nat) (h : ∀ c ∈ l, c ∈ dgt) : eqE (.lst (l.map sg)) (.lst []) = some (.fr (.bl l.isEmpty)) := by
  have e1 : toPy (.lst (l.map sg)) = some (.list (l.map fun k => PyData.str ⟨#[k]⟩)) := by
    show (toPys (l.map sg)).map PyData.list = _
    rw [toPys_sg]
    rfl
  have e2 : toPy (.lst []) = some (.list []) := rfl
  have dep : ∀ l : List Nat, PyData.depthAll (l.map fun k => PyData.str ⟨#[k]⟩) ≤ 1 := fun l => by
    induction l with
    | nil => unfold List.map PyData.depthAll; exact Nat.zero_le _
    | cons k l ih =>
      rw [List.map_cons]
      unfold PyData.depthAll PyData.depth
      omega
  have s1 : SeqAt.shaped (.list (l.map fun k => PyData.str ⟨#[k]⟩)) = true := by
    unfold SeqAt.shaped
    rw [Bool.and_eq_true]
    refine ⟨?_, decide_eq_true ?_⟩
    · unfold PyData.canLay0; exact lay_sg l h
    · unfold PyData.depth; have := dep l; omega
  have s2 : SeqAt.shaped (.list []) = true := by decide +kernel
  have e3 : eqD (.lst (l.map sg)) (.lst []) = some l.isEmpty := by
    show eqP _ _ = _
    unfold eqP
    rw [e1, e2]
    simp only [s1, s2, Bool.and_self, if_true]
    cases l with
    | nil => rw [List.map_nil]; unfold PyData.eqv PyData.eqvAll; rfl
    | cons k l => rw [List.map_cons]; unfold PyData.eqv PyData.eqvAll; rfl
  unfold eqE
  rw [e3]
  rfl
end K70

namespace K70
open PySem VS L2
theorem dgt_split : ∀ c ∈ dgt, decide (c ∈ abc) = !decide (c ∈ nums) := by decide +kernel
theorem filt_nil (l : List Nat) (h : ∀ c ∈ l, c ∈ dgt) : (l.filter fun k => decide (k ∈ nums)).isEmpty = l.all fun k => decide (k ∈ abc) := by
  induction l with
  | nil => rfl
  | cons c l ih =>
    have e := dgt_split c (h c (List.mem_cons_self ..))
    rw [List.all_cons, e, ← ih fun d hd => h d (List.mem_cons_of_mem _ hd)]
    by_cases hc : c ∈ nums
    · rw [List.filter_cons_of_pos (by simpa using hc)]
      simp [hc]
    · rw [List.filter_cons_of_neg (by simpa using hc)]
      simp [hc]
def nameD (l : List Nat) : Dat := if isN l = true then .str (tx l) else .non
/-- behind the loop -/
theorem name_tail (n : Int) (L : Int) (f : List Nat) (ob : List OVal) (hr : ∃ x', forA (tgName 3) (iteA (testA (op2 gtG (var 2) (cst (.int 0))))
      (seqA (setA 1 (op2 addG (op2 ixG (cst (.str (tx dgt))) (op2 modG (var 2) (cst (.int 36)))) (var 1))) (setA 2 (op2 divG (var 2) (cst (.int 36))))) (Act.ret .nx)) (rangeD 0 9) ⟨[some (.fr (.int n)), some (.fr (.str (tx []))), some (.fr (.int n)), none, none, none], ob⟩ =
    some (.ok .nx ⟨[some (.fr (.int n)), some (.fr (.str (tx f))), some (.fr (.int L)), x', none, none], ob⟩)) (hl : f.length ≤ 999) (hd : ∀ c ∈ f, c ∈ dgt) : F_law_name [.fr (.int n)] ob = some (.ok (.fr (if L = 0 then nameD f else .non)) [.fr (.int n)] ob) := by
  obtain ⟨x', hr⟩ := hr
  have e1 : rangeF [.int 9] = some (rangeD 0 9) := rfl
  have e2 := fun a b cc d e => small_run a b cc d e ob f
  have e3 := eq_nil (f.filter fun k => decide (k ∈ nums)) fun c hc => hd c (List.mem_filter.mp hc).1
  rw [filt_nil f hd] at e3
  have hz := sizeL (show f.length ≤ 1000 by omega)
  have hz2 : (f.filter fun k => decide (k ∈ nums)).length ≤ sizeLine := Nat.le_trans (List.length_filter_le _ _) hz
  have e4 : lenD [.str (tx f)] = some (.fr (.int f.length)) := by
    show (if (tx f).length ≤ sizeLine then some (ER.fr (.int (tx f).length)) else none) = _
    rw [if_pos (show (tx f).length ≤ sizeLine from hz)]
    rfl
  have e5 : ∀ L : Int, eqE (.int L) (.int 0) = some (.fr (.bl (decide (L = 0)))) := fun _ => rfl
  have e6 : (0 : Nat) ≤ sizeLine := Nat.zero_le _
  generalize hA : (f.all fun k => decide (k ∈ abc)) = A at e3
  have hn : isN f = (decide (1 ≤ f.length ∧ f.length ≤ 8) && A) := by unfold isN; rw [hA]
  have nq : (Str.ofString "0123456789") = tx nums := nums_eq
  by_cases h0 : L = 0
  · cases A with
    | false =>
      have hn' : isN f = false := by rw [hn, Bool.and_false]
      simp [F_law_name, g_law_name, e1, nil_eq, dgt_eq, nq, hr, signs_tx, e2, e3, hz2, e5, h0, hn', nameD]
    | true =>
      by_cases h1 : (1 : Int) ≤ (f.length : Int)
      · by_cases h2 : (f.length : Int) ≤ 8
        · have hn' : isN f = true := by rw [hn, Bool.and_true, decide_eq_true ⟨by omega, by omega⟩]
          simp [F_law_name, g_law_name, e1, nil_eq, dgt_eq, nq, hr, signs_tx, e2, e3, hz2, e5, h0, hn', nameD, e4, h1, h2]
        · have hn' : isN f = false := by rw [hn, Bool.and_true, decide_eq_false (by omega)]
          simp [F_law_name, g_law_name, e1, nil_eq, dgt_eq, nq, hr, signs_tx, e2, e3, hz2, e5, h0, hn', nameD, e4, h1, h2]
      · have hn' : isN f = false := by rw [hn, Bool.and_true, decide_eq_false (by omega)]
        simp [F_law_name, g_law_name, e1, nil_eq, dgt_eq, nq, hr, signs_tx, e2, e3, hz2, e5, h0, hn', nameD, e4, h1]
  · simp [F_law_name, g_law_name, e1, nil_eq, dgt_eq, nq, hr, signs_tx, e2, e3, hz2, e5, h0]
theorem len9 : (rangeD 0 9).length = 9 := by simp [rangeD]
theorem law_name_pos (n : Nat) (ob : List OVal) : F_law_name [.fr (.int (n : Int))] ob = some (.ok (.fr (nameD (dgs n))) [.fr (.int (n : Int))] ob) := by
  obtain ⟨L, f', x', hr, q1, q2, q3, q4⟩ := name_loop (some (.fr (.int (n : Int)))) ob (rangeD 0 9) n [] none (by rw [len9]; decide) (fun c hc => nomatch hc)
  rw [len9] at q1 q2 q3
  have q3 : f'.length ≤ 9 := by simpa using q3
  have t := name_tail (n : Int) (L : Int) f' ob ⟨x', hr⟩ (by omega) q4
  rw [t]
  by_cases h : n < 36 ^ 9
  · obtain ⟨w1, w2⟩ := q1 h
    rw [List.append_nil] at w2
    rw [if_pos (by omega), w2]
  · have w := q2 (by omega)
    rw [if_neg (by omega)]
    have := dgs_ge 9 n (by omega)
    have hn : isN (dgs n) = false := by
      unfold isN
      rw [decide_eq_false (by omega), Bool.false_and]
    unfold nameD
    rw [hn]
    rfl
theorem stay (n : Int) (h : ¬ 0 < n) (ob : List OVal) : ∀ (ds : List Dat) (x : Option VS.Slot), ∃ x', forA (tgName 3) (iteA (testA (op2 gtG (var 2) (cst (.int 0))))
      (seqA (setA 1 (op2 addG (op2 ixG (cst (.str (tx dgt))) (op2 modG (var 2) (cst (.int 36)))) (var 1))) (setA 2 (op2 divG (var 2) (cst (.int 36))))) (Act.ret .nx)) ds ⟨[some (.fr (.int n)), some (.fr (.str (tx []))), some (.fr (.int n)), x, none, none], ob⟩ =
    some (.ok .nx ⟨[some (.fr (.int n)), some (.fr (.str (tx []))), some (.fr (.int n)), x', none, none], ob⟩)
  | [], x => ⟨x, rfl⟩
  | d :: ds, x => by
    obtain ⟨x', hr⟩ := stay n h ob ds (some (.fr d))
    refine ⟨x', ?_⟩
    rw [x_forA_cons, ← hr]
    simp [h]
theorem law_name_neg (n : Int) (ob : List OVal) (h : ¬ 0 < n) : F_law_name [.fr (.int n)] ob = some (.ok (.fr .non) [.fr (.int n)] ob) := by
  rw [name_tail n n [] ob (stay n h ob (rangeD 0 9) none) (by decide) (fun c hc => nomatch hc)]
  have : nameD [] = .non := by
    unfold nameD
    rw [if_neg (by decide)]
  rw [this]
  simp
/-- both tell the same -/
theorem same (v : Int) (ob : List OVal) (h : v < 36 ^ 50) : ∃ d, F_name_of [.fr (.int v)] ob = some (.ok (.fr d) [.fr (.int v)] ob) ∧ F_law_name [.fr (.int v)] ob = some (.ok (.fr d) [.fr (.int v)] ob) ∧ neE d d = some (.fr (.bl false)) := by
  by_cases h0 : 0 < v
  · obtain ⟨n, rfl⟩ : ∃ n : Nat, v = (n : Int) := ⟨v.toNat, by omega⟩
    refine ⟨nameD (dgs n), name_of_pos n 50 ob (by omega) (by decide), law_name_pos n ob, ?_⟩
    unfold nameD
    split
    · show (Option.map (fun k => ER.fr (.bl (!k))) (some (decide (tx (dgs n) = tx (dgs n))))) = _
      rw [decide_eq_true rfl]
      rfl
    · rfl
  · exact ⟨.non, name_of_neg v ob h0, law_name_neg v ob h0, rfl⟩
end K70

namespace K70
open PySem VS L2
theorem app_sg (l : List Nat) (k : Nat) (h : l.length ≤ 999) : addG (.str (tx l)) (sg k) = some (.fr (.str (tx (l ++ [k])))) := by
  show addG (.str (tx l)) (.str (tx [k])) = _
  rw [addG_str]
  show (if (tx l).length + (tx [k]).length ≤ sizeLine then some (ER.fr (.str (tx l ++ tx [k]))) else none) = _
  rw [if_pos (show (tx l).length + (tx [k]).length ≤ sizeLine from sizeL (by simp only [tx_len, List.length_singleton]; omega)), tx_app]
def inn : Act Flw := setA 3 (op2 addG (var 3) (defA 2 F_law_pick [true, false] [] (consA (var 1) (consA (callA listD (consA (cst (.str "abcdefghijklmnopqrstuvwxyz")) (Act.ret []))) (Act.ret [])))))
theorem list_abc : listD [.str (tx abc)] = some (.tp (.lst (abc.map sg))) := by
  show (if (tx abc).cps.size ≤ sizeLine then some (ER.tp (.lst (signsD (tx abc)))) else none) = _
  rw [if_pos (show (tx abc).cps.size ≤ sizeLine by decide)]
  rfl
theorem inner (s x2 x5 x6 x7 x8 : Option VS.Slot) : ∀ (ds : List Dat) (a b : Int) (l : List Nat) (x4 : Option VS.Slot), l.length + ds.length ≤ 999 → (∀ c ∈ l, Let c) → ∃ (a' b' : Int) (l' : List Nat) (x4' : Option VS.Slot),
    forA (tgName 4) inn ds ⟨[s, some (.ow (.lst [.int a, .int b])), x2, some (.fr (.str (tx l))), x4, x5, x6, x7, x8], []⟩ = some (.ok .nx ⟨[s, some (.ow (.lst [.int a', .int b'])), x2, some (.fr (.str (tx l'))), x4', x5, x6, x7, x8], []⟩) ∧ l'.length = l.length + ds.length ∧ ∀ c ∈ l', Let c
  | [], a, b, l, x4, hl, h => ⟨a, b, l, x4, rfl, rfl, h⟩
  | d :: ds, a, b, l, x4, hl, h => by
    simp only [List.length_cons] at hl
    obtain ⟨e, a1, b1, hp, hm⟩ := pick_ok a b (abc.map sg) [] (by decide) (by decide)
    obtain ⟨k, hk, rfl⟩ := List.mem_map.mp hm
    obtain ⟨a', b', l', x4', hr, q1, q2⟩ := inner s x2 x5 x6 x7 x8 ds a1 b1 (l ++ [k]) (some (.fr d)) (by rw [List.length_append, List.length_singleton]; omega) (fun c hc => by
      rcases List.mem_append.mp hc with hc | hc
      · exact h c hc
      · rw [List.mem_singleton.mp hc]; exact mem_abc.mp hk)
    refine ⟨a', b', l', x4', ?_, by rw [q1, List.length_append, List.length_singleton, List.length_cons]; omega, q2⟩
    have e1 := app_sg l k (by omega)
    have e2 := list_abc
    rw [x_forA_cons, ← hr]
    generalize abc.map sg = AB at hp e2
    simp [inn, abc_eq, e1, e2, hp]
def oth : Act Flw := iteA (testA (op2 neE (defA 1 F_name_of [false] [] (consA (var 8) (Act.ret []))) (defA 1 F_law_name [false] [] (consA (var 8) (Act.ret [])))))
    (retA (fun i => decide (i < 1)) (cst (.bl false)))
    (Act.ret .nx)
theorem others (s0 s1 x2 x3 x4 x5 x6 x7 : Option VS.Slot) : ∀ (vs : List Int) (x8 : Option VS.Slot), (∀ v ∈ vs, v < 36 ^ 50) → ∃ x8', forA (tgName 8) oth (vs.map .int) ⟨[s0, s1, x2, x3, x4, x5, x6, x7, x8], []⟩ = some (.ok .nx ⟨[s0, s1, x2, x3, x4, x5, x6, x7, x8'], []⟩)
  | [], x8, h => ⟨x8, rfl⟩
  | v :: vs, x8, h => by
    obtain ⟨x8', hr⟩ := others s0 s1 x2 x3 x4 x5 x6 x7 vs (some (.fr (.int v))) fun u hu => h u (List.mem_cons_of_mem _ hu)
    obtain ⟨d, h1, h2, h3⟩ := same v [] (h v (List.mem_cons_self ..))
    refine ⟨x8', ?_⟩
    rw [List.map_cons, x_forA_cons, ← hr]
    simp [oth, h1, h2, h3]
def body : Act Flw := (seqA (setA 3 (cst (.str "")))
    (seqA (Act.bnd (rangeA (consA (op2 addG (cst (.int 1)) (defA 2 F_law_take [true, false] [] (consA (var 1) (consA (cst (.int 8)) (Act.ret []))))) (Act.ret []))) (forA (tgName 4) inn))
    (seqA (setA 5 (defA 1 F_name_number [false] [] (consA (var 3) (Act.ret []))))
    (seqA (iteA (orA (notA (testA (defA 1 F_law_whole [false] [] (consA (var 5) (Act.ret []))))) (orA (testA (op2 neE (var 5) (defA 1 F_law_number [false] [] (consA (var 3) (Act.ret []))))) (orA (testA (op2 neE (defA 1 F_name_of [false] [] (consA (var 5) (Act.ret []))) (var 3))) (Act.ret false))))
    (retA (fun i => decide (i < 1)) (cst (.bl false)))
    (Act.ret .nx))
    (seqA (setA 6 (defA 2 F_law_take [true, false] [] (consA (var 1) (consA (op2 powG (cst (.int 10)) (cst (.int 30))) (Act.ret [])))))
    (seqA (setA 7 (lstA (consA (op2 addG (var 5) (cst (.int 1))) (consA (op2 subG (var 5) (defA 2 F_law_take [true, false] [] (consA (var 1) (consA (cst (.int 40)) (Act.ret []))))) (consA (op2 mulG (var 5) (cst (.int 36))) (Act.ret []))))))
    (Act.bnd (iterA (op2 addG (var 7) (lstA (consA (op2 subG (cst (.int 0)) (var 5)) (consA (var 6) (consA (op2 divG (var 5) (cst (.int 36))) (Act.ret []))))))) (forA (tgName 8) oth))))))))
theorem g_law_eq : g_law = (seqA (setA 1 (defA 2 F_law_feed [false, false] [] (consA (var 0) (consA (cst (.int 0)) (Act.ret [])))))
    (seqA (Act.bnd (rangeA (consA (cst (.int 12)) (Act.ret []))) (forA (tgName 2) body))
    (retA (fun i => decide (i < 1)) (andV (op2 isE (defA 1 F_name_of [false] [] (consA (cst (.int 0)) (Act.ret []))) (cst .non)) (andV (op2 isE (defA 1 F_name_of [false] [] (consA (cst (.int 9)) (Act.ret []))) (cst .non)) (op2 eqE (defA 1 F_name_of [false] [] (consA (cst (.int 10)) (Act.ret []))) (cst (.str "a")))))))) := rfl
theorem isN_let (l : List Nat) (h : ∀ c ∈ l, Let c) (h1 : 1 ≤ l.length) (h2 : l.length ≤ 8) : isN l = true := by
  unfold isN
  rw [decide_eq_true ⟨h1, h2⟩, Bool.true_and, List.all_eq_true]
  intro c hc
  exact decide_eq_true (mem_abc.mpr (h c hc))
theorem lst_ok {g : Act (List ER)} {ς ς1 ς2 : VS.St} {rs : List ER} {ds : List Dat} (h : g ς = some (.ok rs ς1)) (h2 : settleL ς1 rs = some (ds, ς2)) (h3 : ds.length ≤ sizeLine) : lstA g ς = some (.ok (.tp (.lst ds)) ς2) := by
  rw [x_lstA, x_bnd, h]
  simp only [h2, Option.bind_some]
  rw [if_pos h3]
theorem seq_ok {f g : Act Flw} {ς ς1 : VS.St} (h : f ς = some (.ok .nx ς1)) : seqA f g ς = g ς1 := by
  rw [x_seqA, x_bnd, h]
theorem q_1 (n : Int) (a b c d e f g h : Option VS.Slot) : op2 addG (var 5) (cst (.int 1)) ⟨[a, b, c, d, e, some (.fr (.int n)), f, g, h], []⟩ = some (.ok (.fr (.int (n + 1))) ⟨[a, b, c, d, e, some (.fr (.int n)), f, g, h], []⟩) := by simp
theorem q_3 (n : Int) (e3 : mulG (.int n) (.int 36) = some (.fr (.int (n * 36)))) (a b c d e f g h : Option VS.Slot) : op2 mulG (var 5) (cst (.int 36)) ⟨[a, b, c, d, e, some (.fr (.int n)), f, g, h], []⟩ = some (.ok (.fr (.int (n * 36))) ⟨[a, b, c, d, e, some (.fr (.int n)), f, g, h], []⟩) := by simp [e3]
theorem q_2 (F : FD) (n t3 a3 b3 a4 b4 : Int) (r8 : F [.ow (.lst [.int a3, .int b3]), .fr (.int 40)] [] = some (.ok (.fr (.int t3)) [.ow (.lst [.int a4, .int b4]), .fr (.int 40)] [])) (a b c d e f g h : Option VS.Slot) : op2 subG (var 5) (defA 2 F [true, false] [] (consA (var 1) (consA (cst (.int 40)) (Act.ret [])))) ⟨[a, some (.ow (.lst [.int a3, .int b3])), c, d, e, some (.fr (.int n)), f, g, h], []⟩ = some (.ok (.fr (.int (n - t3))) ⟨[a, some (.ow (.lst [.int a4, .int b4])), c, d, e, some (.fr (.int n)), f, g, h], []⟩) := by simp [r8]
theorem cons_ok {f : Act ER} {g : Act (List ER)} {ς ς1 ς2 : VS.St} {r : ER} {rs : List ER} (h : f ς = some (.ok r ς1)) (h2 : g ς1 = some (.ok rs ς2)) : consA f g ς = some (.ok (r :: rs) ς2) := by
  rw [x_consA, x_bnd, h]
  show Act.bnd g (fun rs => Act.ret (r :: rs)) ς1 = _
  rw [x_bnd, h2]
  rfl
theorem body_ok (s : Dat) (a b : Int) (x2 x3 x4 x5 x6 x7 x8 : Option VS.Slot) : ∃ (a' b' : Int) (x3' x4' x5' x6' x7' x8' : Option VS.Slot), body ⟨[some (.fr s), some (.ow (.lst [.int a, .int b])), x2, x3, x4, x5, x6, x7, x8], []⟩ = some (.ok .nx ⟨[some (.fr s), some (.ow (.lst [.int a', .int b'])), x2, x3', x4', x5', x6', x7', x8'], []⟩) := by
  obtain ⟨t1, a1, b1, r1, p1, p2⟩ := take_ok a b 8 [] (by decide) (by decide)
  have e1 : rangeF [.int (1 + t1)] = some (rangeD 0 (1 + t1).toNat) := by
    show (if inR (1 + t1) = true then _ else none) = _
    rw [if_pos (show inR (1 + t1) = true from decide_eq_true ⟨by omega, by omega⟩)]
  have hlen : (rangeD 0 (1 + t1).toNat).length = (1 + t1).toNat := by simp [rangeD]
  obtain ⟨a2, b2, l, x4', r2, q1, q2⟩ := inner (some (.fr s)) x2 x5 x6 x7 x8 (rangeD 0 (1 + t1).toNat) a1 b1 [] x4 (by rw [hlen]; simp only [List.length_nil]; omega) (fun c hc => nomatch hc)
  rw [hlen, List.length_nil] at q1
  have hl1 : 1 ≤ l.length := by omega
  have hl2 : l.length ≤ 8 := by omega
  have hne : l ≠ [] := fun z => by rw [z] at hl1; simp at hl1
  have r3 := number_ok (l := l) [] q2 hne hl2
  obtain ⟨d1, d2, d3⟩ := dgs_num l q2
  have hN : B36.num l < 36 ^ 8 := Nat.lt_of_lt_of_le d2 (Nat.pow_le_pow_right (by decide) hl2)
  have r4 := whole_ok ((B36.num l : Nat) : Int) []
  have r5 := law_number_ok l [] q2
  have r6 := name_of_pos (B36.num l) 8 [] hN (by decide)
  rw [d1, isN_let l q2 hl1 hl2] at r6
  have n1 : neE (.int ((B36.num l : Nat) : Int)) (.int ((B36.num l : Nat) : Int)) = some (.fr (.bl false)) := by
    show (Option.map (fun k => ER.fr (.bl (!k))) (some (decide (((B36.num l : Nat) : Int) = ((B36.num l : Nat) : Int))))) = _
    rw [decide_eq_true rfl]
    rfl
  have n2 : neE (.str (tx l)) (.str (tx l)) = some (.fr (.bl false)) := by
    show (Option.map (fun k => ER.fr (.bl (!k))) (some (decide (tx l = tx l)))) = _
    rw [decide_eq_true rfl]
    rfl
  obtain ⟨t2, a3, b3, r7, p3, p4⟩ := take_ok a2 b2 (10 ^ 30) [] (by decide) (by decide)
  obtain ⟨t3, a4, b4, r8, p5, p6⟩ := take_ok a3 b3 40 [] (by decide) (by decide)
  have hp : powG (.int 10) (.int 30) = some (.fr (.int (10 ^ 30))) := by rw [powG_int, if_pos (by decide)]; rfl
  generalize hn : ((B36.num l : Nat) : Int) = n at *
  have hn0 : n < 36 ^ 8 := by omega
  have hn1 : 0 ≤ n := by omega
  obtain ⟨x8', r9⟩ := others (some (.fr s)) (some (.ow (.lst [.int a4, .int b4]))) x2 (some (.fr (.str (tx l)))) x4' (some (.fr (.int n))) (some (.fr (.int t2))) (some (.ow (.lst [.int (n + 1), .int (n - t3), .int (n * 36)]))) [n + 1, n - t3, n * 36, 0 - n, t2, n / 36] x8 (by
    intro v hv
    simp only [List.mem_cons, List.not_mem_nil, or_false] at hv
    rcases hv with rfl | rfl | rfl | rfl | rfl | rfl <;> omega)
  have e2 : lstCat (.lst [.int (n + 1), .int (n - t3), .int (n * 36)]) (.lst [.int (-n), .int t2, .int (n / 36)]) = some (.tp (.lst [.int (n + 1), .int (n - t3), .int (n * 36), .int (-n), .int t2, .int (n / 36)])) := by
    show (if 3 + 3 ≤ sizeLine then some (ER.tp (.lst _)) else none) = _
    rw [if_pos (by decide)]
    rfl
  have e3 : mulG (.int n) (.int 36) = some (.fr (.int (n * 36))) := x_mul (.inr (by decide))
  have e4 : divG (.int n) (.int 36) = some (.fr (.int (n / 36))) := x_div (by decide) (by decide)
  have e5 : 3 ≤ sizeLine := by decide
  refine ⟨a4, b4, some (.fr (.str (tx l))), x4', some (.fr (.int n)), some (.fr (.int t2)), some (.ow (.lst [.int (n + 1), .int (n - t3), .int (n * 36)])), x8', ?_⟩
  rw [Int.zero_sub] at r9
  simp only [List.map_cons, List.map_nil] at r9
  generalize (10 : Int) ^ 30 = T at r7 hp
  unfold body
  generalize oth = O at r9 ⊢
  generalize inn = N at r2 ⊢
  generalize F_law_take = Ft at r1 r7 r8 ⊢
  generalize F_name_number = Fn at r3 ⊢
  generalize F_law_whole = Fw at r4 ⊢
  generalize F_law_number = Fl at r5 ⊢
  generalize F_name_of = Fo at r6 ⊢
  rw [seq_ok (ς1 := ⟨[some (.fr s), some (.ow (.lst [.int a, .int b])), x2, some (.fr (.str (tx []))), x4, x5, x6, x7, x8], []⟩) (by simp [nil_eq])]
  rw [seq_ok (ς1 := ⟨[some (.fr s), some (.ow (.lst [.int a2, .int b2])), x2, some (.fr (.str (tx l))), x4', x5, x6, x7, x8], []⟩) (by simp [r1, e1, r2])]
  rw [seq_ok (ς1 := ⟨[some (.fr s), some (.ow (.lst [.int a2, .int b2])), x2, some (.fr (.str (tx l))), x4', some (.fr (.int n)), x6, x7, x8], []⟩) (by simp [r3])]
  rw [seq_ok (ς1 := ⟨[some (.fr s), some (.ow (.lst [.int a2, .int b2])), x2, some (.fr (.str (tx l))), x4', some (.fr (.int n)), x6, x7, x8], []⟩) (by simp [r4, r5, r6, n1, n2])]
  rw [seq_ok (ς1 := ⟨[some (.fr s), some (.ow (.lst [.int a3, .int b3])), x2, some (.fr (.str (tx l))), x4', some (.fr (.int n)), some (.fr (.int t2)), x7, x8], []⟩) (by simp [hp, r7])]
  have L := lst_ok (cons_ok (q_1 n (some (.fr s)) (some (.ow (.lst [.int a3, .int b3]))) x2 (some (.fr (.str (tx l)))) x4' (some (.fr (.int t2))) x7 x8) (cons_ok (q_2 Ft n t3 a3 b3 a4 b4 r8 (some (.fr s)) none x2 (some (.fr (.str (tx l)))) x4' (some (.fr (.int t2))) x7 x8) (cons_ok (q_3 n e3 (some (.fr s)) (some (.ow (.lst [.int a4, .int b4]))) x2 (some (.fr (.str (tx l)))) x4' (some (.fr (.int t2))) x7 x8) (x_ret [])))) (ds := [.int (n + 1), .int (n - t3), .int (n * 36)]) rfl e5
  rw [seq_ok (ς1 := ⟨[some (.fr s), some (.ow (.lst [.int a4, .int b4])), x2, some (.fr (.str (tx l))), x4', some (.fr (.int n)), some (.fr (.int t2)), some (.ow (.lst [.int (n + 1), .int (n - t3), .int (n * 36)])), x8], []⟩) (by
    rw [x_setA, x_bnd, L]
    rfl)]
  simp [e2, e4, e5, r9]
theorem turns (s : Dat) : ∀ (ds : List Dat) (a b : Int) (x2 x3 x4 x5 x6 x7 x8 : Option VS.Slot), ∃ (a' b' : Int) (x2' x3' x4' x5' x6' x7' x8' : Option VS.Slot), forA (tgName 2) body ds ⟨[some (.fr s), some (.ow (.lst [.int a, .int b])), x2, x3, x4, x5, x6, x7, x8], []⟩ = some (.ok .nx ⟨[some (.fr s), some (.ow (.lst [.int a', .int b'])), x2', x3', x4', x5', x6', x7', x8'], []⟩)
  | [], a, b, x2, x3, x4, x5, x6, x7, x8 => ⟨a, b, x2, x3, x4, x5, x6, x7, x8, rfl⟩
  | d :: ds, a, b, x2, x3, x4, x5, x6, x7, x8 => by
    obtain ⟨a1, b1, y3, y4, y5, y6, y7, y8, h1⟩ := body_ok s a b (some (.fr d)) x3 x4 x5 x6 x7 x8
    obtain ⟨a', b', x2', x3', x4', x5', x6', x7', x8', h2⟩ := turns s ds a1 b1 (some (.fr d)) y3 y4 y5 y6 y7 y8
    refine ⟨a', b', x2', x3', x4', x5', x6', x7', x8', ?_⟩
    rw [x_forA_cons, ← h2]
    generalize body = B at h1 ⊢
    simp [h1]
theorem main (ns : List Int) (hn : ns.length ≤ 63) : ∃ outs ob, F_law [.fr (intsD ns)] [] = some (.ok (.fr (.bl true)) outs ob) := by
  obtain ⟨a, b, h1⟩ := feed_ok ns hn
  obtain ⟨a', b', x2, x3, x4, x5, x6, x7, x8, h2⟩ := turns (intsD ns) (rangeD 0 12) a b none none none none none none none
  have e1 : rangeF [.int 12] = some (rangeD 0 12) := rfl
  have r0 := name_of_neg 0 [] (by decide)
  have q9 : isN (dgs 9) = false := by decide +kernel
  have q10 : isN (dgs 10) = true ∧ dgs 10 = [97] := by decide +kernel
  have r9 := name_of_pos 9 1 [] (by decide) (by decide)
  have r10 := name_of_pos 10 1 [] (by decide) (by decide)
  rw [q9] at r9
  rw [q10.1, q10.2] at r10
  have e9 : (((9 : Nat)) : Int) = 9 := rfl
  have e10 : (((10 : Nat)) : Int) = 10 := rfl
  rw [e9] at r9
  rw [e10] at r10
  have n1 : isE .non .non = some (.fr (.bl true)) := rfl
  have n2 : eqE (.str (tx [97])) (.str "a") = some (.fr (.bl true)) := by
    show (Option.map (fun k => ER.fr (.bl k)) (some (decide (tx [97] = Str.ofString "a")))) = _
    rw [decide_eq_true (by decide +kernel)]
    rfl
  refine ⟨[.fr (intsD ns)], [], ?_⟩
  generalize intsD ns = S at h1 h2 ⊢
  generalize hb : body = B at h2
  unfold F_law
  rw [g_law_eq, hb]
  simp [h1, e1, h2, r0, r9, r10, n1, n2]
end K70

open PySem PySem.W PyProof.Rows in
set_option maxRecDepth 100000 in
set_option maxHeartbeats 0 in
theorem PySem.Challenge.cw_latehall_k70_numbers_of_names_holds : PySem.Challenge.rw_latehall_k70_numbers_of_names.Holds := by
  w_on; o_law; k_head; (case hw => w_witness2)
  k_fill
  refine VS.law_walk (l := PySem.Challenge.rw_latehall_k70_numbers_of_names) (k := 3) rfl rfl ⟨rfl, by decide, by decide⟩ (fun w h Y => PySem.W.kIn_of Y) ?F
  case F =>
    intro w mg fa h KX G hmg
    refine' K70.all_mk K70.main (P := PySem.Challenge.pw_latehall_k70_numbers_of_names) KX G hmg ?a_law_feed ?l_law_feed ?d_law_feed ?k_law_feed ?a_law_take ?l_law_take ?d_law_take ?k_law_take ?a_law_pick ?l_law_pick ?d_law_pick ?k_law_pick ?a_name_number ?l_name_number ?d_name_number ?k_name_number ?a_is_name ?l_is_name ?d_is_name ?k_is_name ?a_name_of ?l_name_of ?d_name_of ?k_name_of ?a_law_number ?l_law_number ?d_law_number ?k_law_number ?a_law_whole ?l_law_whole ?d_law_whole ?k_law_whole ?a_law_name ?l_law_name ?d_law_name ?k_law_name ?a_law ?l_law ?d_law ?k_law ?z_len ?z_abs ?z_BASE ?z_int ?z_MOST_LETTERS ?z_str ?z_isinstance ?z_LETTERS ?z_all ?z_DIGITS ?z_bool ?z_range ?z_list
    (case a_law_feed => k_is)
    (case l_law_feed => k_is)
    (case d_law_feed => k_is)
    (case k_law_feed => k_is)
    (case a_law_take => k_is)
    (case l_law_take => k_is)
    (case d_law_take => k_is)
    (case k_law_take => k_is)
    (case a_law_pick => k_is)
    (case l_law_pick => k_is)
    (case d_law_pick => k_is)
    (case k_law_pick => k_is)
    (case a_name_number => k_is)
    (case l_name_number => k_is)
    (case d_name_number => k_is)
    (case k_name_number => k_is)
    (case a_is_name => k_is)
    (case l_is_name => k_is)
    (case d_is_name => k_is)
    (case k_is_name => k_is)
    (case a_name_of => k_is)
    (case l_name_of => k_is)
    (case d_name_of => k_is)
    (case k_name_of => k_is)
    (case a_law_number => k_is)
    (case l_law_number => k_is)
    (case d_law_number => k_is)
    (case k_law_number => k_is)
    (case a_law_whole => k_is)
    (case l_law_whole => k_is)
    (case d_law_whole => k_is)
    (case k_law_whole => k_is)
    (case a_law_name => k_is)
    (case l_law_name => k_is)
    (case d_law_name => k_is)
    (case k_law_name => k_is)
    (case a_law => k_is)
    (case l_law => k_is)
    (case d_law => k_is)
    (case k_law => k_is)
    (case z_len => k_is)
    (case z_abs => k_is)
    (case z_BASE => k_is)
    (case z_int => k_is)
    (case z_MOST_LETTERS => k_is)
    (case z_str => k_is)
    (case z_isinstance => k_is)
    (case z_LETTERS => k_is)
    (case z_all => k_is)
    (case z_DIGITS => k_is)
    (case z_bool => k_is)
    (case z_range => k_is)
    (case z_list => k_is)
#print axioms PySem.Challenge.cw_latehall_k70_numbers_of_names_holds
